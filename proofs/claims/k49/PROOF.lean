import PyProof.Rows.All
import Wide.All
import OpenK.AllK
import Wide.FinOn
import PySem.Challenge.RW_clockslack_k49_errors_alone
import HandS.ForMost
import HandS.ForExc
import HandS.Wide
import HandS.Defaults
import HandS.SortInts
import HandS.Lambda
import HandS.TupAny
import HandS.TupMul
import HandS.Deep
import HandS.Codes
import HandS.IsInst
import HandS.RaiseMore
import HandS.WordsDict
import HandS.Style
import HandS.NoneIn
import HandS.SetFor
import HandS.Ends
import HandS.Conv
import HandS.Strs
import PyProof.ReprRoads
import PyProof.ReprLen
import PyProof.FitsInt
import PyProof.P3Eq
import PyProof.StrLawsRepr
import PyProof.Rows.RegStrFacts
import HandS.SetBool
import HandS.DictComp
import KE.GoesEnum
import HandS.Zip
import HandS.GenYield
import HandS.GenCall
import HandS.GenList
import HandS.TupLe
import HandS.More
import HandS.Iter
import KE.SortKeyHeap
import KE.KNestM
import HandS.ExcInit
import HandS.ExcField
import HandS.ExcIs
import HandS.TryMany
import KE.KExcIs
import KE.KEqNest
import HandS.Star
set_option Elab.async false
set_option linter.all false
set_option maxRecDepth 100000
set_option maxHeartbeats 4000000
/-! DL1: data, slots, the relation between slots and the abstract heap, how it evolves. -/
namespace DL
open PySem PySem.Spec PyProof.Rows L2
/-- a Python value as plain data -/
inductive D where
  | non | bl (b : Bool) | int (i : Int) | str (x : Str)
  | tup (xs : List D) | lst (xs : List D) | dic (ks : List Key) (vs : List D) | set (ks : List Int)
  | scr (ns : List Int) | ty (n : String)
  | obj (c : Str) (ns : List Str) (vs : List D)
  | ins (c : Str) (ns : List Str) (vs : List D)
/-- what an owned object holds -/
inductive Cont where
  | lst (xs : List D) | dic (ks : List Key) (vs : List D)
def Cont.toD : Cont → D
  | .lst xs => .lst xs
  | .dic ks vs => .dic ks vs
/-- own: made here; bor: lent by the caller; lck: read only for now -/
inductive Md where
  | own | bor | lck
  deriving DecidableEq
inductive Slot where
  | un | d (x : D) | ow (c : Cont) (m : Md)
abbrev DEnv := List Slot
/-- what an expression gives: data; a fresh object; the object of a slot -/
inductive Val where
  | d (x : D) | fr (c : Cont) | sl (i : Nat)
/-- an exception of a class of the program -/
structure Ex where
  c : Str
  ns : List Str
  vs : List D
inductive R (α : Type) where
  | ok (a : α) (ρ : DEnv) | ex (x : Ex) (ρ : DEnv) | bad
def R.bind {α β : Type} (r : R α) (g : α → DEnv → R β) : R β := match r with
  | .ok a ρ => g a ρ
  | .ex x ρ => .ex x ρ
  | .bad => .bad
abbrev M (α : Type) := DEnv → R α
abbrev EM := M Val
/-- an exception that was caught, of the class cls, its dict at d -/
def xoO (a : Addr) (cls : Value) (d : Addr) : HO := .ext fun h => ∃ (oe : Obj) (vs : Array Value), h.get? a = some oe ∧ oe.cls = cls ∧ oe.dict = some d ∧ oe.data = .fields vs
/-- an exception without a dict -/
def xo0 (a : Addr) (cls : Value) : HO := .ext fun h => ∃ (oe : Obj) (vs : Array Value), h.get? a = some oe ∧ oe.cls = cls ∧ oe.dict = none ∧ oe.data = .fields vs
/-- a dict that is a store of known answers: key i, if there, holds tb[i] -/
def cchF (a : Addr) (tb : List Int) (h : Heap) : Prop := ∃ (P : Program) (w : World) (kvs : List (Int × Value)), kvs.length ≤ sizeLine ∧ (a == sysModules) = false ∧ h.DictOf (mixKind P w) a (kvs.map fun p => (Sum.inl p.1, p.2)) ∧ ∀ p ∈ kvs, ∃ (i : Nat) (x : Int), p.1 = (i : Int) ∧ tb[i]? = some x ∧ RelV (.int x) p.2
def cchO (a : Addr) (tb : List Int) : HO := .ext (cchF a tb)
/-- the module's names (for the classes of exceptions) -/
class MgT where
  mg : Str → Option Value
section
variable [MgT]
section
variable (K : PySem.W.Frag) (F : Hp)
mutual
inductive Rep : V → D → Prop
  | non : Rep .non .non
  | bl (b : Bool) : Rep (.bl b) (.bl b)
  | int (i : Int) : Rep (.int i) (.int i)
  | str (x : Str) : Rep (.str x) (.str x)
  | lst {a : Addr} {xs : List V} {ds : List D} : F a = some (.lst xs) → RepL xs ds → Rep (.ref a) (.lst ds)
  | tup {a : Addr} {xs : List V} {ds : List D} : SqT K F a xs → RepL xs ds → Rep (.ref a) (.tup ds)
  | dic {a : Addr} {o : Obj} {ks : List Key} {xs : List V} {ds : List D} : F a = some (.frz o (.dK (ks.zip xs))) → ks.length = xs.length → RepL xs ds → Rep (.ref a) (.dic ks ds)
  | scr {a : Addr} {ns : List Int} : SqL K F a (ns.map V.int) → Rep (.ref a) (.scr ns)
  | ty (n : String) : Rep (.ty n) (.ty n)
  | obj {a d : Addr} {cls : Value} {c : Str} {ns : List Str} {xs : List V} {ds : List D} : F a = some (xoO a cls d) → MgT.mg c = some cls → F d = some (.xd (ns.zip xs)) → ns.length = xs.length → RepL xs ds → Rep (.ref a) (.obj c ns ds)
  | ob0 {a : Addr} {cls : Value} {c : Str} : F a = some (xo0 a cls) → MgT.mg c = some cls → Rep (.ref a) (.obj c [] [])
  | pt (a : Addr) : Rep (.ref a) (.set [Int.ofNat a])
  | opq (a : Addr) : Rep (.ref a) (.set [])
  | cch {a : Addr} {tb : List Int} : F a = some (cchO a tb) → Rep (.ref a) (.set (0 :: 0 :: tb))
  | ins {a C dx : Addr} {c : Str} {ns : List Str} {xs : List V} {ds : List D} : F a = some (.ins C dx (ns.zip xs)) → MgT.mg c = some (.ref C) → ns.length = xs.length → RepL xs ds → Rep (.ref a) (.ins c ns ds)
inductive RepL : List V → List D → Prop
  | nil : RepL [] []
  | cons {v : V} {vs : List V} {d : D} {ds : List D} : Rep v d → RepL vs ds → RepL (v :: vs) (d :: ds)
end
end
structure RdLe (F F' : Hp) : Prop where
  «1» : ∀ a xs, F a = some (.lst xs) → F' a = some (.lst xs)
  «2» : ∀ a u, Rd F a u → Rd F' a u
  fr : ∀ a o u, F a = some (.frz o u) → F' a = some (.frz o u)
  xo : ∀ a cls d, F a = some (xoO a cls d) → F' a = some (xoO a cls d)
  xd : ∀ a fs, F a = some (.xd fs) → F' a = some (.xd fs)
  x0 : ∀ a cls, F a = some (xo0 a cls) → F' a = some (xo0 a cls)
  ins : ∀ a C dx fs, F a = some (.ins C dx fs) → F' a = some (.ins C dx fs)
  cc : ∀ a tb, F a = some (cchO a tb) → F' a = some (cchO a tb)
theorem RdLe.of {F F' : Hp} (h : Same F F') : RdLe F F' := ⟨fun a xs e => h a _ e, fun a u e => by
  rcases e with e | ⟨o, e⟩
  · exact .inl (h _ _ e)
  · exact .inr ⟨o, h _ _ e⟩, fun a o u e => h a _ e, fun a cls d e => h a _ e, fun a fs e => h a _ e, fun a cls e => h a _ e, fun a C dx fs e => h a _ e, fun a tb e => h a _ e⟩
theorem RdLe.sqT {K : PySem.W.Frag} {F F' : Hp} (h : RdLe F F') {a : Addr} {xs : List V} (s : SqT K F a xs) : SqT K F' a xs := by
  rcases s with s | s
  · exact .inl (h.2 _ _ s)
  · exact .inr s
theorem RdLe.sqL {K : PySem.W.Frag} {F F' : Hp} (h : RdLe F F') {a : Addr} {xs : List V} (s : SqL K F a xs) : SqL K F' a xs := by
  rcases s with s | s
  · exact .inl (h.2 _ _ s)
  · exact .inr s
section
variable {K : PySem.W.Frag} {F F' : Hp}
mutual
theorem Rep.mono (h : RdLe F F') : ∀ {v : V} {d : D}, Rep K F v d → Rep K F' v d
  | _, _, .non => .non
  | _, _, .bl b => .bl b
  | _, _, .int i => .int i
  | _, _, .str x => .str x
  | _, _, .lst e r => .lst (h.1 _ _ e) (RepL.mono h r)
  | _, _, .tup e r => .tup (h.sqT e) (RepL.mono h r)
  | _, _, .dic e l r => .dic (h.fr _ _ _ e) l (RepL.mono h r)
  | _, _, .scr e => .scr (h.sqL e)
  | _, _, .ty n => .ty n
  | _, _, .obj e1 e2 e3 l r => .obj (h.xo _ _ _ e1) e2 (h.xd _ _ e3) l (RepL.mono h r)
  | _, _, .ob0 e1 e2 => .ob0 (h.x0 _ _ e1) e2
  | _, _, .pt a => .pt a
  | _, _, .opq a => .opq a
  | _, _, .cch e => .cch (h.cc _ _ e)
  | _, _, .ins e1 e2 l r => .ins (h.ins _ _ _ _ e1) e2 l (RepL.mono h r)
theorem RepL.mono (h : RdLe F F') : ∀ {v : List V} {d : List D}, RepL K F v d → RepL K F' v d
  | _, _, .nil => .nil
  | _, _, .cons a b => .cons (Rep.mono h a) (RepL.mono h b)
end
theorem RepL.length : ∀ {vs : List V} {ds : List D}, RepL K F vs ds → vs.length = ds.length
  | _, _, .nil => rfl
  | _, _, .cons _ b => congrArg (· + 1) (RepL.length b)
theorem RepL.app : ∀ {vs us : List V} {ds es : List D}, RepL K F vs ds → RepL K F us es → RepL K F (vs ++ us) (ds ++ es)
  | _, _, _, _, .nil, r => r
  | _, _, _, _, .cons a b, r => .cons a (RepL.app b r)
theorem RepL.one {v : V} {d : D} (h : Rep K F v d) : RepL K F [v] [d] := .cons h .nil
theorem RepL.get : ∀ {vs : List V} {ds : List D} {i : Nat} {d : D}, RepL K F vs ds → ds[i]? = some d → ∃ v, vs[i]? = some v ∧ Rep K F v d
  | _, _, _, _, .nil, e => by simp at e
  | _, _, 0, _, .cons a b, e => by simp at e; subst e; exact ⟨_, rfl, a⟩
  | _, _, i + 1, d, .cons a b, e => by
    obtain ⟨v, h1, h2⟩ := RepL.get (i := i) (d := d) b (by simpa using e)
    exact ⟨v, by simpa using h1, h2⟩
theorem RepL.getV : ∀ {vs : List V} {ds : List D} {i : Nat} {v : V}, RepL K F vs ds → vs[i]? = some v → ∃ d, ds[i]? = some d ∧ Rep K F v d
  | _, _, _, _, .nil, e => by simp at e
  | _, _, 0, _, .cons a b, e => by simp at e; subst e; exact ⟨_, rfl, a⟩
  | _, _, i + 1, v, .cons a b, e => by
    obtain ⟨d, h1, h2⟩ := RepL.getV (i := i) (v := v) b (by simpa using e)
    exact ⟨d, by simpa using h1, h2⟩
theorem RepL.set {v : V} {d : D} (h : Rep K F v d) : ∀ {vs : List V} {ds : List D} (i : Nat), RepL K F vs ds → RepL K F (vs.set i v) (ds.set i d)
  | _, _, _, .nil => .nil
  | _, _, 0, .cons a b => .cons h b
  | _, _, i + 1, .cons a b => .cons a (RepL.set h i b)
theorem RepL.take : ∀ {vs : List V} {ds : List D} (n : Nat), RepL K F vs ds → RepL K F (vs.take n) (ds.take n)
  | _, _, 0, _ => .nil
  | _, _, _ + 1, .nil => .nil
  | _, _, n + 1, .cons a b => .cons a (RepL.take n b)
theorem RepL.drop : ∀ {vs : List V} {ds : List D} (n : Nat), RepL K F vs ds → RepL K F (vs.drop n) (ds.drop n)
  | _, _, 0, r => r
  | _, _, _ + 1, .nil => .nil
  | _, _, n + 1, .cons a b => RepL.drop n b
theorem RepL.reverse : ∀ {vs : List V} {ds : List D}, RepL K F vs ds → RepL K F vs.reverse ds.reverse
  | _, _, .nil => .nil
  | _, _, .cons a b => by
    rw [List.reverse_cons, List.reverse_cons]
    exact (RepL.reverse b).app (.one a)
theorem RepL.intsV : ∀ {vs : List V} {ns : List Int}, RepL K F vs (ns.map D.int) → vs = ns.map V.int
  | _, [], .nil => rfl
  | _, n :: ns, .cons a b => by
    cases a
    rw [RepL.intsV b]
    rfl
theorem RepL.flatten : ∀ {vs : List V} {ds : List D} (n : Nat), RepL K F vs ds → RepL K F (List.replicate n vs).flatten (List.replicate n ds).flatten
  | _, _, 0, _ => .nil
  | _, _, n + 1, r => by
    rw [List.replicate_succ, List.replicate_succ, List.flatten_cons, List.flatten_cons]
    exact r.app (RepL.flatten n r)
end
/-- no table of code objects -/
def NT (o : HO) : Prop := ∀ ps, o ≠ .tbl ps
/-- a table of code objects, or a code object -/
def KT (a : Addr) (o : HO) : Prop := (∃ ps, o = .tbl ps) ∨ ∃ q, o = LamX.CodeO a q
def CRep (K : PySem.W.Frag) (F H : Hp) (a : Addr) : Cont → Prop
  | .lst ds => ∃ vs, H a = some (.lst vs) ∧ RepL K F vs ds
  | .dic ks ds => ∃ vs, H a = some (.dK (ks.zip vs)) ∧ ks.length = vs.length ∧ RepL K F vs ds
theorem CRep.mono {K : PySem.W.Frag} {F F' H H' : Hp} {a : Addr} (hF : RdLe F F') (hH : H' a = H a) : ∀ {c : Cont}, CRep K F H a c → CRep K F' H' a c
  | .lst ds, ⟨vs, e, r⟩ => ⟨vs, hH.trans e, r.mono hF⟩
  | .dic ks ds, ⟨vs, e, l, r⟩ => ⟨vs, hH.trans e, l, r.mono hF⟩
theorem CRep.nt {K : PySem.W.Frag} {F H : Hp} {a : Addr} {o : HO} (h : H a = Option.some o) {c : Cont} (cr : CRep K F H a c) : NT o := fun ps z => by
  subst z
  cases c with
  | lst ds => obtain ⟨vs, e, r⟩ := cr; rw [h] at e; cases e
  | dic ks ds => obtain ⟨vs, e, l, r⟩ := cr; rw [h] at e; cases e
theorem CRep.kt {K : PySem.W.Frag} {F H : Hp} {a : Addr} {o : HO} (h : H a = Option.some o) {c : Cont} (cr : CRep K F H a c) : ¬ KT a o := fun z => by
  cases c with
  | lst ds =>
    obtain ⟨vs, e, r⟩ := cr
    rw [h] at e
    rcases z with ⟨ps, rfl⟩ | ⟨g, rfl⟩
    · cases e
    · unfold LamX.CodeO at e; cases e
  | dic ks ds =>
    obtain ⟨vs, e, l, r⟩ := cr
    rw [h] at e
    rcases z with ⟨ps, rfl⟩ | ⟨g, rfl⟩
    · cases e
    · unfold LamX.CodeO at e; cases e
theorem CRep.some {K : PySem.W.Frag} {F H : Hp} {a : Addr} : ∀ {c : Cont}, CRep K F H a c → ∃ o, H a = some o
  | .lst ds, ⟨vs, e, r⟩ => ⟨_, e⟩
  | .dic ks ds, ⟨vs, e, l, r⟩ => ⟨_, e⟩
/-- the object under which it is frozen: a dict is locked, too -/
def FrzO (c : Cont) (o o' : HO) : Prop := match c with
  | .lst _ => o' = o
  | .dic _ _ => ∃ od, o' = .frz od o
theorem CRep.rep {K : PySem.W.Frag} {F F' H : Hp} {a : Addr} {o o' : HO} (hF : RdLe F F') (ho : H a = Option.some o) (hH : F' a = Option.some o') : ∀ {c : Cont}, FrzO c o o' → CRep K F H a c → Rep K F' (.ref a) c.toD
  | .lst ds, z, ⟨vs, e, r⟩ => by
    obtain rfl : o' = o := z
    rw [ho] at e; cases e
    exact .lst hH (r.mono hF)
  | .dic ks ds, z, ⟨vs, e, l, r⟩ => by
    obtain ⟨od, rfl⟩ := z
    rw [ho] at e; cases e
    exact .dic hH l (r.mono hF)
def SlotR (K : PySem.W.Frag) (F H : Hp) (ov : Option V) : Slot → Prop
  | .un => True
  | .d x => ∃ v, ov = some v ∧ Rep K F v x
  | .ow c _ => ∃ a, ov = some (.ref a) ∧ F a = none ∧ CRep K F H a c
end
/-- the tables of code objects that may be written, with the names of their code objects; what is frozen from the start -/
class TabT extends MgT where
  T : List (Addr × Str)
  FB : Hp
variable [TabT]
/-- a slot owns the object at a -/
def Ow (σ : L2.St) (ρ : DEnv) (a : Addr) : Prop := ∃ (i : Nat) (c : Cont) (m : Md), ρ[i]? = some (Slot.ow c m) ∧ σ[i]? = some (some (V.ref a))
/-- .. and may change it -/
def Mt (σ : L2.St) (ρ : DEnv) (a : Addr) : Prop := ∃ (i : Nat) (c : Cont) (m : Md), ρ[i]? = some (Slot.ow c m) ∧ m ≠ Md.lck ∧ σ[i]? = some (some (V.ref a))
theorem Mt.ow {σ : L2.St} {ρ : DEnv} {a : Addr} : Mt σ ρ a → Ow σ ρ a := fun ⟨i, c, m, h, _, q⟩ => ⟨i, c, m, h, q⟩
structure TabOk (F H : Hp) : Prop where
  tabs : LamX.Tabs TabT.T H
  out : ∀ p ∈ TabT.T, F p.1 = none
  base : Same TabT.FB F
theorem TabOk.step {F H F' H' : Hp} (t : TabOk F H) (sf : Same F F') (k : ∀ a o, KT a o → H a = some o → H' a = some o) (n : ∀ a, KT a (H a |>.getD (.lst [])) → F a = none → F' a = none) : TabOk F' H' := by
  refine ⟨fun p hp => ?_, fun p hp => ?_, fun a o e => sf _ _ (t.base _ _ e)⟩
  · obtain ⟨ps, h1, h2, h3⟩ := t.tabs p hp
    refine ⟨ps, k _ _ (.inl ⟨ps, rfl⟩) h1, h2, fun pos cv hc => ?_⟩
    obtain ⟨c, e1, e2⟩ := h3 pos cv hc
    exact ⟨c, e1, k _ _ (.inr ⟨_, rfl⟩) e2⟩
  · obtain ⟨ps, h1, _⟩ := t.tabs p hp
    exact n p.1 (by rw [h1]; exact .inl ⟨ps, rfl⟩) (t.out p hp)
theorem TabOk.frz {F H : Hp} {a : Addr} {o o' : HO} (t : TabOk F H) (h : H a = some o) (nk : ¬ KT a o) (fa : F a = none) : TabOk (upd F a o') (upd H a o') := by
  refine t.step (fun b u e => by rw [upd_ne (ne_of_none e fa)]; exact e) (fun b u k e => ?_) fun b k e => ?_
  · by_cases z : b = a
    · subst z; rw [h] at e; cases e; exact absurd k nk
    · rw [upd_ne z]; exact e
  · by_cases z : b = a
    · subst z; rw [h] at k; exact absurd k nk
    · rw [upd_ne z]; exact e
theorem TabOk.own {F H : Hp} {a : Addr} {o o' : HO} (t : TabOk F H) (h : H a = some o) (nk : ¬ KT a o) : TabOk F (upd H a o') := by
  refine t.step (Same.refl _) (fun b u k e => ?_) fun b _ e => e
  by_cases z : b = a
  · subst z; rw [h] at e; cases e; exact absurd k nk
  · rw [upd_ne z]; exact e
structure SR (K : PySem.W.Frag) (F H : Hp) (σ : L2.St) (ρ : DEnv) : Prop where
  len : σ.length = ρ.length
  sub : Same F H
  slot : ∀ (i : Nat) (s : Slot), ρ[i]? = some s → ∃ ov, σ[i]? = some ov ∧ SlotR K F H ov s
  dist : ∀ (i j : Nat) (c : Cont) (m : Md) (c' : Cont) (m' : Md) (a : Addr), ρ[i]? = some (.ow c m) → ρ[j]? = some (.ow c' m') → σ[i]? = some (some (.ref a)) → σ[j]? = some (some (.ref a)) → i = j
  tab : TabOk F H
/-- from (σ, ρ, F, H) to (σ', ρ', F', H') -/
structure Ev (σ : L2.St) (ρ : DEnv) (F H : Hp) (σ' : L2.St) (ρ' : DEnv) (F' H' : Hp) : Prop where
  ext : Same F F'
  keep : ∀ a o, H a = some o → ¬ Mt σ ρ a → NT o → H' a = some o
  newF : ∀ a, F a = none → F' a ≠ none → H a = none ∨ Ow σ ρ a
  dom : ∀ a, H a ≠ none → H' a ≠ none
  bor : ∀ (i : Nat) (c : Cont) (m : Md), ρ[i]? = some (.ow c m) → m ≠ .own → σ'[i]? = σ[i]? ∧ ∃ c' : Cont, ρ'[i]? = some (.ow c' m) ∧ (m = .lck → c' = c)
  own' : ∀ a, Ow σ' ρ' a → H a = none ∨ Ow σ ρ a
  mt' : ∀ a, Mt σ' ρ' a → H a = none ∨ Mt σ ρ a
section
variable {σ σ1 σ2 : L2.St} {ρ ρ1 ρ2 : DEnv} {F F1 F2 H H1 H2 : Hp}
theorem Ev.refl : Ev σ ρ F H σ ρ F H := ⟨Same.refl _, fun _ _ e _ _ => e, fun _ e n => absurd e n, fun _ h => h, fun i c m e _ => ⟨rfl, c, e, fun _ => rfl⟩, fun _ h => .inr h, fun _ h => .inr h⟩
theorem Ev.trans (a : Ev σ ρ F H σ1 ρ1 F1 H1) (b : Ev σ1 ρ1 F1 H1 σ2 ρ2 F2 H2) : Ev σ ρ F H σ2 ρ2 F2 H2 where
  ext := a.ext.trans b.ext
  keep := fun x o e n nt => by
    refine b.keep x o (a.keep x o e n nt) (fun m => ?_) nt
    rcases a.mt' x m with z | z
    · rw [e] at z; cases z
    · exact n z
  newF := fun x e n => by
    by_cases q : F1 x = none
    · rcases b.newF x q n with z | z
      · cases hx : H x with
        | none => exact .inl rfl
        | some o => exact absurd z (a.dom x (by rw [hx]; simp))
      · exact a.own' x z
    · exact a.newF x e q
  dom := fun x h => b.dom x (a.dom x h)
  bor := fun i c m e hm => by
    obtain ⟨s1, c1, r1, l1⟩ := a.bor i c m e hm
    obtain ⟨s2, c2, r2, l2⟩ := b.bor i c1 m r1 hm
    exact ⟨s2.trans s1, c2, r2, fun z => (l2 z).trans (l1 z)⟩
  own' := fun x h => by
    rcases b.own' x h with z | z
    · cases hx : H x with
      | none => exact .inl rfl
      | some o => exact absurd z (a.dom x (by rw [hx]; simp))
    · exact a.own' x z
  mt' := fun x h => by
    rcases b.mt' x h with z | z
    · cases hx : H x with
      | none => exact .inl rfl
      | some o => exact absurd z (a.dom x (by rw [hx]; simp))
    · exact a.mt' x z
end
/-- only new objects: of the abstract heap, of its frozen part -/
structure Gr (F H F' H' : Hp) : Prop where
  ext : Same F F'
  all : Same H H'
  sub : Same F' H'
  newF : ∀ a, F a = none → F' a ≠ none → H a = none
theorem Gr.refl {F H : Hp} (h : Same F H) : Gr F H F H := ⟨Same.refl _, Same.refl _, h, fun _ e n => absurd e n⟩
theorem Gr.trans {F H F1 H1 F2 H2 : Hp} (a : Gr F H F1 H1) (b : Gr F1 H1 F2 H2) : Gr F H F2 H2 := ⟨a.ext.trans b.ext, a.all.trans b.all, b.sub, fun x e n => by
  by_cases q : F1 x = none
  · exact Same.free a.all (b.newF x q n)
  · exact a.newF x e q⟩
section
variable {K : PySem.W.Frag} {σ : L2.St} {ρ : DEnv} {F H F' H' : Hp}
theorem Gr.tab (g : Gr F H F' H') (t : TabOk F H) : TabOk F' H' := t.step g.ext (fun a o _ e => g.all a o e) fun a k e => by
  cases h : F' a with
  | none => rfl
  | some u =>
    have := g.newF a e (by rw [h]; simp)
    rw [this] at k
    rcases k with ⟨ps, z⟩ | ⟨q, z⟩
    · cases z
    · unfold LamX.CodeO at z; cases z
theorem Gr.sr (g : Gr F H F' H') (s : SR K F H σ ρ) : SR K F' H' σ ρ := by
  refine ⟨s.len, g.sub, fun i sl e => ?_, s.dist, g.tab s.tab⟩
  obtain ⟨ov, h1, h2⟩ := s.slot i sl e
  refine ⟨ov, h1, ?_⟩
  cases sl with
  | un => trivial
  | d x => obtain ⟨v, q, r⟩ := h2; exact ⟨v, q, r.mono (.of g.ext)⟩
  | ow c m =>
    obtain ⟨a, q, fn, r⟩ := h2
    obtain ⟨o, ho⟩ := r.some
    refine ⟨a, q, ?_, r.mono (.of g.ext) ((g.all _ _ ho).trans ho.symm)⟩
    cases hF : F' a with
    | none => rfl
    | some u =>
      have z := g.newF a fn (by rw [hF]; simp)
      rw [ho] at z
      cases z
theorem Gr.ev (g : Gr F H F' H') : Ev σ ρ F H σ ρ F' H' := ⟨g.ext, fun a o e _ _ => g.all a o e, fun a e n => .inl (g.newF a e n), fun a h => by
  cases q : H a with
  | none => exact absurd q h
  | some o => rw [g.all a o q]; simp, fun i c m e _ => ⟨rfl, c, e, fun _ => rfl⟩, fun _ h => .inr h, fun _ h => .inr h⟩
/-- a new object, not frozen -/
theorem Gr.fresh {p : Addr} {o : HO} (h : Same F H) (n : H p = none) : Gr F H F (upd H p o) := ⟨Same.refl _, fun b u e => by rw [upd_ne (ne_of_none e n)]; exact e, fun b u e => by rw [upd_ne (ne_of_none (h _ _ e) n)]; exact h _ _ e, fun _ e z => absurd e z⟩
/-- a new object, frozen -/
theorem Gr.froz {p : Addr} {o : HO} (h : Same F H) (n : H p = none) : Gr F H (upd F p o) (upd H p o) := by
  have nF : F p = none := Same.free h n
  refine ⟨fun b u e => by rw [upd_ne (ne_of_none e nF)]; exact e, fun b u e => by rw [upd_ne (ne_of_none e n)]; exact e, fun b u e => ?_, fun b e z => ?_⟩
  · by_cases q : b = p
    · subst q; rw [upd_same] at e ⊢; exact e
    · rw [upd_ne q] at e ⊢; exact h _ _ e
  · by_cases q : b = p
    · subst q; exact n
    · rw [upd_ne q] at z; exact absurd e z
end
/-- the value v is x; Hb: the heap where the evaluation began -/
def VR (K : PySem.W.Frag) (σ : L2.St) (Hb F H : Hp) (ρ : DEnv) (v : V) : Val → Prop
  | .d x => Rep K F v x
  | .fr c => ∃ p, v = .ref p ∧ Hb p = none ∧ F p = none ∧ CRep K F H p c ∧ ¬ Ow σ ρ p
  | .sl i => σ[i]? = some (some v)
section
variable {K : PySem.W.Frag} {σ : L2.St} {ρ ρ' : DEnv} {Hb Hb' F H F' H' : Hp}
theorem VR.ev {v : V} {x : Val} (h : VR K σ Hb F H ρ v x) (ev : Ev σ ρ F H σ ρ' F' H') : VR K σ Hb F' H' ρ' v x := by
  cases x with
  | d x => exact Rep.mono (.of ev.ext) h
  | sl i => exact h
  | fr c =>
    obtain ⟨p, e, nb, nF, cr, no⟩ := h
    obtain ⟨o, ho⟩ := cr.some
    have nn : ¬ H p = none := fun z => by rw [ho] at z; cases z
    refine ⟨p, e, nb, ?_, cr.mono (.of ev.ext) ((ev.keep p o ho (fun m => no m.ow) (CRep.nt ho cr)).trans ho.symm), fun z => (ev.own' p z).elim nn no⟩
    cases hF : F' p with
    | none => rfl
    | some u => exact ((ev.newF p nF (by rw [hF]; simp)).elim nn no).elim
theorem VR.base {v : V} {x : Val} (h : VR K σ Hb F H ρ v x) (d : ∀ a, Hb' a ≠ none → Hb a ≠ none) : VR K σ Hb' F H ρ v x := by
  cases x with
  | d x => exact h
  | sl i => exact h
  | fr c =>
    obtain ⟨p, e, nb, r⟩ := h
    refine ⟨p, e, ?_, r⟩
    cases q : Hb' p with
    | none => rfl
    | some u => exact absurd nb (d p (by rw [q]; simp))
end
structure VRL (K : PySem.W.Frag) (σ : L2.St) (Hb F H : Hp) (ρ : DEnv) (vs : List V) (xs : List Val) : Prop where
  all : Paired (VR K σ Hb F H ρ) vs xs
  frs : ∀ (i j : Nat) (c c' : Cont) (p : Addr), xs[i]? = some (.fr c) → xs[j]? = some (.fr c') → vs[i]? = some (.ref p) → vs[j]? = some (.ref p) → i = j
/-- an exception, as what HandS tells of it -/
def XR (K : PySem.W.Frag) (mg : Str → Option Value) (F : Hp) (x : Ex) (cls : Value) (dd : Option Addr) : Prop :=
  mg x.c = some cls ∧ ∃ d vs, dd = some d ∧ F d = some (.xd (x.ns.zip vs)) ∧ x.ns.length = vs.length ∧ RepL K F vs x.vs
section
variable {α β γ δ : Type}
/-- how results lie -/
abbrev RelT (β α : Type) := Hp → Hp → Hp → DEnv → β → α → Prop
def Out (K : PySem.W.Frag) (mg : Str → Option Value) (E : XK) (rel : RelT β α) (σ : L2.St) (ρ : DEnv) (F H : Hp) (r : R α) (Q : β → Hp → Prop) : Prop :=
  match r with
  | .ok x ρ' => ∀ v F' H', SR K F' H' σ ρ' → Ev σ ρ F H σ ρ' F' H' → rel H F' H' ρ' v x → Q v H'
  | .ex x ρ' => ∀ cls dd F' H', SR K F' H' σ ρ' → Ev σ ρ F H σ ρ' F' H' → XR K mg F' x cls dd → E cls dd H'
  | .bad => False
variable {K : PySem.W.Frag} {mg : Str → Option Value} {E : XK} {rel : RelT β α} {rel2 : RelT δ γ} {σ : L2.St} {ρ ρ1 : DEnv} {F H F1 H1 : Hp}
theorem Out.bind {r : R α} {g : α → DEnv → R γ} {Q : δ → Hp → Prop} (h : Out K mg E rel2 σ ρ F H (r.bind g) Q) :
    Out K mg E rel σ ρ F H r (fun v H1 => ∃ x F1 ρ1, r = .ok x ρ1 ∧ SR K F1 H1 σ ρ1 ∧ Ev σ ρ F H σ ρ1 F1 H1 ∧ rel H F1 H1 ρ1 v x ∧ Out K mg E rel2 σ ρ F H (g x ρ1) Q) := by
  cases r with
  | ok x ρ' => exact fun v F' H' s e r => ⟨x, F', ρ', rfl, s, e, r, h⟩
  | ex x ρ' => exact h
  | bad => exact h
theorem Out.from {r : R α} {Q : β → Hp → Prop} (h : Out K mg E rel σ ρ F H r Q) (ev : Ev σ ρ F H σ ρ1 F1 H1) (hrel : ∀ F' H' ρ' v x, rel H1 F' H' ρ' v x → rel H F' H' ρ' v x) : Out K mg E rel σ ρ1 F1 H1 r Q := by
  cases r with
  | ok x ρ' => exact fun v F' H' s e r => h v F' H' s (ev.trans e) (hrel _ _ _ _ _ r)
  | ex x ρ' => exact fun c d F' H' s e r => h c d F' H' s (ev.trans e) r
  | bad => exact h
theorem Out.mono {r : R α} {Q Q' : β → Hp → Prop} (h : Out K mg E rel σ ρ F H r Q) (hQ : ∀ v H', Q v H' → Q' v H') : Out K mg E rel σ ρ F H r Q' := by
  cases r with
  | ok x ρ' => exact fun v F' H' s e r => hQ _ _ (h v F' H' s e r)
  | ex x ρ' => exact h
  | bad => exact h
end
def relV (K : PySem.W.Frag) (σ : L2.St) : RelT V Val := fun Hb F H ρ v x => VR K σ Hb F H ρ v x
def relL (K : PySem.W.Frag) (σ : L2.St) : RelT (List V) (List Val) := fun Hb F H ρ v x => VRL K σ Hb F H ρ v x
def relB : RelT Bool Bool := fun _ _ _ _ v x => v = x
/-- an expression's reading, by a function of the slots -/
def tD (K : PySem.W.Frag) (mg : Str → Option Value) (W : WX) (f : EM) : TE := fun σ H Q => ∃ F ρ, SR K F H σ ρ ∧ Out K mg (fun c d H => W c d σ H) (relV K σ) σ ρ F H (f ρ) Q
def tT (K : PySem.W.Frag) (mg : Str → Option Value) (W : WX) (f : M Bool) : TT := fun σ H Q => ∃ F ρ, SR K F H σ ρ ∧ Out K mg (fun c d H => W c d σ H) relB σ ρ F H (f ρ) Q
def tA (K : PySem.W.Frag) (mg : Str → Option Value) (W : WX) (f : M (List Val)) : TA := fun σ H Q => ∃ F ρ, SR K F H σ ρ ∧ Out K mg (fun c d H => W c d σ H) (relL K σ) σ ρ F H (f ρ) Q
/-- THE JUDGEMENTS -/
def DE (X : Cx) (E : WX) (e : Expr) (f : EM) : Prop := PE X e (tD X.K X.mg E f)
def DT (X : Cx) (E : WX) (e : Expr) (f : M Bool) : Prop := PT X e (tT X.K X.mg E f)
def DW (X : Cx) (E : WX) (e : Expr) (f : M Bool) : Prop := PW X e (tT X.K X.mg E f)
def DA (X : Cx) (E : WX) (es : List Expr) (f : M (List Val)) : Prop := PA X es (tA X.K X.mg E f)
theorem pe_conseq {X : Cx} {e : Expr} {t t' : TE} (h : PE X e t) (c : ∀ σ H Q, t' σ H Q → t σ H Q) : PE X e t' := ⟨fun pins s σ H Q I q => h.run pins s σ H Q I (c _ _ _ q)⟩
theorem pt_conseq {X : Cx} {e : Expr} {t t' : TT} (h : PT X e t) (c : ∀ σ H Q, t' σ H Q → t σ H Q) : PT X e t' := ⟨fun pins s σ H Q I q => h.run pins s σ H Q I (c _ _ _ q)⟩
theorem pw_conseq {X : Cx} {e : Expr} {t t' : TT} (h : PW X e t) (c : ∀ σ H Q, t' σ H Q → t σ H Q) : PW X e t' := ⟨fun w pins s σ H Q I q => h.run w pins s σ H Q I (c _ _ _ q)⟩
theorem pa_conseq {X : Cx} {es : List Expr} {t t' : TA} (h : PA X es t) (c : ∀ σ H Q, t' σ H Q → t σ H Q) : PA X es t' := ⟨fun pos pins s σ H Q I q => h.run pos pins s σ H Q I (c _ _ _ q)⟩
theorem pe_or2 {X : Cx} {e : Expr} {t u : TE} (h : PE X e t) (h' : PE X e u) : PE X e (fun σ H Q => t σ H Q ∨ u σ H Q) := ⟨fun pins s σ H Q I q => q.elim (h.run pins s σ H Q I) (h'.run pins s σ H Q I)⟩
/-! ### reading a value without freezing it -/
def Slot.peek : Slot → Option D
  | .un => none
  | .d x => some x
  | .ow c _ => some c.toD
def Val.peek (ρ : DEnv) : Val → Option D
  | .d x => some x
  | .fr c => some c.toD
  | .sl i => match ρ[i]? with
    | some s => s.peek
    | none => none
/-- data whose top may lie in H alone -/
def RepT (K : PySem.W.Frag) (F H : Hp) (v : V) : D → Prop
  | .lst ds => ∃ a xs, v = .ref a ∧ H a = some (.lst xs) ∧ RepL K F xs ds
  | .dic ks ds => ∃ a xs, v = .ref a ∧ Rd H a (.dK (ks.zip xs)) ∧ ks.length = xs.length ∧ RepL K F xs ds
  | d => Rep K F v d
section
variable {K : PySem.W.Frag} {σ : L2.St} {ρ : DEnv} {Hb F H : Hp} {v : V}
theorem Rep.top {d : D} (s : Same F H) (h : Rep K F v d) : RepT K F H v d := by
  cases h with
  | lst e r => exact ⟨_, _, rfl, s _ _ e, r⟩
  | dic e l r => exact ⟨_, _, rfl, .inr ⟨_, s _ _ e⟩, l, r⟩
  | non => exact .non
  | bl b => exact .bl b
  | int i => exact .int i
  | str x => exact .str x
  | tup e r => exact .tup e r
  | scr e => exact .scr e
  | ty n => exact .ty n
  | obj e1 e2 e3 l r => exact .obj e1 e2 e3 l r
  | ob0 e1 e2 => exact .ob0 e1 e2
  | pt a => exact .pt a
  | opq a => exact .opq a
  | cch e => exact .cch e
  | ins e1 e2 l r => exact .ins e1 e2 l r
theorem CRep.top {a : Addr} {c : Cont} (h : CRep K F H a c) : RepT K F H (.ref a) c.toD := by
  cases c with
  | lst ds => obtain ⟨vs, e, r⟩ := h; exact ⟨_, _, rfl, e, r⟩
  | dic ks ds => obtain ⟨vs, e, l, r⟩ := h; exact ⟨_, _, rfl, .inl e, l, r⟩
theorem RepT.rep {d : D} (nd : ∀ ks vs, d ≠ .dic ks vs) (s : Same F H) (h : RepT K F H v d) : Rep K H v d := by
  cases d with
  | lst ds => obtain ⟨a, xs, rfl, e, r⟩ := h; exact .lst e (r.mono (.of s))
  | dic ks ds => exact absurd rfl (nd ks ds)
  | non => exact Rep.mono (.of s) h
  | bl _ => exact Rep.mono (.of s) h
  | int _ => exact Rep.mono (.of s) h
  | str _ => exact Rep.mono (.of s) h
  | tup _ => exact Rep.mono (.of s) h
  | set _ => exact Rep.mono (.of s) h
  | scr _ => exact Rep.mono (.of s) h
  | ty _ => exact Rep.mono (.of s) h
  | obj _ _ _ => exact Rep.mono (.of s) h
  | ins _ _ _ => exact Rep.mono (.of s) h
theorem SlotR.peek {s : Slot} {d : D} (sub : Same F H) (h : SlotR K F H (some v) s) (e : s.peek = some d) : RepT K F H v d := by
  cases s with
  | un => cases e
  | d x =>
    cases e
    obtain ⟨u, q, r⟩ := h
    cases q
    exact r.top sub
  | ow c m =>
    cases e
    obtain ⟨a, q, _, r⟩ := h
    cases q
    exact r.top
theorem VR.peek {x : Val} {d : D} (sr : SR K F H σ ρ) (h : VR K σ Hb F H ρ v x) (e : x.peek ρ = some d) : RepT K F H v d := by
  cases x with
  | d x => cases e; exact Rep.top sr.sub h
  | fr c =>
    cases e
    obtain ⟨p, rfl, _, _, r, _⟩ := h
    exact r.top
  | sl i =>
    have h : σ[i]? = some (some v) := h
    unfold Val.peek at e
    dsimp only at e
    cases q : ρ[i]? with
    | none => rw [q] at e; cases e
    | some s =>
      rw [q] at e
      obtain ⟨ov, h1, h2⟩ := sr.slot i s q
      rw [h] at h1
      cases h1
      exact h2.peek sr.sub e
end
/-! ### freezing -/
def Val.fzA (x : Val) (ρ : DEnv) : R Val := match x with
  | .d x => .ok (.d x) ρ
  | .fr c => .ok (.d c.toD) ρ
  | .sl i => match ρ[i]? with
    | some (.d x) => .ok (.d x) ρ
    | some (.ow c .own) => .ok (.d c.toD) (ρ.set i (.d c.toD))
    | _ => .bad
/-- the same for lists alone (a dict is locked when it is frozen: that takes a step of its own) -/
def Val.fz (x : Val) (ρ : DEnv) : R Val := match x with
  | .d x => .ok (.d x) ρ
  | .fr (.lst ds) => .ok (.d (.lst ds)) ρ
  | .fr (.dic _ _) => .bad
  | .sl i => match ρ[i]? with
    | some (.d x) => .ok (.d x) ρ
    | some (.ow (.lst ds) .own) => .ok (.d (.lst ds)) (ρ.set i (.d (.lst ds)))
    | _ => .bad
def fz (f : EM) : EM := fun ρ => (f ρ).bind Val.fzA
end DL
/-! DL2: expressions. -/
namespace DL
open PySem PySem.Spec PyProof.Rows L2
variable [TabT]
theorem ow_set_d {σ : L2.St} {ρ : DEnv} {i : Nat} {x : D} {a : Addr} (h : Ow σ (ρ.set i (.d x)) a) : Ow σ ρ a := by
  obtain ⟨j, c, m, e, q⟩ := h
  by_cases hj : i = j
  · subst hj
    by_cases hl : i < ρ.length
    · rw [List.getElem?_set_self hl] at e; cases e
    · rw [List.getElem?_eq_none (by simpa using hl)] at e; cases e
  · rw [List.getElem?_set_ne hj] at e
    exact ⟨j, c, m, e, q⟩
theorem mt_set_d {σ : L2.St} {ρ : DEnv} {i : Nat} {x : D} {a : Addr} (h : Mt σ (ρ.set i (.d x)) a) : Mt σ ρ a := by
  obtain ⟨j, c, m, e, n, q⟩ := h
  by_cases hj : i = j
  · subst hj
    by_cases hl : i < ρ.length
    · rw [List.getElem?_set_self hl] at e; cases e
    · rw [List.getElem?_eq_none (by simpa using hl)] at e; cases e
  · rw [List.getElem?_set_ne hj] at e
    exact ⟨j, c, m, e, n, q⟩
section
variable {K : PySem.W.Frag} {σ σb : L2.St} {ρ ρb ρ2 : DEnv} {Hb Fb F H : Hp} {v : V} {x y : Val}
theorem froz_ext {p : Addr} {o : HO} (n : F p = none) : Same F (upd F p o) := fun b u q => by rw [upd_ne (ne_of_none q n)]; exact q
theorem fzA_ok (sr : SR K F H σ ρ) (ev : Ev σb ρb Fb Hb σ ρ F H) (h : VR K σ Hb F H ρ v x) (e : x.fzA ρ = .ok y ρ2) :
    (∃ d, y = .d d ∧ ρ2 = ρ ∧ Rep K F v d) ∨ ∃ a c o, v = .ref a ∧ y = .d c.toD ∧ H a = some o ∧ CRep K F H a c ∧
      (∀ o', FrzO c o o' → SR K (upd F a o') (upd H a o') σ ρ2 ∧ Ev σb ρb Fb Hb σ ρ2 (upd F a o') (upd H a o') ∧ Rep K (upd F a o') v c.toD) := by
  have ext : ∀ {a : Addr} {o o' : HO} {c : Cont}, F a = none → Same F (upd F a o') := fun {a o o' c} n => froz_ext n
  have sub : ∀ {a : Addr} {o' : HO}, Same (upd F a o') (upd H a o') := fun {a o'} b u q => by
    by_cases z : b = a
    · subst z; rw [upd_same] at q ⊢; exact q
    · rw [upd_ne z] at q ⊢; exact sr.sub _ _ q
  cases x with
  | d x => cases e; exact .inl ⟨x, rfl, rfl, h⟩
  | fr c =>
    cases e
    obtain ⟨p, rfl, nb, nF, cr, no⟩ := h
    obtain ⟨o, ho⟩ := cr.some
    refine .inr ⟨p, c, o, rfl, rfl, ho, cr, fun o' fo => ⟨⟨sr.len, sub, fun i s q => ?_, sr.dist, sr.tab.frz ho (CRep.kt ho cr) nF⟩, ⟨ev.ext.trans (froz_ext nF), fun b ob q n nt => ?_, fun a q n => ?_, fun b q => ?_, ev.bor, ev.own', ev.mt'⟩, cr.rep (.of (froz_ext nF)) ho upd_same fo⟩⟩
    · obtain ⟨ov, h1, h2⟩ := sr.slot i s q
      refine ⟨ov, h1, ?_⟩
      cases s with
      | un => trivial
      | d z => obtain ⟨u, e1, r⟩ := h2; exact ⟨u, e1, r.mono (.of (froz_ext nF))⟩
      | ow c' m =>
        obtain ⟨a, e1, fa, r⟩ := h2
        have ne : a ≠ p := fun z => no ⟨i, c', m, q, by rw [h1, e1, z]⟩
        exact ⟨a, e1, by rw [upd_ne ne]; exact fa, r.mono (.of (froz_ext nF)) (upd_ne ne)⟩
    · rw [upd_ne (fun z => by rw [z, nb] at q; cases q)]; exact ev.keep b ob q n nt
    · by_cases z : a = p
      · subst z; exact .inl nb
      · rw [upd_ne z] at n; exact ev.newF a q n
    · by_cases z : b = p
      · subst z; rw [upd_same]; simp
      · rw [upd_ne z]; exact ev.dom b q
  | sl i =>
    have h : σ[i]? = some (some v) := h
    unfold Val.fzA at e
    dsimp only at e
    cases q : ρ[i]? with
    | none => rw [q] at e; cases e
    | some s =>
      rw [q] at e
      obtain ⟨ov, h1, h2⟩ := sr.slot i s q
      rw [h] at h1; cases h1
      cases s with
      | un => cases e
      | d z =>
        cases e
        obtain ⟨u, e1, r⟩ := h2
        cases e1
        exact .inl ⟨z, rfl, rfl, r⟩
      | ow c m =>
        cases m with
        | bor => cases e
        | lck => cases e
        | own =>
          cases e
          obtain ⟨a, e1, fa, cr⟩ := h2
          cases e1
          obtain ⟨o, ho⟩ := cr.some
          have hl : i < ρ.length := by
            rcases Nat.lt_or_ge i ρ.length with z | z
            · exact z
            · rw [List.getElem?_eq_none z] at q; cases q
          have mt : Mt σ ρ a := ⟨i, c, .own, q, by decide, h⟩
          refine .inr ⟨a, c, o, rfl, rfl, ho, cr, fun o' fo => ⟨⟨by rw [List.length_set]; exact sr.len, sub, fun j s q' => ?_, fun j k c1 m1 c2 m2 b q1 q2 => ?_, sr.tab.frz ho (CRep.kt ho cr) fa⟩, ⟨ev.ext.trans (froz_ext fa), fun b ob q' n nt => ?_, fun b q' n => ?_, fun b q' => ?_, fun j c1 m1 q' hm => ?_, fun b z => ev.own' b (ow_set_d z), fun b z => ev.mt' b (mt_set_d z)⟩, cr.rep (.of (froz_ext fa)) ho upd_same fo⟩⟩
          · by_cases hj : i = j
            · subst hj
              rw [List.getElem?_set_self hl] at q'; cases q'
              exact ⟨_, h, .ref a, rfl, cr.rep (.of (froz_ext fa)) ho upd_same fo⟩
            · rw [List.getElem?_set_ne hj] at q'
              obtain ⟨ov, h1, h2⟩ := sr.slot j s q'
              refine ⟨ov, h1, ?_⟩
              cases s with
              | un => trivial
              | d z => obtain ⟨u, e1, r⟩ := h2; exact ⟨u, e1, r.mono (.of (froz_ext fa))⟩
              | ow c' m' =>
                obtain ⟨b, e1, fb, r⟩ := h2
                have ne : b ≠ a := fun z => hj (sr.dist i j _ _ _ _ a q q' h (by rw [h1, e1, z]))
                exact ⟨b, e1, by rw [upd_ne ne]; exact fb, r.mono (.of (froz_ext fa)) (upd_ne ne)⟩
          · by_cases hj : i = j
            · subst hj; rw [List.getElem?_set_self hl] at q1; cases q1
            · by_cases hk : i = k
              · subst hk; rw [List.getElem?_set_self hl] at q2; cases q2
              · rw [List.getElem?_set_ne hj] at q1
                rw [List.getElem?_set_ne hk] at q2
                exact sr.dist j k c1 m1 c2 m2 b q1 q2
          · rw [upd_ne (fun z => by
              subst z
              rcases ev.mt' _ mt with z | z
              · rw [z] at q'; cases q'
              · exact n z)]
            exact ev.keep b ob q' n nt
          · by_cases z : b = a
            · subst z; exact ev.own' b ⟨i, c, _, q, h⟩
            · rw [upd_ne z] at n; exact ev.newF b q' n
          · by_cases z : b = a
            · subst z; rw [upd_same]; simp
            · rw [upd_ne z]; exact ev.dom b q'
          · obtain ⟨z1, c3, z2, z3⟩ := ev.bor j c1 m1 q' hm
            refine ⟨z1, c3, ?_, z3⟩
            by_cases hj : i = j
            · subst hj
              rw [q] at z2
              cases z2
              exact absurd rfl hm
            · rw [List.getElem?_set_ne hj]; exact z2
theorem fz_fzA {x y : Val} {ρ ρ2 : DEnv} (e : x.fz ρ = .ok y ρ2) : x.fzA ρ = .ok y ρ2 ∧ ∀ ks ds, y = .d (.dic ks ds) → x = .d (.dic ks ds) ∨ ∃ i, x = .sl i ∧ ρ[i]? = some (.d (.dic ks ds)) := by
  cases x with
  | d x => cases e; exact ⟨rfl, fun ks ds h => by cases h; exact .inl rfl⟩
  | fr c =>
    cases c with
    | lst ds => cases e; exact ⟨rfl, fun ks ds h => by cases h⟩
    | dic ks ds => cases e
  | sl i =>
    unfold Val.fz at e
    unfold Val.fzA
    dsimp only at e ⊢
    split at e
    · rename_i z; rw [z]; cases e; exact ⟨rfl, fun ks ds h => by cases h; exact .inr ⟨i, rfl, z⟩⟩
    · rename_i z; rw [z]; cases e; exact ⟨rfl, fun ks ds h => by cases h⟩
    · cases e
theorem upd_id {H : Hp} {a : Addr} {o : HO} (h : H a = some o) : upd H a o = H := funext fun b => by
  by_cases z : b = a
  · subst z; rw [upd_same, h]
  · rw [upd_ne z]
theorem fz_ok (sr : SR K F H σ ρ) (ev : Ev σb ρb Fb Hb σ ρ F H) (h : VR K σ Hb F H ρ v x) (e : x.fz ρ = .ok y ρ2) :
    ∃ F2 d, y = .d d ∧ SR K F2 H σ ρ2 ∧ Ev σb ρb Fb Hb σ ρ2 F2 H ∧ Rep K F2 v d := by
  obtain ⟨e1, e2⟩ := fz_fzA e
  rcases fzA_ok sr ev h e1 with ⟨d, rfl, rfl, r⟩ | ⟨a, c, o, rfl, rfl, ho, cr, f⟩
  · exact ⟨F, d, rfl, sr, ev, r⟩
  · cases c with
    | lst ds =>
      obtain ⟨s2, ev2, r2⟩ := f o rfl
      rw [upd_id ho] at s2 ev2
      exact ⟨_, _, rfl, s2, ev2, r2⟩
    | dic ks ds =>
      rcases e2 ks ds rfl with rfl | ⟨i, rfl, q⟩
      · cases e; exact ⟨F, _, rfl, sr, ev, h⟩
      · have e3 : (Val.sl i).fz ρ = .ok (.d (.dic ks ds)) ρ := by unfold Val.fz; dsimp only; rw [q]
        rw [e3] at e; cases e
        obtain ⟨ov, h1, h2⟩ := sr.slot i _ q
        have h : σ[i]? = some (some (V.ref a)) := h
        rw [h] at h1; cases h1
        obtain ⟨u, q1, r⟩ := h2
        cases q1
        exact ⟨F, _, rfl, sr, ev, r⟩
end
section
variable {X : Cx} {E : WX} {xk : XK} {a b c e : Expr} {es : List Expr} {f g h : EM} {pos : Pos}
/-- behind an expression a dict may be locked for good -/
theorem pe_lockP {X : Cx} {e : Expr} {t : TE} (h : PE X e t) : PE X e (fun σ H Q => t σ H fun v H1 => Q v H1 ∨ ∃ a kvs, H1 a = some (.dK kvs) ∧ ∀ od, Q v (upd H1 a (.frz od (.dK kvs)))) := by
  refine ⟨fun pins s σ H Q I hq => thn (h.run pins s σ H _ I hq) fun u s1 ⟨x, H1, I1, r, q⟩ => ?_⟩
  rcases q with q | ⟨a, kvs, ha, q⟩
  · exact ⟨x, H1, I1, r, q⟩
  · obtain ⟨od, I2⟩ := I1.lock ha True.intro
    exact ⟨x, _, I2, r, q od⟩
theorem de_fz (H : DE X E e f) : DE X E e (fz f) := by
  refine pe_conseq (pe_lockP H) fun σ H Q hq => ?_
  obtain ⟨F, ρ, sr, q⟩ := hq
  refine ⟨F, ρ, sr, (Out.bind (rel := relV X.K σ) q).mono fun v H1 h1 => ?_⟩
  obtain ⟨x, F1, ρ1, e1, s1, ev1, r1, o1⟩ := h1
  cases hx : x.fzA ρ1 with
  | bad => rw [hx] at o1; exact o1.elim
  | ex z ρ2 =>
    exfalso
    cases x with
    | d x => cases hx
    | fr c => cases hx
    | sl i =>
      unfold Val.fzA at hx
      dsimp only at hx
      split at hx <;> cases hx
  | ok y ρ2 =>
    rw [hx] at o1
    rcases fzA_ok s1 ev1 r1 hx with ⟨d, rfl, rfl, r⟩ | ⟨a, c, o, rfl, rfl, ho, cr, g⟩
    · exact .inl (o1 v F1 H1 s1 ev1 r)
    · cases c with
      | lst ds =>
        obtain ⟨s2, ev2, r2⟩ := g o rfl
        rw [upd_id ho] at s2 ev2
        exact .inl (o1 _ _ H1 s2 ev2 r2)
      | dic ks ds =>
        obtain ⟨vs, e, _⟩ := id cr
        rw [ho] at e; cases e
        refine .inr ⟨a, _, ho, fun od => ?_⟩
        obtain ⟨s2, ev2, r2⟩ := g (.frz od (.dK (ks.zip vs))) ⟨od, rfl⟩
        exact o1 _ _ _ s2 ev2 r2
def eVar (i : Nat) : EM := fun ρ => match ρ[i]? with
  | some (.d x) => .ok (.d x) ρ
  | some (.ow _ _) => .ok (.sl i) ρ
  | _ => .bad
theorem de_var (i : Nat) {x : Str} (hN : X.N[i]? = some x := by rfl) (hv : Vis X.env.scope x := by first | exact Or.inl rfl | exact Or.inr (Or.inl rfl) | exact Or.inr (Or.inr rfl)) (hd : (x == ("__debug__" : Str)) = false := by decide)
    (hcd : (x == ("__classdict__" : Str)) = false := by decide) : DE X E (.Name x pos) (eVar i) := by
  refine pe_conseq (pe_var hN hv hd hcd) fun σ H Q hq => ?_
  obtain ⟨F, ρ, sr, q⟩ := hq
  unfold eVar at q
  cases hs : ρ[i]? with
  | none => rw [hs] at q; exact q.elim
  | some s =>
    rw [hs] at q
    obtain ⟨ov, h1, h2⟩ := sr.slot i s hs
    cases s with
    | un => exact q.elim
    | d x =>
      obtain ⟨v, rfl, r⟩ := h2
      exact ⟨v, h1, q v F H sr .refl r⟩
    | ow c m =>
      obtain ⟨a, rfl, r⟩ := h2
      exact ⟨_, h1, q (.ref a) F H sr .refl h1⟩
def eC (x : D) : EM := fun ρ => .ok (.d x) ρ
theorem de_const {t : TE} {v : V} {x : D} (h : PE X e (tC v)) (r : ∀ F, Rep X.K F v x) : DE X E e (eC x) := by
  refine pe_conseq h fun σ H Q hq => ?_
  obtain ⟨F, ρ, sr, q⟩ := hq
  exact q v F H sr .refl (r F)
theorem de_int {i j} : DE X E (.Constant (.int i) j pos) (eC (.int i)) := de_const (t := tC .non) pe_int fun _ => .int i
theorem de_bl {b j} : DE X E (.Constant (.bool b) j pos) (eC (.bl b)) := de_const (t := tC .non) pe_bl fun _ => .bl b
theorem de_non {j} : DE X E (.Constant .none j pos) (eC .non) := de_const (t := tC .non) pe_non fun _ => .non
theorem de_str {x j} : DE X E (.Constant (.str x) j pos) (eC (.str x)) := de_const (t := tC .non) pe_str fun _ => .str x
/-! ### operations on what is only read -/
/-- a new result -/
def VN (K : PySem.W.Frag) (Hb F H : Hp) (v : V) : Val → Prop
  | .d x => Rep K F v x
  | .fr c => ∃ p, v = .ref p ∧ Hb p = none ∧ F p = none ∧ CRep K F H p c
  | .sl _ => False
def OpS (K : PySem.W.Frag) (r : R2) (op : D → D → Option Val) : Prop :=
  ∀ F H v w a b z Q, Same F H → RepT K F H v a → RepT K F H w b → op a b = some z → (∀ u F' H', Gr F H F' H' → VN K H F' H' u z → Q u H') → r v w H Q
def UnS (K : PySem.W.Frag) (r : V → Hp → VK → Prop) (op : D → Option Val) : Prop :=
  ∀ F H v a z Q, Same F H → RepT K F H v a → op a = some z → (∀ u F' H', Gr F H F' H' → VN K H F' H' u z → Q u H') → r v H Q
def RepTL (K : PySem.W.Frag) (F H : Hp) : List V → List D → Prop := Paired (RepT K F H)
def CallS (K : PySem.W.Frag) (r : List V → Hp → VK → Prop) (op : List D → Option Val) : Prop :=
  ∀ F H vs as z Q, Same F H → RepTL K F H vs as → op as = some z → (∀ u F' H', Gr F H F' H' → VN K H F' H' u z → Q u H') → r vs H Q
def ret1 (o : Option Val) : EM := fun ρ => match o with
  | some z => .ok z ρ
  | none => .bad
def opV (op : D → D → Option Val) (x y : Val) : EM := fun ρ => match x.peek ρ, y.peek ρ with
  | some a, some b => ret1 (op a b) ρ
  | _, _ => .bad
def unV (op : D → Option Val) (x : Val) : EM := fun ρ => match x.peek ρ with
  | some a => ret1 (op a) ρ
  | _ => .bad
def peekL (ρ : DEnv) : List Val → Option (List D)
  | [] => some []
  | x :: xs => match x.peek ρ, peekL ρ xs with
    | some a, some as => some (a :: as)
    | _, _ => none
def callV (op : List D → Option Val) (xs : List Val) : EM := fun ρ => match peekL ρ xs with
  | some as => ret1 (op as) ρ
  | _ => .bad
def eOp (op : D → D → Option Val) (f g : EM) : EM := fun ρ => (f ρ).bind fun x ρ1 => (g ρ1).bind fun y ρ2 => opV op x y ρ2
def eUn (op : D → Option Val) (f : EM) : EM := fun ρ => (f ρ).bind fun x ρ1 => unV op x ρ1
def eCallB (op : List D → Option Val) (f : M (List Val)) : EM := fun ρ => (f ρ).bind fun x ρ1 => callV op x ρ1
section
variable {K : PySem.W.Frag} {mg : Str → Option Value} {σ : L2.St} {ρ : DEnv} {F H : Hp} {v w : V} {x y : Val}
theorem VN.vr {F' H' : Hp} {u : V} {z : Val} (sr : SR K F H σ ρ) (h : VN K H F' H' u z) : VR K σ H F' H' ρ u z := by
  cases z with
  | d x => exact h
  | sl _ => exact h.elim
  | fr c =>
    obtain ⟨p, e, n, nF, cr⟩ := h
    refine ⟨p, e, n, nF, cr, fun ⟨i, c', m, q1, q2⟩ => ?_⟩
    obtain ⟨ov, h1, a, h2, _, cr'⟩ := sr.slot i _ q1
    rw [q2] at h1; cases h1
    cases h2
    obtain ⟨o, ho⟩ := cr'.some
    rw [n] at ho; cases ho
theorem ret1_ok {o : Option Val} {Q : VK} (sr : SR K F H σ ρ) (h : Out K mg xk (relV K σ) σ ρ F H (ret1 o ρ) Q) :
    ∃ z, o = some z ∧ ∀ u F' H', Gr F H F' H' → VN K H F' H' u z → Q u H' := by
  cases o with
  | none => exact h.elim
  | some z => exact ⟨z, rfl, fun u F' H' g vn => h u F' H' (g.sr sr) g.ev (vn.vr sr)⟩
theorem opV_ok {r : R2} {op : D → D → Option Val} {Q : VK} {Hb Hb' : Hp} (s : OpS K r op) (sr : SR K F H σ ρ) (rx : VR K σ Hb F H ρ v x) (ry : VR K σ Hb' F H ρ w y) (h : Out K mg xk (relV K σ) σ ρ F H (opV op x y ρ) Q) : r v w H Q := by
  unfold opV at h
  cases hx : x.peek ρ with
  | none => rw [hx] at h; exact h.elim
  | some a =>
    cases hy : y.peek ρ with
    | none => rw [hx, hy] at h; exact h.elim
    | some b =>
      rw [hx, hy] at h
      obtain ⟨z, e, q⟩ := ret1_ok sr h
      exact s F H v w a b z Q sr.sub (rx.peek sr hx) (ry.peek sr hy) e q
theorem unV_ok {r : V → Hp → VK → Prop} {op : D → Option Val} {Q : VK} {Hb : Hp} (s : UnS K r op) (sr : SR K F H σ ρ) (rx : VR K σ Hb F H ρ v x) (h : Out K mg xk (relV K σ) σ ρ F H (unV op x ρ) Q) : r v H Q := by
  unfold unV at h
  cases hx : x.peek ρ with
  | none => rw [hx] at h; exact h.elim
  | some a =>
    rw [hx] at h
    obtain ⟨z, e, q⟩ := ret1_ok sr h
    exact s F H v a z Q sr.sub (rx.peek sr hx) e q
theorem peekL_ok {Hb : Hp} (sr : SR K F H σ ρ) : ∀ {vs : List V} {xs : List Val} {as : List D}, Paired (VR K σ Hb F H ρ) vs xs → peekL ρ xs = some as → RepTL K F H vs as
  | _, _, _, .nil, e => by cases e; exact .nil
  | _, _, _, .cons (b := x) (l₂ := xs) r t, e => by
    unfold peekL at e
    cases hx : x.peek ρ with
    | none => rw [hx] at e; cases e
    | some a =>
      cases hy : peekL ρ xs with
      | none => rw [hx, hy] at e; cases e
      | some as =>
        rw [hx, hy] at e
        cases e
        exact .cons (r.peek sr hx) (peekL_ok sr t hy)
theorem callV_ok {r : List V → Hp → VK → Prop} {op : List D → Option Val} {Q : VK} {Hb : Hp} {vs : List V} {xs : List Val} (s : CallS K r op) (sr : SR K F H σ ρ) (rx : VRL K σ Hb F H ρ vs xs) (h : Out K mg xk (relV K σ) σ ρ F H (callV op xs ρ) Q) : r vs H Q := by
  unfold callV at h
  cases hx : peekL ρ xs with
  | none => rw [hx] at h; exact h.elim
  | some as =>
    rw [hx] at h
    obtain ⟨z, e, q⟩ := ret1_ok sr h
    exact s F H vs as z Q sr.sub (peekL_ok sr rx.all hx) e q
end
/-- two operands in a row -/
theorem two {r : R2} {op : D → D → Option Val} (s : OpS X.K r op) {σ : L2.St} {H : Hp} {Q : VK} (hq : tD X.K X.mg E (eOp op f g) σ H Q) : tOp r (tD X.K X.mg E f) (tD X.K X.mg E g) σ H Q := by
  obtain ⟨F, ρ, sr, q⟩ := hq
  refine ⟨F, ρ, sr, (Out.bind (rel := relV X.K σ) q).mono fun v H1 ⟨x, F1, ρ1, e1, s1, ev1, r1, o1⟩ => ?_⟩
  refine ⟨F1, ρ1, s1, ?_⟩
  have o2 := o1.from ev1 fun F' H' ρ' v x (h : VR X.K σ H1 F' H' ρ' v x) => VR.base h ev1.dom
  refine (Out.bind (rel := relV X.K σ) o2).mono fun w H2 ⟨y, F2, ρ2, e2, s2, ev2, r2, o3⟩ => ?_
  exact opV_ok s s2 (VR.ev r1 ev2) r2 (o3.from ev2 fun F' H' ρ' v x (h : VR X.K σ H2 F' H' ρ' v x) => VR.base h ev2.dom)
theorem one1 {r : V → Hp → VK → Prop} {op : D → Option Val} (s : UnS X.K r op) {σ : L2.St} {H : Hp} {Q : VK} (hq : tD X.K X.mg E (eUn op f) σ H Q) : tUn r (tD X.K X.mg E f) σ H Q := by
  obtain ⟨F, ρ, sr, q⟩ := hq
  refine ⟨F, ρ, sr, (Out.bind (rel := relV X.K σ) q).mono fun v H1 ⟨x, F1, ρ1, e1, s1, ev1, r1, o1⟩ => ?_⟩
  exact unV_ok s s1 r1 (o1.from ev1 fun F' H' ρ' v x (h : VR X.K σ H1 F' H' ρ' v x) => VR.base h ev1.dom)
theorem de_op {o : Operator} {r : R2} {op : D → D → Option Val} (ho : OpR X (binaryOp o) r) (s : OpS X.K r op) (ha : DE X E a f) (hb : DE X E b g) : DE X E (.BinOp a o b pos) (eOp op f g) :=
  pe_conseq (pe_op ho ha hb) fun _ _ _ => two s
theorem de_cmp {o : CmpOp} {r : R2} {op : D → D → Option Val} (ho : OpR X (compareOp o) r) (s : OpS X.K r op) (ha : DE X E a f) (hb : DE X E b g) (hm : behindInMarks o b = false := by rfl) : DE X E (.Compare a [o] [b] pos) (eOp op f g) :=
  pe_conseq (pe_cmpR ho ha hb hm) fun _ _ _ => two s
theorem de_un {o : UnaryOp} {r : V → Hp → VK → Prop} {op : D → Option Val} (ho : UnR X (unaryOp o) r) (s : UnS X.K r op) (ha : DE X E a f) : DE X E (.UnaryOp o a pos) (eUn op f) :=
  pe_conseq (pe_un ho ha) fun _ _ _ => one1 s
/-! ### tests -/
def bT (x : Val) : M Bool := fun ρ => match x with
  | .d (.bl b) => .ok b ρ
  | _ => .bad
def tst (f : EM) : M Bool := fun ρ => (f ρ).bind bT
theorem bT_ok {K : PySem.W.Frag} {mg : Str → Option Value} {σ : L2.St} {ρ : DEnv} {F H Hb : Hp} {v : V} {x : Val} {Q : Bool → Hp → Prop} (sr : SR K F H σ ρ) (rx : VR K σ Hb F H ρ v x) (h : Out K mg xk relB σ ρ F H (bT x ρ) Q) : ∃ k, v = .bl k ∧ Q k H := by
  cases x with
  | fr c => exact h.elim
  | sl i => exact h.elim
  | d d =>
    cases d with
    | bl b =>
      have rx : Rep K F v (.bl b) := rx
      cases rx
      exact ⟨b, rfl, h b F H sr .refl rfl⟩
    | _ => exact h.elim
theorem tst_ok {σ : L2.St} {H : Hp} {Q : Bool → Hp → Prop} (hq : tT X.K X.mg E (tst f) σ H Q) : tD X.K X.mg E f σ H fun x H' => ∃ k, x = .bl k ∧ Q k H' := by
  obtain ⟨F, ρ, sr, q⟩ := hq
  refine ⟨F, ρ, sr, (Out.bind (rel := relV X.K σ) q).mono fun v H1 ⟨x, F1, ρ1, e1, s1, ev1, r1, o1⟩ => ?_⟩
  exact bT_ok s1 r1 (o1.from ev1 fun F' H' ρ' v x (h : v = x) => h)
theorem dt_cmp {o : CmpOp} {r : R2} {op : D → D → Option Val} (ho : OpR X (compareOp o) r) (s : OpS X.K r op) (ha : DE X E a f) (hb : DE X E b g) (hm : behindInMarks o b = false := by rfl) : DT X E (.Compare a [o] [b] pos) (tst (eOp op f g)) :=
  pt_conseq (pt_cmpR ho ha hb hm) fun σ H Q hq => by
    obtain ⟨F, ρ, sr, q⟩ := tst_ok hq
    exact two s ⟨F, ρ, sr, q⟩
theorem dt_val (ha : DE X E e f) (he : ∀ whole, isTrue e X.env whole = (do let v ← whole; standAt e.pos; holding [v] (truthy v)) := by intro _; rfl) : DT X E e (tst f) :=
  pt_conseq (pt_val ha he) fun _ _ _ => tst_ok
end
end DL
/-! DL3: the operators. -/
namespace DL
open PySem PySem.Spec PyProof.Rows L2
variable [TabT]
/-! ### data as the library's PyData -/
mutual
def D.toPy : D → Option PyData
  | .non => some .none
  | .bl b => some (.bool b)
  | .int i => some (.int i)
  | .str x => some (.str x)
  | .tup xs => (toPyL xs).map .tuple
  | .lst xs => (toPyL xs).map .list
  | .dic _ _ => none
  | .set _ => none
  | .scr _ => none
  | .ty _ => none
  | .obj _ _ _ => none
  | .ins _ _ _ => none
def toPyL : List D → Option (List PyData)
  | [] => some []
  | x :: xs => match D.toPy x, toPyL xs with
    | some p, some ps => some (p :: ps)
    | _, _ => none
end
section
variable {K : PySem.W.Frag} {H : Hp}
mutual
theorem Rep.dp : ∀ {v : V} {d : D} {p : PyData}, Rep K H v d → d.toPy = some p → Dp K H v p
  | _, _, _, .non, e => by simp only [D.toPy] at e; cases e; exact .non
  | _, _, _, .bl b, e => by simp only [D.toPy] at e; cases e; exact .bl b
  | _, _, _, .int i, e => by simp only [D.toPy] at e; cases e; exact .int i
  | _, _, _, .str x, e => by simp only [D.toPy] at e; cases e; exact .str x
  | _, _, _, .lst (ds := ds) h r, e => by
    simp only [D.toPy] at e
    cases q : toPyL ds with
    | none => rw [q] at e; cases e
    | some ps => rw [q] at e; cases e; exact .lst (.of h) (RepL.dp r q)
  | _, _, _, .tup (ds := ds) h r, e => by
    simp only [D.toPy] at e
    cases q : toPyL ds with
    | none => rw [q] at e; cases e
    | some ps => rw [q] at e; cases e; exact .tup h (RepL.dp r q)
  | _, _, _, .dic .., e => by simp only [D.toPy] at e; cases e
  | _, _, _, .scr .., e => by simp only [D.toPy] at e; cases e
theorem RepL.dp : ∀ {vs : List V} {ds : List D} {ps : List PyData}, RepL K H vs ds → toPyL ds = some ps → DpAll K H vs ps
  | _, _, _, .nil, e => by simp only [toPyL] at e; cases e; exact .nil
  | _, _, _, .cons (d := d) (ds := ds) a b, e => by
    simp only [toPyL] at e
    cases q1 : d.toPy with
    | none => rw [q1] at e; cases e
    | some p =>
      cases q2 : toPyL ds with
      | none => rw [q1, q2] at e; cases e
      | some ps => rw [q1, q2] at e; cases e; exact .cons (Rep.dp a q1) (RepL.dp b q2)
end
end
theorem toPy_nd {d : D} {p : PyData} (e : d.toPy = some p) : ∀ ks vs, d ≠ .dic ks vs := fun ks vs z => by subst z; simp only [D.toPy] at e; cases e
/-! ### ==, != -/
def eqD : D → D → Option Bool
  | .int i, .int j => some (decide (i = j))
  | .str x, .str y => some (decide (x = y))
  | .bl x, .bl y => some (x == y)
  | .non, .non => some true
  | .non, .int _ => some false
  | .non, .str _ => some false
  | .non, .bl _ => some false
  | .int _, .non => some false
  | .str _, .non => some false
  | .bl _, .non => some false
  | a, b => match a.toPy, b.toPy with
    | some p, some q => if SeqAt.shaped p = true ∧ SeqAt.shaped q = true then some (PyData.eqv p q) else none
    | _, _ => none
def bV (o : Option Bool) : Option Val := o.map fun b => .d (.bl b)
section
variable {K : PySem.W.Frag} {F H : Hp}
theorem vn_d {Q : VK} {v : V} {x : D} (s : Same F H) (q : ∀ u F' H', Gr F H F' H' → VN K H F' H' u (.d x) → Q u H') (r : Rep K F v x) : Q v H := q v F H (.refl s) r
theorem vn_bl {Q : VK} {b : Bool} (s : Same F H) (q : ∀ u F' H', Gr F H F' H' → VN K H F' H' u (.d (.bl b)) → Q u H') : Q (.bl b) H := vn_d s q (.bl b)
theorem vn_int {Q : VK} {b : Int} (s : Same F H) (q : ∀ u F' H', Gr F H F' H' → VN K H F' H' u (.d (.int b)) → Q u H') : Q (.int b) H := vn_d s q (.int b)
theorem vn_str {Q : VK} {b : Str} (s : Same F H) (q : ∀ u F' H', Gr F H F' H' → VN K H F' H' u (.d (.str b)) → Q u H') : Q (.str b) H := vn_d s q (.str b)
theorem vn_lst {Q : VK} {xs : List V} {ds : List D} (s : Same F H) (q : ∀ u F' H', Gr F H F' H' → VN K H F' H' u (.fr (.lst ds)) → Q u H') (r : RepL K F xs ds) {p : Addr} (n : H p = none) : Q (.ref p) (upd H p (.lst xs)) :=
  q (.ref p) F _ (.fresh s n) ⟨p, rfl, n, Same.free s n, xs, upd_same, r⟩
theorem vn_tup {Q : VK} {xs : List V} {ds : List D} (s : Same F H) (q : ∀ u F' H', Gr F H F' H' → VN K H F' H' u (.d (.tup ds)) → Q u H') (r : RepL K F xs ds) {p : Addr} (n : H p = none) : Q (.ref p) (upd H p (.tup xs)) :=
  q (.ref p) (upd F p (.tup xs)) _ (.froz s n) (.tup (.of upd_same) (r.mono (.of (froz_ext (Same.free s n)))))
theorem RepT.int {v : V} {i : Int} (h : RepT K F H v (.int i)) : v = .int i := by
  have h : Rep K F v (.int i) := h
  cases h; rfl
theorem RepT.str {v : V} {i : Str} (h : RepT K F H v (.str i)) : v = .str i := by
  have h : Rep K F v (.str i) := h
  cases h; rfl
theorem RepT.bl {v : V} {i : Bool} (h : RepT K F H v (.bl i)) : v = .bl i := by
  have h : Rep K F v (.bl i) := h
  cases h; rfl
theorem RepT.non {v : V} (h : RepT K F H v .non) : v = .non := by
  have h : Rep K F v .non := h
  cases h; rfl
theorem RepT.lst {v : V} {ds : List D} (h : RepT K F H v (.lst ds)) : ∃ a xs, v = .ref a ∧ H a = some (.lst xs) ∧ RepL K F xs ds := h
theorem RepT.tup {v : V} {ds : List D} (s : Same F H) (h : RepT K F H v (.tup ds)) : ∃ a xs, v = .ref a ∧ SqT K H a xs ∧ RepL K F xs ds := by
  have h : Rep K F v (.tup ds) := h
  cases h with
  | tup e r => exact ⟨_, _, rfl, (RdLe.of s).sqT e, r⟩
theorem RepT.scr {v : V} {ns : List Int} (s : Same F H) (h : RepT K F H v (.scr ns)) : ∃ a, v = .ref a ∧ SqL K H a (ns.map V.int) := by
  have h : Rep K F v (.scr ns) := h
  cases h with
  | scr e => exact ⟨_, rfl, (RdLe.of s).sqL e⟩
def rEqA (K : PySem.W.Frag) : R2 := fun x y H Q => rEq x y H Q ∨ rEqD K x y H Q
def rNeA (K : PySem.W.Frag) : R2 := fun x y H Q => rNe x y H Q ∨ rNeD K x y H Q
theorem eqD_sound {F H : Hp} {v w : V} {a b : D} {k : Bool} (s : Same F H) (ra : RepT K F H v a) (rb : RepT K F H w b) (e : eqD a b = some k) :
    (scal v w = true ∧ decide (v = w) = k) ∨ ∃ p q, Dp K H v p ∧ Dp K H w q ∧ SeqAt.shaped p = true ∧ SeqAt.shaped q = true ∧ PyData.eqv p q = k := by
  have gen : (∃ p q, a.toPy = some p ∧ b.toPy = some q ∧ SeqAt.shaped p = true ∧ SeqAt.shaped q = true ∧ PyData.eqv p q = k) → ∃ p q, Dp K H v p ∧ Dp K H w q ∧ SeqAt.shaped p = true ∧ SeqAt.shaped q = true ∧ PyData.eqv p q = k := fun ⟨p, q, e1, e2, z⟩ =>
    ⟨p, q, (ra.rep (toPy_nd e1) s).dp e1, (rb.rep (toPy_nd e2) s).dp e2, z⟩
  unfold eqD at e
  split at e
  · obtain rfl := ra.int; obtain rfl := rb.int; cases e
    exact .inl ⟨rfl, by simp⟩
  · obtain rfl := ra.str; obtain rfl := rb.str; cases e
    exact .inl ⟨rfl, by simp⟩
  · obtain rfl := ra.bl; obtain rfl := rb.bl; cases e
    refine .inl ⟨rfl, ?_⟩
    rw [dec_bl]
  · obtain rfl := ra.non; obtain rfl := rb.non; cases e; exact .inl ⟨rfl, by decide⟩
  · obtain rfl := ra.non; obtain rfl := rb.int; cases e; exact .inl ⟨rfl, by simp⟩
  · obtain rfl := ra.non; obtain rfl := rb.str; cases e; exact .inl ⟨rfl, by simp⟩
  · obtain rfl := ra.non; obtain rfl := rb.bl; cases e; exact .inl ⟨rfl, by simp⟩
  · obtain rfl := ra.int; obtain rfl := rb.non; cases e; exact .inl ⟨rfl, by simp⟩
  · obtain rfl := ra.str; obtain rfl := rb.non; cases e; exact .inl ⟨rfl, by simp⟩
  · obtain rfl := ra.bl; obtain rfl := rb.non; cases e; exact .inl ⟨rfl, by simp⟩
  · refine .inr (gen ?_)
    split at e
    · rename_i p q e1 e2
      split at e
      · rename_i z; cases e; exact ⟨p, q, e1, e2, z.1, z.2, rfl⟩
      · cases e
    · cases e
theorem os_eq : OpS K (rEqA K) (fun a b => bV (eqD a b)) := by
  intro F H v w a b z Q s ra rb e q
  dsimp only at e
  cases h : eqD a b with
  | none => rw [h] at e; cases e
  | some k =>
    rw [h] at e; cases e
    rcases eqD_sound s ra rb h with ⟨h1, rfl⟩ | ⟨p, r, h1, h2, h3, h4, rfl⟩
    · exact .inl ⟨h1, vn_bl s q⟩
    · exact .inr ⟨p, r, h1, h2, h3, h4, vn_bl s q⟩
theorem os_ne : OpS K (rNeA K) (fun a b => bV ((eqD a b).map (!·))) := by
  intro F H v w a b z Q s ra rb e q
  dsimp only at e
  cases h : eqD a b with
  | none => rw [h] at e; cases e
  | some k =>
    rw [h] at e; cases e
    rcases eqD_sound s ra rb h with ⟨h1, rfl⟩ | ⟨p, r, h1, h2, h3, h4, rfl⟩
    · exact .inl ⟨h1, vn_bl s q⟩
    · exact .inr ⟨p, r, h1, h2, h3, h4, vn_bl s q⟩
/-! ### ints -/
def intV (g : Int → Int → Option Int) : D → D → Option Val
  | .int i, .int j => (g i j).map fun k => .d (.int k)
  | _, _ => none
theorem os_int {C : Int → Int → Prop} {g : Int → Int → Int} {o : Int → Int → Option Int} (h : ∀ i j k, o i j = some k → C i j ∧ g i j = k) : OpS K (rI C fun i j => .int (g i j)) (intV o) := by
  intro F H v w a b z Q s ra rb e q
  unfold intV at e
  split at e
  · rename_i i j
    obtain rfl := ra.int; obtain rfl := rb.int
    cases h1 : o i j with
    | none => rw [h1] at e; cases e
    | some k =>
      rw [h1] at e; cases e
      obtain ⟨c, rfl⟩ := h i j k h1
      exact ⟨i, j, rfl, rfl, c, vn_int s q⟩
  · cases e
theorem os_int0 {g : Int → Int → Int} : OpS K (rI0 fun i j => .int (g i j)) (intV fun i j => some (g i j)) := by
  intro F H v w a b z Q s ra rb e q
  unfold intV at e
  split at e
  · obtain rfl := ra.int; obtain rfl := rb.int
    cases e
    exact ⟨_, _, rfl, rfl, vn_int s q⟩
  · cases e
def cmpV (g : Int → Int → Bool) : D → D → Option Val
  | .int i, .int j => some (.d (.bl (g i j)))
  | _, _ => none
theorem os_cmp0 {g : Int → Int → Bool} : OpS K (rI0 fun i j => .bl (g i j)) (cmpV g) := by
  intro F H v w a b z Q s ra rb e q
  unfold cmpV at e
  split at e
  · obtain rfl := ra.int; obtain rfl := rb.int
    cases e
    exact ⟨_, _, rfl, rfl, vn_bl s q⟩
  · cases e
def mulI (i j : Int) : Option Int := if (-(2 ^ 64) < i ∧ i < 2 ^ 64) ∨ (-(2 ^ 64) < j ∧ j < 2 ^ 64) ∨ i.natAbs.log2 + j.natAbs.log2 < 1000000 then some (i * j) else none
def divI (i j : Int) : Option Int := if 0 < j ∧ j.natAbs.log2 < 9000 then some (i / j) else none
def modI (i j : Int) : Option Int := if 0 < j then some (i % j) else none
def CMulA (i j : Int) : Prop := (-(2 ^ 64) < i ∧ i < 2 ^ 64) ∨ (-(2 ^ 64) < j ∧ j < 2 ^ 64) ∨ i.natAbs.log2 + j.natAbs.log2 < 1000000
theorem CMulA.ok {i j : Int} (h : CMulA i j) : IntMulOk i j := by
  rcases h with h | h | h
  · exact CMul.ok (.inl h)
  · exact CMul.ok (.inr h)
  · exact CMulW.ok h
/-- union of readings -/
def rU2 (r r' : R2) : R2 := fun x y H Q => r x y H Q ∨ r' x y H Q
theorem os_or {r r' : R2} {op op' : D → D → Option Val} (h : OpS K r op) (h' : OpS K r' op') : OpS K (rU2 r r') (fun a b => match op a b with | some z => some z | none => op' a b) := by
  intro F H v w a b z Q s ra rb e q
  dsimp only at e
  cases hz : op a b with
  | some y => rw [hz] at e; cases e; exact .inl (h F H v w a b _ Q s ra rb hz q)
  | none => rw [hz] at e; exact .inr (h' F H v w a b _ Q s ra rb e q)
def addS : D → D → Option Val
  | .str x, .str y => if x.length + y.length ≤ sizeLine then some (.d (.str (x ++ y))) else none
  | _, _ => none
theorem os_addS : OpS K (fun x y H Q => ∃ i j, x = .str i ∧ y = .str j ∧ i.length + j.length ≤ sizeLine ∧ Q (.str (i ++ j)) H) addS := by
  intro F H v w a b z Q s ra rb e q
  unfold addS at e
  split at e
  · obtain rfl := ra.str; obtain rfl := rb.str
    split at e
    · rename_i h; cases e; exact ⟨_, _, rfl, rfl, h, vn_str s q⟩
    · cases e
  · cases e
def addL : D → D → Option Val
  | .lst xs, .lst ys => if xs.length + ys.length ≤ sizeLine then some (.fr (.lst (xs ++ ys))) else none
  | _, _ => none
theorem os_addL : OpS K rCat addL := by
  intro F H v w a b z Q s ra rb e q
  unfold addL at e
  split at e
  · obtain ⟨l, xs, rfl, hl, r⟩ := ra.lst
    obtain ⟨l', ys, rfl, hl', r'⟩ := rb.lst
    split at e
    · rename_i h; cases e
      exact ⟨l, l', xs, ys, rfl, rfl, hl, hl', by rw [r.length, r'.length]; exact h, fun p n => vn_lst s q (r.app r') n⟩
    · cases e
  · cases e
def addT : D → D → Option Val
  | .tup xs, .tup ys => if xs.length + ys.length ≤ sizeLine then some (.d (.tup (xs ++ ys))) else none
  | _, _ => none
theorem os_addT : OpS K (rCatA K) addT := by
  intro F H v w a b z Q s ra rb e q
  unfold addT at e
  split at e
  · have ra' : Rep K F v (.tup _) := ra
    have rb' : Rep K F w (.tup _) := rb
    obtain ⟨l, xs, rfl, hl, r⟩ := ra.tup s
    obtain ⟨l', ys, rfl, hl', r'⟩ := rb.tup s
    split at e
    · rename_i h; cases e
      refine ⟨l, l', xs, ys, rfl, rfl, hl, hl', by rw [r.length, r'.length]; exact h, fun e1 => ?_, fun _ e1 => ?_, fun _ _ p n => vn_tup s q (r.app r') n⟩
      · subst e1
        cases r
        exact vn_d s q rb'
      · subst e1
        cases r'
        rw [List.append_nil] at q
        exact vn_d s q ra'
    · cases e
  · cases e
def repL : D → D → Option Val
  | .lst xs, .int k => if -(2 ^ 63) ≤ k ∧ k < 2 ^ 63 ∧ xs.length * k.toNat ≤ sizeLine then some (.fr (.lst (List.replicate k.toNat xs).flatten)) else none
  | _, _ => none
theorem os_repL : OpS K rRep repL := by
  intro F H v w a b z Q s ra rb e q
  unfold repL at e
  split at e
  · obtain ⟨l, xs, rfl, hl, r⟩ := ra.lst
    obtain rfl := rb.int
    split at e
    · rename_i h; cases e
      exact ⟨l, _, xs, rfl, rfl, hl, h.1, h.2.1, by rw [r.length]; exact h.2.2, fun p n => vn_lst s q (r.flatten _) n⟩
    · cases e
  · cases e
def addD : D → D → Option Val := fun a b => match intV (fun i j => some (i + j)) a b with | some z => some z | none => match addS a b with | some z => some z | none => match addL a b with | some z => some z | none => addT a b
def subD : D → D → Option Val := intV fun i j => some (i - j)
def mulD : D → D → Option Val := fun a b => match intV mulI a b with | some z => some z | none => repL a b
def divD : D → D → Option Val := intV divI
def modD : D → D → Option Val := intV modI
end
section
variable {X : Cx}
theorem opr_u {f : Value → Value → Sem Value} {r r' : R2} (h : OpR X f r) (h' : OpR X f r') : OpR X f (rU2 r r') := OpR.or h h'
theorem op_mulA : OpR X (binaryOp .Mult) (rI CMulA fun i j => .int (i * j)) := opI fun _ _ _ _ _ _ _ hc q => mul_int q hc.ok
variable {E : WX} {a b c e : Expr} {f g : EM} {pos : Pos}
theorem de_add (ha : DE X E a f) (hb : DE X E b g) : DE X E (.BinOp a .Add b pos) (eOp addD f g) :=
  de_op (opr_u op_add (opr_u op_add_str (opr_u op_cat op_catA))) (os_or os_int0 (os_or os_addS (os_or os_addL os_addT))) ha hb
theorem de_mul (ha : DE X E a f) (hb : DE X E b g) : DE X E (.BinOp a .Mult b pos) (eOp mulD f g) :=
  de_op (opr_u op_mulA op_rep) (os_or (os_int fun i j k h => by
    unfold mulI at h
    split at h
    · rename_i z; cases h; exact ⟨z, rfl⟩
    · cases h) os_repL) ha hb
theorem de_div (ha : DE X E a f) (hb : DE X E b g) : DE X E (.BinOp a .FloorDiv b pos) (eOp divD f g) :=
  de_op op_fdivW (os_int fun i j k h => by
    unfold divI at h
    split at h
    · rename_i z; cases h; exact ⟨z, rfl⟩
    · cases h) ha hb
theorem de_mod (ha : DE X E a f) (hb : DE X E b g) : DE X E (.BinOp a .Mod b pos) (eOp modD f g) :=
  de_op op_mod (os_int fun i j k h => by
    unfold modI at h
    split at h
    · rename_i z; cases h; exact ⟨z, rfl⟩
    · cases h) ha hb
def ltD : D → D → Option Val := cmpV fun i j => decide (i < j)
def leD : D → D → Option Val := cmpV fun i j => decide (i ≤ j)
def gtD : D → D → Option Val := cmpV fun i j => decide (j < i)
def geD : D → D → Option Val := cmpV fun i j => decide (j ≤ i)
def eqV' : D → D → Option Val := fun a b => bV (eqD a b)
def neV' : D → D → Option Val := fun a b => bV ((eqD a b).map (!·))
theorem de_ge (ha : DE X E a f) (hb : DE X E b g) : DE X E (.Compare a [.GtE] [b] pos) (eOp geD f g) := de_cmp op_ge os_cmp0 ha hb (nomark _)
theorem dt_lt (ha : DE X E a f) (hb : DE X E b g) : DT X E (.Compare a [.Lt] [b] pos) (tst (eOp ltD f g)) := dt_cmp op_lt os_cmp0 ha hb (nomark _)
theorem dt_gt (ha : DE X E a f) (hb : DE X E b g) : DT X E (.Compare a [.Gt] [b] pos) (tst (eOp gtD f g)) := dt_cmp op_gt os_cmp0 ha hb (nomark _)
theorem opr_eq (hu : X.A.units + 64 < cLine) : OpR X (compareOp .Eq) (rEqA X.K) := OpR.or op_eq (op_eqD hu)
theorem opr_ne (hu : X.A.units + 64 < cLine) : OpR X (compareOp .NotEq) (rNeA X.K) := OpR.or op_ne (op_neD hu)
theorem de_eq (hu : X.A.units + 64 < cLine) (ha : DE X E a f) (hb : DE X E b g) : DE X E (.Compare a [.Eq] [b] pos) (eOp eqV' f g) := de_cmp (opr_eq hu) os_eq ha hb (nomark _)
theorem dt_ne (hu : X.A.units + 64 < cLine) (ha : DE X E a f) (hb : DE X E b g) : DT X E (.Compare a [.NotEq] [b] pos) (tst (eOp neV' f g)) := dt_cmp (opr_ne hu) os_ne ha hb (nomark _)
end
end DL
/-! DL4: more expressions: powers, truth, chains, subscripts, displays. -/
namespace DL
open PySem PySem.Spec PyProof.Rows L2
variable [TabT]
/-! ### powers, signs -/
def powI (i j : Int) : Option Int := if 0 ≤ j ∧ (i.natAbs.log2 + 1) * j.toNat ≤ 1000000 then some (i ^ j.toNat) else none
def CPowA (i j : Int) : Prop := 0 ≤ j ∧ (i.natAbs.log2 + 1) * j.toNat ≤ 1000000
section
variable {X : Cx} {E : WX} {xk : XK} {a b c e : Expr} {es : List Expr} {f g h : EM} {t u : M Bool} {pos : Pos}
theorem op_powA : OpR X (binaryOp .Pow) (rI CPowA fun i j => .int (i ^ j.toNat)) := opI fun i j _ _ _ _ _ hc q => pow_int hc.1 (by
  have h2 := hc.2
  have hb : Builtin.Int.intBits i ≤ i.natAbs.log2 + 1 := by
    unfold Builtin.Int.intBits
    split <;> omega
  have h0 := hc.1
  obtain ⟨n, rfl⟩ : ∃ n : Nat, j = n := ⟨j.toNat, by omega⟩
  rw [Int.toNat_natCast] at h2
  have h5 : Builtin.Int.intBits i * n ≤ (i.natAbs.log2 + 1) * n := Nat.mul_le_mul_right _ hb
  have h6 : (((Builtin.Int.intBits i : Nat) : Int) * (n : Int)) = ((Builtin.Int.intBits i * n : Nat) : Int) := by rw [Int.natCast_mul]
  rw [h6]
  have h7 : ((2 : Int) ^ 27) = 134217728 := by decide
  omega) q
def powD : D → D → Option Val := intV powI
theorem de_pow (ha : DE X E a f) (hb : DE X E b g) : DE X E (.BinOp a .Pow b pos) (eOp powD f g) :=
  de_op op_powA (os_int fun i j k h => by
    unfold powI at h
    split at h
    · rename_i z; cases h; exact ⟨z, rfl⟩
    · cases h) ha hb
def negD : D → Option Val
  | .int i => some (.d (.int (-i)))
  | _ => none
theorem de_neg (ha : DE X E a f) : DE X E (.UnaryOp .USub a pos) (eUn negD f) := de_un un_neg (by
  intro F H v a z Q s ra e q
  unfold negD at e
  split at e
  · obtain rfl := ra.int
    cases e
    exact ⟨_, rfl, vn_int s q⟩
  · cases e) ha
/-! ### and, or, not, if-else -/
def tAndM (t u : M Bool) : M Bool := fun ρ => (t ρ).bind fun b ρ1 => if b = true then u ρ1 else .ok false ρ1
def tOrM (t u : M Bool) : M Bool := fun ρ => (t ρ).bind fun b ρ1 => if b = true then .ok true ρ1 else u ρ1
def tNotM (t : M Bool) : M Bool := fun ρ => (t ρ).bind fun b ρ1 => .ok (!b) ρ1
theorem dw_or1 (ha : DT X E a t) : DW X E (.BoolOp .Or [a] pos) t := pw_or1 ha
theorem DW.dt (h : DW X E e t) : DT X E e t := PW.pt h
theorem dw_or (ha : DT X E a t) (hb : DW X E (.BoolOp .Or (b :: es) pos) u) : DW X E (.BoolOp .Or (a :: b :: es) pos) (tOrM t u) :=
  pw_conseq (pw_or ha hb) fun σ H Q hq => by
    obtain ⟨F, ρ, sr, q⟩ := hq
    refine ⟨F, ρ, sr, (Out.bind (rel := relB) q).mono fun v H1 ⟨x, F1, ρ1, e1, s1, ev1, r1, o1⟩ => ?_⟩
    have r1 : v = x := r1
    subst r1
    have o2 := o1.from ev1 fun _ _ _ _ _ h => h
    cases v with
    | false => exact ⟨F1, ρ1, s1, o2⟩
    | true => exact o2 true F1 H1 s1 .refl rfl
theorem dt_not (ha : DT X E a t) : DT X E (.UnaryOp .Not a pos) (tNotM t) :=
  pt_conseq (pt_not ha) fun σ H Q hq => by
    obtain ⟨F, ρ, sr, q⟩ := hq
    refine ⟨F, ρ, sr, (Out.bind (rel := relB) q).mono fun v H1 ⟨x, F1, ρ1, e1, s1, ev1, r1, o1⟩ => ?_⟩
    have r1 : v = x := r1
    subst r1
    exact (o1.from ev1 fun _ _ _ _ _ h => h) _ F1 H1 s1 .refl rfl
def eAnd (f g : EM) : EM := fun ρ => (f ρ).bind fun x ρ1 => match x with
  | .d (.bl true) => g ρ1
  | .d (.bl false) => .ok (.d (.bl false)) ρ1
  | _ => .bad
def eOr (f g : EM) : EM := fun ρ => (f ρ).bind fun x ρ1 => match x with
  | .d (.bl false) => g ρ1
  | .d (.bl true) => .ok (.d (.bl true)) ρ1
  | _ => .bad
def eNot (f : EM) : EM := fun ρ => (f ρ).bind fun x ρ1 => match x with
  | .d (.bl b) => .ok (.d (.bl (!b))) ρ1
  | _ => .bad
theorem vr_int {K : PySem.W.Frag} {σ : L2.St} {Hb F H : Hp} {ρ : DEnv} {v : V} {b : Int} (h : VR K σ Hb F H ρ v (.d (.int b))) : v = .int b := by
  have h : Rep K F v (.int b) := h
  cases h; rfl
theorem relV_from {K : PySem.W.Frag} {σ : L2.St} {ρ ρ1 : DEnv} {F H F1 H1 : Hp} (ev : Ev σ ρ F H σ ρ1 F1 H1) : ∀ F' H' ρ' v x, relV K σ H1 F' H' ρ' v x → relV K σ H F' H' ρ' v x := fun _ _ _ _ _ h => VR.base h ev.dom
def eIf (t : M Bool) (f g : EM) : EM := fun ρ => (t ρ).bind fun b ρ1 => if b = true then f ρ1 else g ρ1
/-! ### None -/
def isNonV : Val → Bool
  | .d .non => true
  | _ => false
def eIsN (f : EM) : EM := fun ρ => (f ρ).bind fun x ρ1 => match x with
  | .sl _ => .bad
  | x => .ok (.d (.bl (isNonV x))) ρ1
def eNotN (f : EM) : EM := fun ρ => (f ρ).bind fun x ρ1 => match x with
  | .sl _ => .bad
  | x => .ok (.d (.bl (!isNonV x))) ρ1
/-! ### chains -/
def eChain (op op' : D → D → Option Val) (f g h : EM) : EM := fun ρ => (f ρ).bind fun x ρ1 => (g ρ1).bind fun y ρ2 => (opV op x y ρ2).bind fun z ρ3 => match z with
  | .d (.bl true) => (h ρ3).bind fun w ρ4 => opV op' y w ρ4
  | .d (.bl false) => .ok (.d (.bl false)) ρ3
  | _ => .bad
/-! ### in -/
def flatD : D → Bool
  | .non => true
  | .bl _ => true
  | .int _ => true
  | .str _ => true
  | _ => false
def eqF : D → D → Bool
  | .non, .non => true
  | .bl a, .bl b => a == b
  | .bl a, .int b => (if a then 1 else 0) == b
  | .int a, .bl b => a == (if b then 1 else 0)
  | .int a, .int b => a == b
  | .str a, .str b => a == b
  | _, _ => false
def inS (x : D) (xs : List D) : Bool := xs.any fun y => eqF y x
def inSeqD (neg : Bool) : D → D → Option Val := fun x y => match y with
  | .lst xs => if flatD x = true ∧ xs.all flatD = true then some (.d (.bl (if neg then !inS x xs else inS x xs))) else none
  | .tup xs => if flatD x = true ∧ xs.all flatD = true then some (.d (.bl (if neg then !inS x xs else inS x xs))) else none
  | _ => none
end
end DL
/-! DL5: in, subscripts, slices, displays, built-in functions. -/
namespace DL
open PySem PySem.Spec PyProof.Rows L2
variable [TabT]
section
variable {X : Cx} {E : WX} {xk : XK} {a b c e : Expr} {es : List Expr} {f g h : EM} {t u : M Bool} {pos : Pos}
/-! ### either of two operations, by what they are given -/
def orOp (op op' : D → D → Option Val) : D → D → Option Val := fun a b => match op a b with | some z => some z | none => op' a b
theorem eOp_or {op op' : D → D → Option Val} {σ : L2.St} {H : Hp} {Q : VK} (hq : tD X.K X.mg E (eOp (orOp op op') f g) σ H Q) : tD X.K X.mg E (eOp op f g) σ H Q ∨ tD X.K X.mg E (eOp op' f g) σ H Q := by
  obtain ⟨F, ρ, sr, q⟩ := hq
  unfold eOp at q
  cases h1 : f ρ with
  | bad => rw [h1] at q; exact q.elim
  | ex x ρ1 => rw [h1] at q; exact .inl ⟨F, ρ, sr, by unfold eOp; rw [h1]; exact q⟩
  | ok x ρ1 =>
    cases h2 : g ρ1 with
    | bad => rw [h1] at q; simp only [R.bind, h2] at q; exact q.elim
    | ex y ρ2 => rw [h1] at q; simp only [R.bind, h2] at q; exact .inl ⟨F, ρ, sr, by unfold eOp; rw [h1]; simp only [R.bind, h2]; exact q⟩
    | ok y ρ2 =>
      rw [h1] at q
      simp only [R.bind, h2] at q
      cases hx : x.peek ρ2 with
      | none => simp only [opV, hx] at q; exact q.elim
      | some p =>
        cases hy : y.peek ρ2 with
        | none => simp only [opV, hx, hy] at q; exact q.elim
        | some r =>
          cases hz : op p r with
          | some z => exact .inl ⟨F, ρ, sr, by unfold eOp; rw [h1]; simp only [R.bind, h2, opV, hx, hy, hz]; simpa only [opV, hx, hy, orOp, hz] using q⟩
          | none => exact .inr ⟨F, ρ, sr, by unfold eOp; rw [h1]; simp only [R.bind, h2, opV, hx, hy]; simpa only [opV, hx, hy, orOp, hz] using q⟩
theorem de_opOr {r r' : R2} {op op' : D → D → Option Val} (h : PE X e (tOp r (tD X.K X.mg E f) (tD X.K X.mg E g))) (s : OpS X.K r op) (h' : PE X e (tOp r' (tD X.K X.mg E f) (tD X.K X.mg E g))) (s' : OpS X.K r' op') : DE X E e (eOp (orOp op op') f g) :=
  pe_conseq (pe_or2 h h') fun _ _ _ hq => (eOp_or hq).imp (two s) (two s')
/-! ### dicts, looked up -/
def keyD : D → Option Key
  | .int i => some (.inl i)
  | .str x => some (.inr x)
  | _ => none
def dLook : List Key → List D → Key → Option D
  | k :: ks, v :: vs, j => if k = j then some v else dLook ks vs j
  | _, _, _ => none
section
variable {K : PySem.W.Frag} {F H : Hp}
theorem keyD_ok {v : V} {x : D} {k : Key} (h : Rep K F v x) (e : keyD x = some k) : v = kV k := by
  cases h <;> cases e <;> rfl
theorem RepT.key {v : V} {x : D} {k : Key} (h : RepT K F H v x) (e : keyD x = some k) : v = kV k := by
  cases x with
  | int i => exact keyD_ok (show Rep K F v _ from h) e
  | str i => exact keyD_ok (show Rep K F v _ from h) e
  | _ => cases e
theorem valV_zip_cons {k j : Key} {v : V} {ks : List Key} {vs : List V} : valV ((k, v) :: ks.zip vs) j = if k = j then some v else valV (ks.zip vs) j := by
  unfold valV
  rw [List.find?_cons]
  by_cases h : k = j
  · rw [if_pos h]; simp [h]
  · rw [if_neg h]; simp [h]
theorem dLook_ok : ∀ {ks : List Key} {vs : List V} {ds : List D} {j : Key}, ks.length = vs.length → RepL K F vs ds →
    (∃ v d, valV (ks.zip vs) j = some v ∧ dLook ks ds j = some d ∧ Rep K F v d) ∨ (valV (ks.zip vs) j = none ∧ dLook ks ds j = none)
  | [], _, _, j, _, _ => .inr ⟨rfl, by cases ‹List D› <;> rfl⟩
  | k :: ks, [], _, j, l, _ => by simp at l
  | k :: ks, v :: vs, _, j, l, .cons (d := d) (ds := ds) a b => by
    rw [List.zip_cons_cons, valV_zip_cons]
    unfold dLook
    by_cases h : k = j
    · rw [if_pos h, if_pos h]; exact .inl ⟨v, d, rfl, rfl, a⟩
    · rw [if_neg h, if_neg h]; exact dLook_ok (by simpa using l) b
theorem RepT.dic {v : V} {ks : List Key} {ds : List D} (h : RepT K F H v (.dic ks ds)) : ∃ a xs, v = .ref a ∧ Rd H a (.dK (ks.zip xs)) ∧ ks.length = xs.length ∧ RepL K F xs ds := h
end
def idxD1 : D → D → Option Val
  | .lst xs, .int i => (atI xs i).map .d
  | .tup xs, .int i => (atI xs i).map .d
  | .scr ns, .int i => (atI ns i).map fun k => .d (.int k)
  | _, _ => none
def idxD2 : D → D → Option Val
  | .dic ks vs, y => match keyD y with
    | some k => (dLook ks vs k).map .d
    | none => none
  | _, _ => none
def idxD3 : D → D → Option Val
  | .str z, .int i => if z.length ≤ 16777216 then (atI z.cps.toList i).map fun c => .d (.str ⟨#[c]⟩) else none
  | _, _ => none
section
variable {K : PySem.W.Frag} {F H : Hp}
theorem atI_rep {vs : List V} {ds : List D} {i : Int} {d : D} (r : RepL K F vs ds) (e : atI ds i = some d) : ∃ v, atI vs i = some v ∧ Rep K F v d := by
  unfold atI at e ⊢
  rw [r.length]
  cases h : ixN ds.length i with
  | none => rw [h] at e; cases e
  | some j => rw [h] at e; exact r.get e
theorem atI_map {α β : Type} {f : α → β} {xs : List α} {i : Int} {x : α} (e : atI xs i = some x) : atI (xs.map f) i = some (f x) := by
  unfold atI at e ⊢
  rw [List.length_map]
  cases h : ixN xs.length i with
  | none => rw [h] at e; cases e
  | some j =>
    rw [h] at e
    show (xs.map f)[j]? = _
    rw [List.getElem?_map, show xs[j]? = some x from e]
    rfl
theorem os_idx1 : OpS K (rIx K) idxD1 := by
  intro F H v w a b z Q s ra rb e q
  unfold idxD1 at e
  split at e
  · obtain ⟨p, xs, rfl, hl, r⟩ := ra.lst
    obtain rfl := rb.int
    rename_i xs' i
    cases h : atI xs' i with
    | none => rw [h] at e; cases e
    | some d =>
      rw [h] at e; cases e
      obtain ⟨v, h1, h2⟩ := atI_rep r h
      exact .inl ⟨p, xs, i, v, rfl, rfl, .of hl, h1, vn_d s q h2⟩
  · obtain ⟨p, xs, rfl, hl, r⟩ := ra.tup s
    obtain rfl := rb.int
    rename_i xs' i
    cases h : atI xs' i with
    | none => rw [h] at e; cases e
    | some d =>
      rw [h] at e; cases e
      obtain ⟨v, h1, h2⟩ := atI_rep r h
      exact .inr (.inl ⟨p, xs, i, v, rfl, rfl, hl, h1, vn_d s q h2⟩)
  · obtain ⟨p, rfl, hl⟩ := ra.scr s
    obtain rfl := rb.int
    rename_i ns i
    cases h : atI ns i with
    | none => rw [h] at e; cases e
    | some d =>
      rw [h] at e; cases e
      exact .inl ⟨p, _, i, _, rfl, rfl, hl, atI_map h, vn_int s q⟩
  · cases e
theorem os_idx3 : OpS K (rIx K) idxD3 := by
  intro F H v w a b z Q s ra rb e q
  unfold idxD3 at e
  split at e
  · obtain rfl := ra.str
    obtain rfl := rb.int
    split at e
    · rename_i z' i hz
      cases h : atI z'.cps.toList i with
      | none => rw [h] at e; cases e
      | some d =>
        rw [h] at e; cases e
        exact .inr (.inr ⟨_, _, d, rfl, rfl, by rw [sizeLine_eq]; exact hz, h, vn_str s q⟩)
    · cases e
  · cases e
def rDG : R2 := fun x y H Q => ∃ a v, x = .ref a ∧ DGet H a y (some v) ∧ Q v H
theorem os_idx2 : OpS K rDG idxD2 := by
  intro F H v w a b z Q s ra rb e q
  unfold idxD2 at e
  split at e
  · obtain ⟨p, xs, rfl, hl, ln, r⟩ := ra.dic
    split at e
    · rename_i k hk
      obtain rfl := rb.key hk
      rcases dLook_ok (j := k) ln r with ⟨v, d, h1, h2, h3⟩ | ⟨h1, h2⟩
      · rw [h2] at e; cases e
        exact ⟨p, v, rfl, .inl ⟨_, k, hl, rfl, h1.symm⟩, vn_d s q h3⟩
      · rw [h2] at e; cases e
    · cases e
  · cases e
/-- one reading, two operations -/
theorem os_or' {r : R2} {op op' : D → D → Option Val} (h : OpS K r op) (h' : OpS K r op') : OpS K r (orOp op op') := by
  intro F H v w a b z Q s ra rb e q
  unfold orOp at e
  cases hz : op a b with
  | some y => rw [hz] at e; cases e; exact h F H v w a b _ Q s ra rb hz q
  | none => rw [hz] at e; exact h' F H v w a b _ Q s ra rb e q
end
def idxD : D → D → Option Val := orOp (orOp idxD1 idxD3) idxD2
theorem de_idx (hu : X.A.units + 1 < cLine) (ha : DE X E a f) (hb : DE X E b g) (hs : PlainIx b := by exact fun _ _ => rfl) (hn : NoSl b := by exact fun _ _ => rfl) : DE X E (.Subscript a b pos) (eOp idxD f g) :=
  de_opOr (pe_ix ix_seq ha hb hs) (os_or' os_idx1 os_idx3) (pe_dget hu ha hb hn) os_idx2
/-! ### in -/
def inDicD (neg : Bool) : D → D → Option Val := fun x y => match y with
  | .dic ks vs => match keyD x with
    | some k => some (.d (.bl (if neg then !(dLook ks vs k).isSome else (dLook ks vs k).isSome)))
    | none => none
  | _ => none
def inD : D → D → Option Val := orOp (inSeqD false) (inDicD false)
def ninD : D → D → Option Val := orOp (inSeqD true) (inDicD true)
/-! ### arguments, displays -/
def aNil : M (List Val) := fun ρ => .ok [] ρ
def aCons (f : EM) (g : M (List Val)) : M (List Val) := fun ρ => (f ρ).bind fun x ρ1 => (g ρ1).bind fun xs ρ2 => .ok (x :: xs) ρ2
theorem da_nil : DA X E [] aNil := pa_conseq pa_nil fun σ H Q hq => by
  obtain ⟨F, ρ, sr, q⟩ := hq
  exact q [] F H sr .refl ⟨.nil, fun i j c c' p h => by simp at h⟩
theorem relL_base {K : PySem.W.Frag} {σ : L2.St} {ρ ρ1 : DEnv} {F H F1 H1 : Hp} (ev : Ev σ ρ F H σ ρ1 F1 H1) : ∀ F' H' ρ' v x, relL K σ H1 F' H' ρ' v x → relL K σ H F' H' ρ' v x := fun F' H' ρ' v x h => by
  refine ⟨?_, h.frs⟩
  have := h.all
  clear h
  induction this with
  | nil => exact .nil
  | cons a b ih => exact .cons (VR.base a ev.dom) ih
theorem paired_get {α β : Type} {G : α → β → Prop} : ∀ {l : List α} {m : List β} {i : Nat} {x : α} {y : β}, Paired G l m → l[i]? = some x → m[i]? = some y → G x y
  | _, _, _, _, _, .nil, e, _ => by simp at e
  | _, _, 0, _, _, .cons a b, e, e' => by simp at e e'; subst e; subst e'; exact a
  | _, _, i + 1, _, _, .cons a b, e, e' => paired_get (i := i) b (by simpa using e) (by simpa using e')
theorem aCons_read {g : M (List Val)} {σ : L2.St} {H : Hp} {Q : List V → Hp → Prop} (hq : tA X.K X.mg E (aCons f g) σ H Q) : tCons (tD X.K X.mg E f) (tA X.K X.mg E g) σ H Q := by
  obtain ⟨F, ρ, sr, q⟩ := hq
  refine ⟨F, ρ, sr, (Out.bind (rel := relV X.K σ) q).mono fun v H1 ⟨x, F1, ρ1, e1, s1, ev1, r1, o1⟩ => ?_⟩
  refine ⟨F1, ρ1, s1, (Out.bind (rel := relL X.K σ) (o1.from ev1 (relL_base ev1))).mono fun vs H2 ⟨xs, F2, ρ2, e2, s2, ev2, r2, o2⟩ => ?_⟩
  rw [e2] at o1
  have nn : ∀ c, x = .fr c → ∀ p, v = .ref p → ¬ H1 p = none := fun c e p e' z => by
    subst e
    obtain ⟨p', e2, _, _, cr, _⟩ := r1
    rw [e'] at e2; cases e2
    obtain ⟨o, ho⟩ := cr.some
    rw [z] at ho; cases ho
  have nw : ∀ (i : Nat) (c : Cont) (p : Addr), xs[i]? = some (.fr c) → vs[i]? = some (.ref p) → H1 p = none := fun i c p e e' => by
    obtain ⟨p', e3, n, _⟩ := paired_get r2.all e' e
    cases e3
    exact n
  refine o1 (v :: vs) F2 H2 s2 (ev1.trans ev2) ⟨.cons (VR.ev r1 ev2) (relL_base ev1 _ _ _ _ _ r2).all, fun i j c c' p h1 h2 h3 h4 => ?_⟩
  cases i with
  | zero =>
    cases j with
    | zero => rfl
    | succ j => exact absurd (nw j c' p (by simpa using h2) (by simpa using h4)) (nn c (by simpa using h1) p (by simpa using h3))
  | succ i =>
    cases j with
    | zero => exact absurd (nw i c p (by simpa using h1) (by simpa using h3)) (nn c' (by simpa using h2) p (by simpa using h4))
    | succ j => exact congrArg (· + 1) (r2.frs i j c c' p (by simpa using h1) (by simpa using h2) (by simpa using h3) (by simpa using h4))
theorem da_cons {g : M (List Val)} (ha : DE X E e f) (hb : DA X E es g) (hs : starEach (e :: es) X.env = (false, eval e X.env) :: starEach es X.env := by rfl) : DA X E (e :: es) (aCons f g) := pa_conseq (pa_cons ha hb hs) fun σ H Q hq => aCons_read hq
/-- frozen values -/
def dsL : List Val → Option (List D)
  | [] => some []
  | .d x :: xs => (dsL xs).map (x :: ·)
  | _ :: _ => none
theorem dsL_ok {K : PySem.W.Frag} {σ : L2.St} {Hb F H : Hp} {ρ : DEnv} : ∀ {vs : List V} {xs : List Val} {ds : List D}, Paired (VR K σ Hb F H ρ) vs xs → dsL xs = some ds → RepL K F vs ds
  | _, _, _, .nil, e => by cases e; exact .nil
  | _, _, _, .cons (b := x) (l₂ := xs) r t, e => by
    cases x with
    | fr c => cases e
    | sl i => cases e
    | d x =>
      unfold dsL at e
      cases h : dsL xs with
      | none => rw [h] at e; cases e
      | some ds => rw [h] at e; cases e; exact .cons r (dsL_ok t h)
def mkTup (xs : List Val) : EM := fun ρ => match dsL xs with
  | some ds => if ds.length ≤ 16777216 then .ok (.d (.tup ds)) ρ else .bad
  | none => .bad
def mkLst (xs : List Val) : EM := fun ρ => match dsL xs with
  | some ds => if ds.length ≤ 16777216 then .ok (.fr (.lst ds)) ρ else .bad
  | none => .bad
def eTup (g : M (List Val)) : EM := fun ρ => (g ρ).bind mkTup
def eLst (g : M (List Val)) : EM := fun ρ => (g ρ).bind mkLst
section
variable {K : PySem.W.Frag} {F H : Hp}
theorem Gr.vtup {σ : L2.St} {ρ : DEnv} {xs : List V} {ds : List D} {p : Addr} (s : SR K F H σ ρ) (r : RepL K F xs ds) (n : H p = none) : Rep K (upd F p (.tup xs)) (.ref p) (.tup ds) :=
  .tup (.of upd_same) (r.mono (.of (froz_ext (Same.free s.sub n))))
end
theorem de_tup {g : M (List Val)} {x1} (h : DA X E es g) : DE X E (.Tuple es x1 pos) (eTup g) := pe_conseq (pe_tup h) fun σ H Q hq => by
  obtain ⟨F, ρ, sr, q⟩ := hq
  refine ⟨F, ρ, sr, (Out.bind (rel := relL X.K σ) q).mono fun vs H1 ⟨xs, F1, ρ1, e1, s1, ev1, r1, o1⟩ => ?_⟩
  have o2 := o1.from ev1 (relV_from ev1)
  unfold mkTup at o2
  split at o2
  · rename_i ds hd
    split at o2
    · rename_i hl
      have r := dsL_ok r1.all hd
      refine ⟨by rw [r.length, sizeLine_eq]; exact hl, fun p n => ?_⟩
      have g := Gr.froz (o := .tup vs) s1.sub n
      exact o2 _ _ _ (g.sr s1) g.ev (Gr.vtup s1 r n)
    · exact o2.elim
  · exact o2.elim
theorem fr_vr {K : PySem.W.Frag} {σ : L2.St} {ρ : DEnv} {F H H' : Hp} {p : Addr} {c : Cont} (sr : SR K F H σ ρ) (n : H p = none) (nF : F p = none) (cr : CRep K F H' p c) : VR K σ H F H' ρ (.ref p) (.fr c) := by
  refine ⟨p, rfl, n, nF, cr, fun ⟨i, c', m, q1, q2⟩ => ?_⟩
  obtain ⟨ov, h1, a, h2, _, cr'⟩ := sr.slot i _ q1
  rw [q2] at h1; cases h1
  cases h2
  obtain ⟨o, ho⟩ := cr'.some
  rw [n] at ho; cases ho
theorem de_lst {g : M (List Val)} (h : DA X E es g) : DE X E (.List es pos) (eLst g) := pe_conseq (pe_lst h) fun σ H Q hq => by
  obtain ⟨F, ρ, sr, q⟩ := hq
  refine ⟨F, ρ, sr, (Out.bind (rel := relL X.K σ) q).mono fun vs H1 ⟨xs, F1, ρ1, e1, s1, ev1, r1, o1⟩ => ?_⟩
  have o2 := o1.from ev1 (relV_from ev1)
  unfold mkLst at o2
  split at o2
  · rename_i ds hd
    split at o2
    · rename_i hl
      have r := dsL_ok r1.all hd
      refine ⟨by rw [r.length, sizeLine_eq]; exact hl, fun p n => ?_⟩
      have g := Gr.fresh (o := .lst vs) s1.sub n
      exact o2 _ _ _ (g.sr s1) g.ev (fr_vr s1 n (Same.free s1.sub n) ⟨vs, upd_same, r⟩)
    · exact o2.elim
  · exact o2.elim
/-! ### slices -/
def cutD {α : Type} (xs : List α) (lo hi : Option Int) : List α := (xs.drop (HT.sIx xs.length 0 lo)).take (HT.sIx xs.length xs.length hi - HT.sIx xs.length 0 lo)
def sliceD (x : D) (lo hi : Option Int) : Option Val := match x with
  | .lst xs => some (.fr (.lst (cutD xs lo hi)))
  | .tup xs => some (.d (.tup (cutD xs lo hi)))
  | .str z => if z.length ≤ 16777216 then some (.d (.str (Txt.slice z lo hi))) else none
  | _ => none
abbrev OM := M (Option Int)
def oNone : OM := fun ρ => .ok none ρ
def oSome (f : EM) : OM := fun ρ => (f ρ).bind fun x ρ1 => match x with
  | .d (.int i) => .ok (some i) ρ1
  | _ => .bad
def relO : RelT (Option Int) (Option Int) := fun _ _ _ _ v x => v = x
def DO (X : Cx) (E : WX) (e : Option Expr) (f : OM) : Prop := PO X e (fun σ H Q => ∃ F ρ, SR X.K F H σ ρ ∧ Out X.K X.mg (fun c d H => E c d σ H) relO σ ρ F H (f ρ) Q)
theorem po_conseq {e : Option Expr} {t t' : TO} (h : PO X e t) (c : ∀ σ H Q, t' σ H Q → t σ H Q) : PO X e t' := ⟨fun pins s σ H Q I q => h.run pins s σ H Q I (c _ _ _ q)⟩
theorem do_none : DO X E none oNone := po_conseq po_none fun σ H Q hq => by
  obtain ⟨F, ρ, sr, q⟩ := hq
  exact q none F H sr .refl rfl
theorem do_some (h : DE X E e f) : DO X E (some e) (oSome f) := po_conseq (po_some h) fun σ H Q hq => by
  obtain ⟨F, ρ, sr, q⟩ := hq
  refine ⟨F, ρ, sr, (Out.bind (rel := relV X.K σ) q).mono fun v H1 ⟨x, F1, ρ1, e1, s1, ev1, r1, o1⟩ => ?_⟩
  have o2 := o1.from ev1 fun _ _ _ _ _ h => h
  split at o2
  · rename_i i
    obtain rfl := vr_int r1
    exact ⟨i, rfl, o2 (some i) F1 H1 s1 .refl rfl⟩
  · exact o2.elim
def eSl (f : EM) (l u : OM) : EM := fun ρ => (f ρ).bind fun x ρ1 => (l ρ1).bind fun lo ρ2 => (u ρ2).bind fun hi ρ3 => unV (fun d => sliceD d lo hi) x ρ3
def rSlAll (K : PySem.W.Frag) : V → Option Int → Option Int → Hp → VK → Prop := fun x lo hi H Q => rSlL K x lo hi H Q ∨ (rSlA K x lo hi H Q ∨ C8.rSlX x lo hi H Q)
theorem cut_rep {K : PySem.W.Frag} {F : Hp} {vs : List V} {ds : List D} (r : RepL K F vs ds) (lo hi : Option Int) : RepL K F (cutV vs lo hi) (cutD ds lo hi) := by
  unfold cutV cutD
  rw [r.length]
  exact (r.drop _).take _
theorem us_slice {K : PySem.W.Frag} (lo hi : Option Int) : UnS K (fun x H Q => rSlAll K x lo hi H Q) (fun d => sliceD d lo hi) := by
  intro F H v a z Q s ra e q
  dsimp only at e
  unfold sliceD at e
  split at e
  · cases e
    obtain ⟨p, xs, rfl, hl, r⟩ := ra.lst
    exact .inl ⟨p, xs, rfl, .of hl, fun p' n => vn_lst s q (cut_rep r lo hi) n⟩
  · cases e
    have ra' : Rep K F v (.tup _) := ra
    obtain ⟨p, xs, rfl, hl, r⟩ := ra.tup s
    refine .inr (.inl ⟨p, xs, rfl, hl, fun hh => ?_, fun _ p' n => vn_tup s q (cut_rep r lo hi) n⟩)
    refine vn_d s q ?_
    have e2 : ∀ {α : Type} (l : List α), HT.sIx l.length 0 lo = 0 ∧ HT.sIx l.length l.length hi = l.length → cutD l lo hi = l := fun l h => by
      unfold cutD
      rw [h.1, h.2, List.drop_zero, Nat.sub_zero, List.take_length]
    rw [e2 _ (by rw [← r.length]; exact hh)]
    exact ra'
  · split at e
    · rename_i hz
      cases e
      obtain rfl := ra.str
      exact .inr (.inr ⟨_, rfl, by rw [sizeLine_eq]; exact hz, vn_str s q⟩)
    · cases e
  · cases e
theorem de_slice {lo hi : Option Expr} {l u : OM} {p2 : Pos} (ha : DE X E a f) (hl : DO X E lo l) (hh : DO X E hi u) : DE X E (.Subscript a (.Slice lo hi none p2) pos) (eSl f l u) :=
  pe_conseq (pe_slice (SlR.or sl_list (SlR.or sl_tupA C8.sl_txt)) ha hl hh) fun σ H Q hq => by
    obtain ⟨F, ρ, sr, q⟩ := hq
    refine ⟨F, ρ, sr, (Out.bind (rel := relV X.K σ) q).mono fun v H1 ⟨x, F1, ρ1, e1, s1, ev1, r1, o1⟩ => ?_⟩
    refine ⟨F1, ρ1, s1, (Out.bind (rel := relO) (o1.from ev1 (relV_from ev1))).mono fun lo' H2 ⟨y, F2, ρ2, e2, s2, ev2, r2, o2⟩ => ?_⟩
    have r2 : lo' = y := r2
    subst r2
    refine ⟨F2, ρ2, s2, (Out.bind (rel := relO) (o2.from ev2 (relV_from ev2))).mono fun hi' H3 ⟨z, F3, ρ3, e3, s3, ev3, r3, o3⟩ => ?_⟩
    have r3 : hi' = z := r3
    subst r3
    exact unV_ok (us_slice lo' hi') s3 (VR.ev (VR.ev r1 ev2) ev3) (o3.from ev3 (relV_from ev3))
end
end DL
/-! DL6: built-in functions. -/
namespace DL
open PySem PySem.Spec PyProof.Rows L2
variable [TabT]
section
variable {X : Cx} {E : WX} {xk : XK} {a b c e : Expr} {es : List Expr} {f g h : EM} {pos p : Pos}
theorem callr_or {fv : Value} {r r' : List V → Hp → VK → Prop} (h : CallR X fv r) (h' : CallR X fv r') : CallR X fv (fun xs H Q => r xs H Q ∨ r' xs H Q) :=
  fun pins s σ H xs us Q I rv q => q.elim (h pins s σ H xs us Q I rv) (h' pins s σ H xs us Q I rv)
theorem calls_ok {r : List V → Hp → VK → Prop} {op : List D → Option Val} {g : M (List Val)} (s : CallS X.K r op) {σ : L2.St} {H : Hp} {Q : VK} (hq : tD X.K X.mg E (eCallB op g) σ H Q) : tCB r (tA X.K X.mg E g) σ H Q := by
  obtain ⟨F, ρ, sr, q⟩ := hq
  refine ⟨F, ρ, sr, (Out.bind (rel := relL X.K σ) q).mono fun vs H1 ⟨xs, F1, ρ1, e1, s1, ev1, r1, o1⟩ => ?_⟩
  exact callV_ok s s1 r1 (o1.from ev1 (relV_from ev1))
theorem de_callB {x : Str} {id : String} {r : List V → Hp → VK → Prop} {op : List D → Option Val} {g : M (List Val)} (hc : CallR X (.builtin id) r) (s : CallS X.K r op) (hg : Gl X x) (hm : X.mg x = none) (hv : bootBuiltins x = some (.builtin id)) (ha : DA X E (e :: es) g) (hn : x ≠ "__name__" := by decide) (hdb : (x == ("__debug__" : Str)) = false := by decide)
    (he : starEach (e :: es) X.env = (false, eval e X.env) :: starEach es X.env := by rfl) (hpl : (backTo pos (starEach es X.env)).any (·.1) = false := by rfl) : DE X E (.Call (.Name x p) (e :: es) [] pos) (eCallB op g) :=
  pe_conseq (pe_callB hc hg hm hv ha hn hdb he hpl) fun _ _ _ => calls_ok s
theorem de_callTy {x : Str} {T : String} {r : List V → Hp → VK → Prop} {op : List D → Option Val} {g : M (List Val)} (hc : CallR X (.type T) r) (s : CallS X.K r op) (hg : Gl X x) (hm : X.mg x = none) (hv : bootBuiltins x = some (.type T)) (ha : DA X E (e :: es) g) (hn : x ≠ "__name__" := by decide) (hdb : (x == ("__debug__" : Str)) = false := by decide)
    (he : starEach (e :: es) X.env = (false, eval e X.env) :: starEach es X.env := by rfl) (hpl : (backTo pos (starEach es X.env)).any (·.1) = false := by rfl) : DE X E (.Call (.Name x p) (e :: es) [] pos) (eCallB op g) :=
  pe_conseq (pe_callTy hc hg hm hv ha hn hdb he hpl) fun _ _ _ => calls_ok s
section
variable {K : PySem.W.Frag} {F H : Hp}
theorem rep1 {vs : List V} {a : D} (h : RepTL K F H vs [a]) : ∃ v, vs = [v] ∧ RepT K F H v a := by
  cases h with
  | cons a t => cases t; exact ⟨_, rfl, a⟩
theorem rep2 {vs : List V} {a b : D} (h : RepTL K F H vs [a, b]) : ∃ v w, vs = [v, w] ∧ RepT K F H v a ∧ RepT K F H w b := by
  cases h with
  | cons a t =>
    obtain ⟨w, rfl, r⟩ := rep1 t
    exact ⟨_, w, rfl, a, r⟩
def intsD : List D → Option (List Int)
  | [] => some []
  | .int i :: ds => (intsD ds).map (i :: ·)
  | _ :: _ => none
theorem intsD_ok : ∀ {ds : List D} {ns : List Int}, intsD ds = some ns → ds = ns.map D.int
  | [], ns, e => by cases e; rfl
  | .int i :: ds, ns, e => by
    unfold intsD at e
    cases h : intsD ds with
    | none => rw [h] at e; cases e
    | some ms => rw [h] at e; cases e; rw [intsD_ok h]; rfl
  | .non :: _, _, e => by cases e
  | .bl _ :: _, _, e => by cases e
  | .str _ :: _, _, e => by cases e
  | .tup _ :: _, _, e => by cases e
  | .lst _ :: _, _, e => by cases e
  | .dic _ _ :: _, _, e => by cases e
  | .set _ :: _, _, e => by cases e
  | .scr _ :: _, _, e => by cases e
  | .ty _ :: _, _, e => by cases e
  | .obj _ _ _ :: _, _, e => by cases e
  | .ins _ _ _ :: _, _, e => by cases e
theorem intsD_map : ∀ (ns : List Int), intsD (ns.map D.int) = some ns
  | [] => rfl
  | n :: ns => by
    show (intsD (ns.map D.int)).map (n :: ·) = _
    rw [intsD_map ns]; rfl
def blsD : List D → Option (List Bool)
  | [] => some []
  | .bl i :: ds => (blsD ds).map (i :: ·)
  | _ :: _ => none
theorem blsD_ok : ∀ {ds : List D} {ns : List Bool}, blsD ds = some ns → ds = ns.map D.bl
  | [], ns, e => by cases e; rfl
  | .bl i :: ds, ns, e => by
    unfold blsD at e
    cases h : blsD ds with
    | none => rw [h] at e; cases e
    | some ms => rw [h] at e; cases e; rw [blsD_ok h]; rfl
  | .non :: _, _, e => by cases e
  | .int _ :: _, _, e => by cases e
  | .str _ :: _, _, e => by cases e
  | .tup _ :: _, _, e => by cases e
  | .lst _ :: _, _, e => by cases e
  | .dic _ _ :: _, _, e => by cases e
  | .set _ :: _, _, e => by cases e
  | .scr _ :: _, _, e => by cases e
  | .ty _ :: _, _, e => by cases e
  | .obj _ _ _ :: _, _, e => by cases e
  | .ins _ _ _ :: _, _, e => by cases e
theorem blsD_map : ∀ (ns : List Bool), blsD (ns.map D.bl) = some ns
  | [] => rfl
  | n :: ns => by
    show (blsD (ns.map D.bl)).map (n :: ·) = _
    rw [blsD_map ns]; rfl
theorem RepL.blsV : ∀ {vs : List V} {ns : List Bool}, RepL K F vs (ns.map D.bl) → vs = ns.map V.bl
  | _, [], .nil => rfl
  | _, n :: ns, .cons a b => by
    cases a
    rw [RepL.blsV b]
    rfl
/-! ### len -/
def lenD : List D → Option Val
  | [.lst xs] => some (.d (.int xs.length))
  | [.tup xs] => some (.d (.int xs.length))
  | [.scr xs] => some (.d (.int xs.length))
  | [.str z] => if z.length ≤ 16777216 then some (.d (.int z.length)) else none
  | _ => none
theorem cs_len : CallS K (fun xs H Q => (∃ p ys, xs = [.ref p] ∧ (SqL K H p ys ∨ SqT K H p ys) ∧ Q (.int ys.length) H) ∨ ∃ x n, xs = [x] ∧ LenV K x H n ∧ Q (.int n) H) lenD := by
  intro F H vs as z Q s ra e q
  unfold lenD at e
  split at e
  · cases e
    obtain ⟨v, rfl, r⟩ := rep1 ra
    obtain ⟨p, xs, rfl, hl, r⟩ := r.lst
    refine .inl ⟨p, xs, rfl, .inl (.of hl), ?_⟩
    rw [r.length]
    exact vn_int s q
  · cases e
    obtain ⟨v, rfl, r⟩ := rep1 ra
    obtain ⟨p, xs, rfl, hl, r⟩ := r.tup s
    refine .inl ⟨p, xs, rfl, .inr hl, ?_⟩
    rw [r.length]
    exact vn_int s q
  · cases e
    obtain ⟨v, rfl, r⟩ := rep1 ra
    obtain ⟨p, rfl, hl⟩ := r.scr s
    refine .inl ⟨p, _, rfl, .inl hl, ?_⟩
    rw [List.length_map]
    exact vn_int s q
  · split at e
    · rename_i hz
      cases e
      obtain ⟨v, rfl, r⟩ := rep1 ra
      obtain rfl := r.str
      exact .inr ⟨_, _, rfl, ⟨by rw [sizeLine_eq]; exact hz, rfl⟩, vn_int s q⟩
    · cases e
  · cases e
/-! ### numbers -/
def absD : List D → Option Val
  | [.int i] => some (.d (.int (if i < 0 then -i else i)))
  | _ => none
theorem cs_abs : CallS K (fun xs H Q => ∃ i, xs = [.int i] ∧ Q (.int (if i < 0 then -i else i)) H) absD := by
  intro F H vs as z Q s ra e q
  unfold absD at e
  split at e
  · cases e
    obtain ⟨v, rfl, r⟩ := rep1 ra
    obtain rfl := r.int
    exact ⟨_, rfl, vn_int s q⟩
  · cases e
def maxL : List Int → Int
  | [] => 0
  | x :: xs => xs.foldl max x
def minL : List Int → Int
  | [] => 0
  | x :: xs => xs.foldl min x
theorem foldl_max : ∀ (xs : List Int) (x : Int), (xs.foldl max x = x ∨ xs.foldl max x ∈ xs) ∧ x ≤ xs.foldl max x ∧ ∀ y ∈ xs, y ≤ xs.foldl max x
  | [], x => ⟨.inl rfl, Int.le_refl _, fun y h => nomatch h⟩
  | z :: xs, x => by
    obtain ⟨h1, h2, h3⟩ := foldl_max xs (max x z)
    rw [List.foldl_cons]
    refine ⟨?_, by omega, fun y hy => ?_⟩
    · rcases h1 with h1 | h1
      · rw [h1]
        by_cases q : x ≤ z
        · right; rw [Int.max_eq_right q]; exact List.mem_cons_self ..
        · left; omega
      · right; exact List.mem_cons_of_mem _ h1
    · rcases List.mem_cons.mp hy with rfl | hy
      · omega
      · exact h3 y hy
theorem foldl_min : ∀ (xs : List Int) (x : Int), (xs.foldl min x = x ∨ xs.foldl min x ∈ xs) ∧ xs.foldl min x ≤ x ∧ ∀ y ∈ xs, xs.foldl min x ≤ y
  | [], x => ⟨.inl rfl, Int.le_refl _, fun y h => nomatch h⟩
  | z :: xs, x => by
    obtain ⟨h1, h2, h3⟩ := foldl_min xs (min x z)
    rw [List.foldl_cons]
    refine ⟨?_, by omega, fun y hy => ?_⟩
    · rcases h1 with h1 | h1
      · rw [h1]
        by_cases q : x ≤ z
        · left; omega
        · right; rw [Int.min_eq_right (by omega)]; exact List.mem_cons_self ..
      · right; exact List.mem_cons_of_mem _ h1
    · rcases List.mem_cons.mp hy with rfl | hy
      · omega
      · exact h3 y hy
theorem maxL_mem {ns : List Int} (h : ns ≠ []) : maxL ns ∈ ns := by
  cases ns with
  | nil => exact absurd rfl h
  | cons x xs =>
    rcases (foldl_max xs x).1 with e | e
    · show xs.foldl max x ∈ _
      rw [e]; exact List.mem_cons_self ..
    · exact List.mem_cons_of_mem _ e
theorem maxL_le {ns : List Int} {y : Int} (h : y ∈ ns) : y ≤ maxL ns := by
  cases ns with
  | nil => exact nomatch h
  | cons x xs =>
    rcases List.mem_cons.mp h with rfl | h
    · exact (foldl_max xs y).2.1
    · exact (foldl_max xs x).2.2 y h
theorem minL_mem {ns : List Int} (h : ns ≠ []) : minL ns ∈ ns := by
  cases ns with
  | nil => exact absurd rfl h
  | cons x xs =>
    rcases (foldl_min xs x).1 with e | e
    · show xs.foldl min x ∈ _
      rw [e]; exact List.mem_cons_self ..
    · exact List.mem_cons_of_mem _ e
theorem minL_le {ns : List Int} {y : Int} (h : y ∈ ns) : minL ns ≤ y := by
  cases ns with
  | nil => exact nomatch h
  | cons x xs =>
    rcases List.mem_cons.mp h with rfl | h
    · exact (foldl_min xs y).2.1
    · exact (foldl_min xs x).2.2 y h
def maxD : List D → Option Val
  | [.int i, .int j] => some (.d (.int (max i j)))
  | [.lst ds] => match intsD ds with
    | some (n :: ns) => some (.d (.int (maxL (n :: ns))))
    | _ => none
  | _ => none
def minD : List D → Option Val
  | [.int i, .int j] => some (.d (.int (min i j)))
  | [.lst ds] => match intsD ds with
    | some (n :: ns) => some (.d (.int (minL (n :: ns))))
    | _ => none
  | _ => none
theorem cs_max : CallS K (fun xs H Q => (∃ i j, xs = [.int i, .int j] ∧ Q (.int (if j > i then j else i)) H) ∨ rMax K xs H Q) maxD := by
  intro F H vs as z Q s ra e q
  unfold maxD at e
  split at e
  · rename_i i j
    cases e
    obtain ⟨v, w, rfl, r, r'⟩ := rep2 ra
    obtain rfl := r.int
    obtain rfl := r'.int
    refine .inl ⟨i, j, rfl, ?_⟩
    rw [show (if j > i then j else i) = max i j by split <;> omega]
    exact vn_int s q
  · rename_i ds
    split at e
    · rename_i n ns hn
      cases e
      obtain ⟨v, rfl, r⟩ := rep1 ra
      obtain ⟨p, xs, rfl, hl, r⟩ := r.lst
      rw [intsD_ok hn] at r
      obtain rfl := r.intsV
      refine .inr ⟨p, _, rfl, .of hl, by simp, fun m h1 h2 => ?_⟩
      have e1 : m = maxL (n :: ns) := Int.le_antisymm (maxL_le h1) (h2 _ (maxL_mem (by simp)))
      rw [e1]
      exact vn_int s q
    · cases e
  · cases e
theorem cs_min : CallS K (fun xs H Q => (∃ i j, xs = [.int i, .int j] ∧ Q (.int (if j < i then j else i)) H) ∨ rMin K xs H Q) minD := by
  intro F H vs as z Q s ra e q
  unfold minD at e
  split at e
  · rename_i i j
    cases e
    obtain ⟨v, w, rfl, r, r'⟩ := rep2 ra
    obtain rfl := r.int
    obtain rfl := r'.int
    refine .inl ⟨i, j, rfl, ?_⟩
    rw [show (if j < i then j else i) = min i j by split <;> omega]
    exact vn_int s q
  · rename_i ds
    split at e
    · rename_i n ns hn
      cases e
      obtain ⟨v, rfl, r⟩ := rep1 ra
      obtain ⟨p, xs, rfl, hl, r⟩ := r.lst
      rw [intsD_ok hn] at r
      obtain rfl := r.intsV
      refine .inr ⟨p, _, rfl, .of hl, by simp, fun m h1 h2 => ?_⟩
      have e1 : m = minL (n :: ns) := Int.le_antisymm (h2 _ (minL_mem (by simp))) (minL_le h1)
      rw [e1]
      exact vn_int s q
    · cases e
  · cases e
def sumD : List D → Option Val
  | [.lst ds] => (intsD ds).map fun ns => .d (.int ns.sum)
  | _ => none
def allD : List D → Option Val
  | [.lst ds] => (blsD ds).map fun ns => .d (.bl (ns.all id))
  | _ => none
def anyD : List D → Option Val
  | [.lst ds] => (blsD ds).map fun ns => .d (.bl (ns.any id))
  | _ => none
theorem cs_all : CallS K (rAll K) allD := by
  intro F H vs as z Q s ra e q
  unfold allD at e
  split at e
  · rename_i ds
    cases hn : blsD ds with
    | none => rw [hn] at e; cases e
    | some ns =>
      rw [hn] at e
      cases e
      obtain ⟨v, rfl, r⟩ := rep1 ra
      obtain ⟨p, xs, rfl, hl, r⟩ := r.lst
      rw [blsD_ok hn] at r
      obtain rfl := r.blsV
      exact ⟨p, ns, rfl, .of hl, vn_bl s q⟩
  · cases e
def intD : List D → Option Val
  | [.int i] => some (.d (.int i))
  | [.bl b] => some (.d (.int (if b then 1 else 0)))
  | _ => none
theorem cs_int : CallS K (fun xs H Q => (∃ i, xs = [.int i] ∧ Q (.int i) H) ∨ ∃ k, xs = [.bl k] ∧ Q (.int (if k then 1 else 0)) H) intD := by
  intro F H vs as z Q s ra e q
  unfold intD at e
  split at e
  · cases e
    obtain ⟨v, rfl, r⟩ := rep1 ra
    obtain rfl := r.int
    exact .inl ⟨_, rfl, vn_int s q⟩
  · cases e
    obtain ⟨v, rfl, r⟩ := rep1 ra
    obtain rfl := r.bl
    exact .inr ⟨_, rfl, vn_int s q⟩
  · cases e
/-! ### sequences -/
def listD : List D → Option Val
  | [.lst xs] => some (.fr (.lst xs))
  | [.tup xs] => some (.fr (.lst xs))
  | _ => none
theorem cs_list : CallS K (fun xs H Q => ∃ p ys, xs = [.ref p] ∧ (SqL K H p ys ∨ SqT K H p ys) ∧ ∀ l, H l = none → Q (.ref l) (upd H l (.lst ys))) listD := by
  intro F H vs as z Q s ra e q
  unfold listD at e
  split at e
  · cases e
    obtain ⟨v, rfl, r⟩ := rep1 ra
    obtain ⟨p, xs, rfl, hl, r⟩ := r.lst
    exact ⟨p, xs, rfl, .inl (.of hl), fun l n => vn_lst s q r n⟩
  · cases e
    obtain ⟨v, rfl, r⟩ := rep1 ra
    obtain ⟨p, xs, rfl, hl, r⟩ := r.tup s
    exact ⟨p, xs, rfl, .inr hl, fun l n => vn_lst s q r n⟩
  · cases e
end
end
end DL
/-! DL7: statements. -/
namespace DL
open PySem PySem.Spec PyProof.Rows L2
variable [TabT]
inductive RS where
  | nx (ρ : DEnv) | rt (x : Val) (ρ : DEnv) | bk (ρ : DEnv) | ct (ρ : DEnv) | ex (x : Ex) (ρ : DEnv) | bad
abbrev SM := DEnv → RS
def R.bindS {α : Type} (r : R α) (g : α → DEnv → RS) : RS := match r with
  | .ok a ρ => g a ρ
  | .ex x ρ => .ex x ρ
  | .bad => .bad
def OutS (K : PySem.W.Frag) (mg : Str → Option Value) (W : WX) (σ : L2.St) (ρ : DEnv) (F H : Hp) (r : RS) (D : Ends) : Prop :=
  match r with
  | .nx ρ' => ∀ σ' F' H', SR K F' H' σ' ρ' → Ev σ ρ F H σ' ρ' F' H' → D.nx σ' H'
  | .bk ρ' => ∀ σ' F' H', SR K F' H' σ' ρ' → Ev σ ρ F H σ' ρ' F' H' → D.bk σ' H'
  | .ct ρ' => ∀ σ' F' H', SR K F' H' σ' ρ' → Ev σ ρ F H σ' ρ' F' H' → D.ct σ' H'
  | .rt x ρ' => ∀ v σ' F' H', SR K F' H' σ' ρ' → Ev σ ρ F H σ' ρ' F' H' → VR K σ' H F' H' ρ' v x → D.rt v H'
  | .ex x ρ' => ∀ cls dd σ' F' H', SR K F' H' σ' ρ' → Ev σ ρ F H σ' ρ' F' H' → XR K mg F' x cls dd → W cls dd σ' H'
  | .bad => False
def tS (K : PySem.W.Frag) (mg : Str → Option Value) (W : WX) (g : SM) : TS := fun D σ H => ∃ F ρ, SR K F H σ ρ ∧ OutS K mg W σ ρ F H (g ρ) D
def DS (X : Cx) (W : WX) (st : Stmt) (g : SM) : Prop := PS X st (tS X.K X.mg W g)
def DSs (X : Cx) (W : WX) (st : List Stmt) (g : SM) : Prop := PSs X st (tS X.K X.mg W g)
theorem ps_conseq {X : Cx} {st : Stmt} {t t' : TS} (h : PS X st t) (c : ∀ D σ H, t' D σ H → t D σ H) : PS X st t' := ⟨fun pins s σ H D I q => h.run pins s σ H D I (c _ _ _ q)⟩
theorem pss_conseq {X : Cx} {st : List Stmt} {t t' : TS} (h : PSs X st t) (c : ∀ D σ H, t' D σ H → t D σ H) : PSs X st t' := ⟨fun pins s σ H D I q => h.run pins s σ H D I (c _ _ _ q)⟩
section
variable {K : PySem.W.Frag} {mg : Str → Option Value} {W : WX} {σ σ1 : L2.St} {ρ ρ1 : DEnv} {F H F1 H1 : Hp}
theorem OutS.from {r : RS} {D : Ends} (h : OutS K mg W σ ρ F H r D) (ev : Ev σ ρ F H σ1 ρ1 F1 H1) : OutS K mg W σ1 ρ1 F1 H1 r D := by
  cases r with
  | nx ρ' => exact fun σ' F' H' s e => h σ' F' H' s (ev.trans e)
  | bk ρ' => exact fun σ' F' H' s e => h σ' F' H' s (ev.trans e)
  | ct ρ' => exact fun σ' F' H' s e => h σ' F' H' s (ev.trans e)
  | rt x ρ' => exact fun v σ' F' H' s e r => h v σ' F' H' s (ev.trans e) (r.base ev.dom)
  | ex x ρ' => exact fun c d σ' F' H' s e r => h c d σ' F' H' s (ev.trans e) r
  | bad => exact h
/-- an expression's outcome, then a statement's -/
theorem Out.bindS {α β : Type} {rel : RelT β α} {r : R α} {g : α → DEnv → RS} {D : Ends} (h : OutS K mg W σ ρ F H (r.bindS g) D) :
    Out K mg (fun c d H => W c d σ H) rel σ ρ F H r (fun v H1 => ∃ x F1 ρ1, r = .ok x ρ1 ∧ SR K F1 H1 σ ρ1 ∧ Ev σ ρ F H σ ρ1 F1 H1 ∧ rel H F1 H1 ρ1 v x ∧ OutS K mg W σ ρ F H (g x ρ1) D) := by
  cases r with
  | ok x ρ' => exact fun v F' H' s e r => ⟨x, F', ρ', rfl, s, e, r, h⟩
  | ex x ρ' => exact fun c d F' H' s e r => h c d σ F' H' s e r
  | bad => exact h
end
section
variable {X : Cx} {W : WX} {e c : Expr} {f : EM} {t : M Bool} {st : Stmt} {sts sts' : List Stmt} {g h : SM} {pos : Pos}
def sSkip : SM := .nx
def sSeq (g h : SM) : SM := fun ρ => match g ρ with
  | .nx ρ' => h ρ'
  | r => r
theorem ds_nil : DSs X W [] sSkip := pss_conseq pss_nil fun D σ H ⟨F, ρ, sr, q⟩ => q σ F H sr .refl
theorem ds_cons (h1 : DS X W st g) (h2 : DSs X W sts h) : DSs X W (st :: sts) (sSeq g h) := pss_conseq (pss_cons h1 h2) fun D σ H hq => by
  obtain ⟨F, ρ, sr, q⟩ := hq
  refine ⟨F, ρ, sr, ?_⟩
  unfold sSeq at q
  cases hg : g ρ with
  | nx ρ' => rw [hg] at q; exact fun σ' F' H' s ev => ⟨F', ρ', s, q.from ev⟩
  | rt x ρ' => rw [hg] at q; exact q
  | bk ρ' => rw [hg] at q; exact q
  | ct ρ' => rw [hg] at q; exact q
  | ex x ρ' => rw [hg] at q; exact q
  | bad => rw [hg] at q; exact q
theorem ds_one (h1 : DS X W st g) : DSs X W [st] g := pss_conseq (pss_one h1) fun D σ H hq => hq
def sBreak : SM := .bk
def sCont : SM := .ct
def sDrop (f : EM) : SM := fun ρ => (f ρ).bindS fun _ ρ1 => .nx ρ1
def sRet (f : EM) : SM := fun ρ => (f ρ).bindS fun x ρ1 => .rt x ρ1
theorem ds_ret (he : DE X W e f) : DS X W (.Return (some e) pos) (sRet f) := ps_conseq (ps_ret he) fun D σ H hq => by
  obtain ⟨F, ρ, sr, q⟩ := hq
  exact ⟨F, ρ, sr, (Out.bindS (rel := relV X.K σ) q).mono fun v H1 ⟨x, F1, ρ1, e1, s1, ev1, r1, o1⟩ => o1 v σ F1 H1 s1 ev1 r1⟩
def sRetN : SM := fun ρ => .rt (.d .non) ρ
def sIf (t : M Bool) (g h : SM) : SM := fun ρ => (t ρ).bindS fun b ρ1 => if b = true then g ρ1 else h ρ1
theorem ds_if (hc : DT X W c t) (h1 : DSs X W sts g) (h2 : DSs X W sts' h) : DS X W (.If c sts sts' pos) (sIf t g h) := ps_conseq (ps_if hc h1 h2) fun D σ H hq => by
  obtain ⟨F, ρ, sr, q⟩ := hq
  refine ⟨F, ρ, sr, (Out.bindS (rel := relB) q).mono fun v H1 ⟨x, F1, ρ1, e1, s1, ev1, r1, o1⟩ => ?_⟩
  have r1 : v = x := r1
  subst r1
  have o2 := o1.from ev1
  cases v with
  | true => exact ⟨F1, ρ1, s1, o2⟩
  | false => exact ⟨F1, ρ1, s1, o2⟩
/-! ### names stored -/
def put (i : Nat) (s : Slot) (ρ : DEnv) : RS := match ρ[i]? with
  | some .un => .nx (ρ.set i s)
  | some (.d _) => .nx (ρ.set i s)
  | some (.ow _ .own) => .nx (ρ.set i s)
  | _ => .bad
def asgV (i : Nat) (x : Val) : SM := fun ρ => match x with
  | .fr c => put i (.ow c .own) ρ
  | x => (x.fz ρ).bindS fun y ρ1 => match y with
    | .d d => put i (.d d) ρ1
    | _ => .bad
section
variable {K : PySem.W.Frag} {mg : Str → Option Value} {σ σb : L2.St} {ρ ρb ρ' : DEnv} {Fb Hb F H : Hp} {v : V} {i : Nat}
theorem put_nx {s : Slot} (h : put i s ρ = .nx ρ') : i < ρ.length ∧ ρ' = ρ.set i s ∧ ∀ c m, ρ[i]? = some (.ow c m) → m = .own := by
  unfold put at h
  cases q : ρ[i]? with
  | none => rw [q] at h; cases h
  | some t =>
    have hl : i < ρ.length := by
      rcases Nat.lt_or_ge i ρ.length with z | z
      · exact z
      · rw [List.getElem?_eq_none z] at q; cases q
    rw [q] at h
    cases t with
    | un => cases h; exact ⟨hl, rfl, fun c m e => by cases e⟩
    | d x => cases h; exact ⟨hl, rfl, fun c m e => by cases e⟩
    | ow c m =>
      cases m with
      | own => cases h; exact ⟨hl, rfl, fun c m e => by cases e; rfl⟩
      | bor => cases h
      | lck => cases h
theorem put_cases (s : Slot) (ρ : DEnv) (i : Nat) : put i s ρ = .bad ∨ ∃ ρ', put i s ρ = .nx ρ' := by
  unfold put
  split <;> first | exact .inl rfl | exact .inr ⟨_, rfl⟩
/-- what the store brings: data, or a new object of ours -/
def PutOk (K : PySem.W.Frag) (σ : L2.St) (ρ : DEnv) (Hb F H : Hp) (v : V) : Slot → Prop
  | .un => True
  | .d x => Rep K F v x
  | .ow c m => m = .own ∧ ∃ p, v = .ref p ∧ Hb p = none ∧ F p = none ∧ CRep K F H p c ∧ ¬ Ow σ ρ p
theorem put_ok {s : Slot} (sr : SR K F H σ ρ) (ev : Ev σb ρb Fb Hb σ ρ F H) (ok : PutOk K σ ρ Hb F H v s) (h : put i s ρ = .nx ρ') :
    SR K F H (σ.set i (some v)) ρ' ∧ Ev σb ρb Fb Hb (σ.set i (some v)) ρ' F H := by
  obtain ⟨hl, rfl, hm⟩ := put_nx h
  have hlσ : i < σ.length := by rw [sr.len]; exact hl
  have at_i : (ρ.set i s)[i]? = some s := List.getElem?_set_self hl
  have at_σ : (σ.set i (some v))[i]? = some (some v) := List.getElem?_set_self hlσ
  have ow_of : ∀ {j : Nat} {c : Cont} {m : Md} {a : Addr}, (ρ.set i s)[j]? = some (.ow c m) → (σ.set i (some v))[j]? = some (some (.ref a)) → (j = i ∧ s = .ow c m ∧ v = .ref a) ∨ (j ≠ i ∧ ρ[j]? = some (.ow c m) ∧ σ[j]? = some (some (.ref a))) := fun {j c m a} e1 e2 => by
    by_cases hj : i = j
    · subst hj
      rw [at_i] at e1
      rw [at_σ] at e2
      cases e1; cases e2
      exact .inl ⟨rfl, rfl, rfl⟩
    · rw [List.getElem?_set_ne hj] at e1 e2
      exact .inr ⟨fun z => hj z.symm, e1, e2⟩
  refine ⟨⟨by rw [List.length_set, List.length_set]; exact sr.len, sr.sub, fun j t e => ?_, fun j k c1 m1 c2 m2 a e1 e2 e3 e4 => ?_, sr.tab⟩, ⟨ev.ext, ev.keep, ev.newF, ev.dom, fun j c m e n => ?_, fun a z => ?_, fun a z => ?_⟩⟩
  · by_cases hj : i = j
    · subst hj
      rw [at_i] at e
      cases e
      refine ⟨some v, at_σ, ?_⟩
      cases s with
      | un => trivial
      | d x => exact ⟨v, rfl, ok⟩
      | ow c m =>
        obtain ⟨_, p, rfl, _, nF, cr, _⟩ := ok
        exact ⟨p, rfl, nF, cr⟩
    · rw [List.getElem?_set_ne hj] at e ⊢
      exact sr.slot j t e
  · rcases ow_of e1 e3 with ⟨rfl, e5, rfl⟩ | ⟨n1, f1, f3⟩
    · rcases ow_of e2 e4 with ⟨rfl, _, _⟩ | ⟨n2, f2, f4⟩
      · rfl
      · subst e5
        obtain ⟨_, p, e6, _, _, _, no⟩ := ok
        cases e6
        exact absurd ⟨k, c2, m2, f2, f4⟩ no
    · rcases ow_of e2 e4 with ⟨rfl, e5, rfl⟩ | ⟨n2, f2, f4⟩
      · subst e5
        obtain ⟨_, p, e6, _, _, _, no⟩ := ok
        cases e6
        exact absurd ⟨j, c1, m1, f1, f3⟩ no
      · exact sr.dist j k c1 m1 c2 m2 a f1 f2 f3 f4
  · obtain ⟨z1, c', z2, z3⟩ := ev.bor j c m e n
    have hj : i ≠ j := fun hj => by subst hj; exact n (hm c' m z2)
    rw [List.getElem?_set_ne hj, List.getElem?_set_ne hj]
    exact ⟨z1, c', z2, z3⟩
  · obtain ⟨j, c, m, e1, e2⟩ := z
    rcases ow_of e1 e2 with ⟨rfl, e5, rfl⟩ | ⟨n1, f1, f3⟩
    · subst e5
      obtain ⟨_, p, e6, nb, _⟩ := ok
      cases e6
      exact .inl nb
    · exact ev.own' a ⟨j, c, m, f1, f3⟩
  · obtain ⟨j, c, m, e1, hm', e2⟩ := z
    rcases ow_of e1 e2 with ⟨rfl, e5, rfl⟩ | ⟨n1, f1, f3⟩
    · subst e5
      obtain ⟨_, p, e6, nb, _⟩ := ok
      cases e6
      exact .inl nb
    · exact ev.mt' a ⟨j, c, m, f1, hm', f3⟩
/-- a store of a value: the outcome at the new slots -/
theorem asg_ok {W : WX} {x : Val} {D : Ends} (sr : SR K F H σ ρ) (ev : Ev σb ρb Fb Hb σ ρ F H) (r : VR K σ Hb F H ρ v x) (h : OutS K mg W σb ρb Fb Hb (asgV i x ρ) D) : ∃ ρ', asgV i x ρ = .nx ρ' ∧ ∃ F', SR K F' H (σ.set i (some v)) ρ' ∧ Ev σb ρb Fb Hb (σ.set i (some v)) ρ' F' H := by
  have frz : ∀ {y : Val} {ρ1 : DEnv}, x.fz ρ = .ok y ρ1 → OutS K mg W σb ρb Fb Hb (match y with | .d d => put i (.d d) ρ1 | _ => .bad) D → ∃ ρ', (match y with | .d d => put i (.d d) ρ1 | _ => RS.bad) = .nx ρ' ∧ ∃ F', SR K F' H (σ.set i (some v)) ρ' ∧ Ev σb ρb Fb Hb (σ.set i (some v)) ρ' F' H := fun {y ρ1} e o => by
    obtain ⟨F2, d, rfl, s2, ev2, r2⟩ := fz_ok sr ev r e
    dsimp only at o ⊢
    rcases put_cases (.d d) ρ1 i with q | ⟨ρ', q⟩
    · rw [q] at o; exact o.elim
    · refine ⟨ρ', q, F2, ?_⟩
      exact put_ok s2 ev2 (s := .d d) r2 q
  cases x with
  | fr c =>
    unfold asgV at h ⊢
    dsimp only at h ⊢
    obtain ⟨p, e, nb, nF, cr, no⟩ := r
    rcases put_cases (.ow c .own) ρ i with q | ⟨ρ', q⟩
    · rw [q] at h; exact h.elim
    · exact ⟨ρ', q, F, put_ok sr ev (s := .ow c .own) ⟨rfl, p, e, nb, nF, cr, no⟩ q⟩
  | d d =>
    unfold asgV at h ⊢
    exact frz (y := .d d) rfl h
  | sl j =>
    unfold asgV at h ⊢
    dsimp only at h ⊢
    cases hz : (Val.sl j).fz ρ with
    | bad => rw [hz] at h; exact h.elim
    | ex z ρ2 =>
      exfalso
      unfold Val.fz at hz
      dsimp only at hz
      split at hz <;> cases hz
    | ok y ρ1 =>
      rw [hz] at h
      exact frz hz h
end
def sAsg (i : Nat) (f : EM) : SM := fun ρ => (f ρ).bindS fun x ρ1 => asgV i x ρ1
theorem ds_asg (i : Nat) {x : Str} {pos' : Pos} (hN : X.N.Nodup) (he : DE X W e f) (hi : X.N[i]? = some x := by rfl) (hx : Loc X.env.scope x := by first | exact .inl rfl | exact .inr rfl) (hs : swapsWith e (some (.Name x pos')) pos.line X.env = pure false := by rfl) (hf : X.fn x = true ∨ X.env.scope.names.lookup x = some .local := by first | exact .inl rfl | exact .inr rfl) :
    DS X W (.Assign [.Name x pos'] e pos) (sAsg i f) := ps_conseq (ps_set hN hi hx he hs hf) fun D σ H hq => by
  obtain ⟨F, ρ, sr, q⟩ := hq
  refine ⟨F, ρ, sr, (Out.bindS (rel := relV X.K σ) q).mono fun v H1 ⟨x, F1, ρ1, e1, s1, ev1, r1, o1⟩ => ?_⟩
  obtain ⟨ρ', e2, F2, s2, ev2⟩ := asg_ok s1 ev1 r1 o1
  rw [e2] at o1
  exact o1 _ F2 H1 s2 ev2
/-! ### targets -/
/-- σ' is as σ but for the slots of S -/
def Off (S : List Nat) (σ σ' : L2.St) : Prop := σ'.length = σ.length ∧ ∀ j, j ∉ S → σ'[j]? = σ[j]?
theorem Off.refl {S : List Nat} {σ : L2.St} : Off S σ σ := ⟨rfl, fun _ _ => rfl⟩
theorem Off.trans {S T : List Nat} {σ σ1 σ2 : L2.St} (a : Off S σ σ1) (b : Off T σ1 σ2) : Off (S ++ T) σ σ2 := ⟨b.1.trans a.1, fun j h => by
  rw [List.mem_append, not_or] at h
  exact (b.2 j h.2).trans (a.2 j h.1)⟩
def OutN (K : PySem.W.Frag) (S : List Nat) (σ σb : L2.St) (ρb : DEnv) (Fb Hb : Hp) (r : RS) (Q : L2.St → Hp → Prop) : Prop := match r with
  | .nx ρ' => ∀ σ' F' H', SR K F' H' σ' ρ' → Ev σb ρb Fb Hb σ' ρ' F' H' → Off S σ σ' → Q σ' H'
  | _ => False
def tG (K : PySem.W.Frag) (S : List Nat) (g : Val → SM) : TG := fun v σ H Q => ∃ σb ρb Fb Hb F ρ x, SR K F H σ ρ ∧ Ev σb ρb Fb Hb σ ρ F H ∧ VR K σ Hb F H ρ v x ∧ OutN K S σ σb ρb Fb Hb (g x ρ) Q
def DG (X : Cx) (tg : Expr) (S : List Nat) (g : Val → SM) : Prop := PG X tg (tG X.K S g)
theorem pg_conseq {tg : Expr} {t t' : TG} (h : PG X tg t) (c : ∀ v σ H Q, t' v σ H Q → t v σ H Q) : PG X tg t' := ⟨fun pins s σ H v u Q I r q => h.run pins s σ H v u Q I r (c _ _ _ _ q)⟩
theorem OutN.outS {K : PySem.W.Frag} {mg : Str → Option Value} {S : List Nat} {σ σb : L2.St} {ρb : DEnv} {Fb Hb : Hp} {r : RS} {Q : L2.St → Hp → Prop} (h : OutN K S σ σb ρb Fb Hb r Q) :
    ∃ ρ', r = .nx ρ' ∧ ∀ σ' F' H', SR K F' H' σ' ρ' → Ev σb ρb Fb Hb σ' ρ' F' H' → Off S σ σ' → Q σ' H' := by
  cases r <;> first | exact ⟨_, rfl, h⟩ | exact h.elim
theorem dg_name (i : Nat) {x : Str} (hN : X.N.Nodup) (hi : X.N[i]? = some x := by rfl) (hx : Loc X.env.scope x := by first | exact .inl rfl | exact .inr rfl) (hf : X.fn x = true ∨ X.env.scope.names.lookup x = some .local := by first | exact .inl rfl | exact .inr rfl) : DG X (.Name x pos) [i] (fun x => asgV i x) :=
  pg_conseq (pg_name hN hi hx hf) fun v σ H Q ⟨σb, ρb, Fb, Hb, F, ρ, x, sr, ev, r, q⟩ => by
    dsimp only at q
    obtain ⟨ρ', e1, q1⟩ := q.outS (mg := X.mg)
    obtain ⟨ρ2, e2, F2, s2, ev2⟩ := asg_ok (mg := X.mg) (W := fun _ _ _ _ => True) (D := { nx := fun _ _ => True, rt := fun _ _ => True }) sr ev r (by rw [e1]; exact fun _ _ _ _ _ => trivial)
    rw [e1] at e2
    cases e2
    refine q1 _ F2 H s2 ev2 ⟨List.length_set, fun j h => ?_⟩
    rw [List.getElem?_set_ne]
    exact fun z => h (by simp [z])
end
end DL
/-! DL8: tuple targets, parallel stores, op= at a name. -/
namespace DL
open PySem PySem.Spec PyProof.Rows L2
variable [TabT]
section
variable {X : Cx} {W : WX} {e c : Expr} {es : List Expr} {f : EM} {g : M (List Val)} {st : Stmt} {sts : List Stmt} {pos : Pos}
/-! ### (a, b, ..) as a target -/
def RS.thenS (r : RS) (h : SM) : RS := match r with
  | .nx ρ' => h ρ'
  | r => r
def tGs (K : PySem.W.Frag) (S : List Nat) (g : List D → SM) : TGs := fun vs σ H Q => ∃ σb ρb Fb Hb F ρ ds, SR K F H σ ρ ∧ Ev σb ρb Fb Hb σ ρ F H ∧ RepL K F vs ds ∧ OutN K S σ σb ρb Fb Hb (g ds ρ) Q
def DGs (X : Cx) (tgs : List Expr) (S : List Nat) (g : List D → SM) : Prop := PGs X tgs (tGs X.K S g)
theorem pgs_conseq {tgs : List Expr} {t t' : TGs} (h : PGs X tgs t) (c : ∀ v σ H Q, t' v σ H Q → t v σ H Q) : PGs X tgs t' := ⟨fun pins s σ H v u Q I r q => h.run pins s σ H v u Q I r (c _ _ _ _ q)⟩
def gsNil : List D → SM := fun ds ρ => match ds with
  | [] => .nx ρ
  | _ => .bad
def gsCons (g : Val → SM) (h : List D → SM) : List D → SM := fun ds ρ => match ds with
  | d :: ds => (g (.d d) ρ).thenS (h ds)
  | [] => .bad
theorem dgs_nil : DGs X [] [] gsNil := pgs_conseq pgs_nil fun vs σ H Q hq => by
  obtain ⟨σb, ρb, Fb, Hb, F, ρ, ds, sr, ev, r, q⟩ := hq
  cases r with
  | nil => exact ⟨rfl, q σ F H sr ev .refl⟩
  | cons a b => exact q.elim
theorem dgs_cons {S T : List Nat} {h : List D → SM} {g : Val → SM} {tg : Expr} {tgs : List Expr} (h1 : DG X tg S g) (h2 : DGs X tgs T h) (hs : (assignEach (tg :: tgs) X.env).map (·.2) = assign tg X.env :: (assignEach tgs X.env).map (·.2) := by rfl) : DGs X (tg :: tgs) (S ++ T) (gsCons g h) :=
  pgs_conseq (pgs_cons h1 h2 hs) fun vs σ H Q hq => by
    obtain ⟨σb, ρb, Fb, Hb, F, ρ, ds, sr, ev, r, q⟩ := hq
    cases r with
    | nil => exact q.elim
    | cons a b =>
      rename_i v vs d ds
      refine ⟨v, vs, rfl, σ, ρ, F, H, F, ρ, .d d, sr, .refl, a, ?_⟩
      dsimp only [gsCons] at q
      cases hg : g (.d d) ρ with
      | nx ρ1 =>
        rw [hg] at q
        refine fun σ' F' H' s1 ev1 of1 => ⟨σb, ρb, Fb, Hb, F', ρ1, ds, s1, ev.trans ev1, b.mono (.of ev1.ext), ?_⟩
        obtain ⟨ρ2, e2, q2⟩ := OutN.outS (mg := X.mg) q
        have e3 : h ds ρ1 = .nx ρ2 := e2
        rw [e3]
        exact fun σ2 F2 H2 s2 ev2 of2 => q2 σ2 F2 H2 s2 ev2 (of1.trans of2)
      | rt x ρ' => rw [hg] at q; exact q.elim
      | bk ρ' => rw [hg] at q; exact q.elim
      | ct ρ' => rw [hg] at q; exact q.elim
      | ex x ρ' => rw [hg] at q; exact q.elim
      | bad => rw [hg] at q; exact q.elim
def tupG (n : Nat) (h : List D → SM) : Val → SM := fun x ρ => match x.peek ρ with
  | some (.tup ds) => if ds.length = n then h ds ρ else .bad
  | some (.lst ds) => if ds.length = n then h ds ρ else .bad
  | _ => .bad
theorem pg_or {tg : Expr} {t t' : TG} (h1 : PG X tg t) (h2 : PG X tg t') : PG X tg (fun v σ H Q => t v σ H Q ∨ t' v σ H Q) := ⟨fun pins s σ H v u Q I r hw => hw.elim (h1.run pins s σ H v u Q I r) (h2.run pins s σ H v u Q I r)⟩
theorem dg_tup (n : Nat) {S : List Nat} {h : List D → SM} {tgs : List Expr} {k : Nat} (hc : X.calm = true) (hh : DGs X tgs S h) (hn : (assignEach tgs X.env).length = n := by rfl) (hst : (assignEach tgs X.env).findIdx? (·.1) = none := by rfl) : DG X (.Tuple tgs k pos) S (tupG n h) :=
  pg_conseq (pg_or (pg_tup hc hh hn hst) (pg_unl hc hh hn hst)) fun v σ H Q hq => by
    obtain ⟨σb, ρb, Fb, Hb, F, ρ, x, sr, ev, r, q⟩ := hq
    unfold tupG at q
    cases hx : x.peek ρ with
    | none => rw [hx] at q; exact q.elim
    | some d =>
      rw [hx] at q
      cases d with
      | tup ds =>
        dsimp only at q
        split at q
        · rename_i hl
          have rt := r.peek sr hx
          obtain ⟨a, xs, rfl, hs, rl⟩ := rt.tup sr.sub
          exact .inl ⟨a, xs, rfl, hs, by rw [rl.length]; exact hl, σb, ρb, Fb, Hb, F, ρ, ds, sr, ev, rl, q⟩
        · exact q.elim
      | lst ds =>
        dsimp only at q
        split at q
        · rename_i hl
          have rt := r.peek sr hx
          obtain ⟨a, xs, rfl, hs, rl⟩ := rt.lst
          exact .inr ⟨a, xs, rfl, .of hs, by rw [rl.length]; exact hl, σb, ρb, Fb, Hb, F, ρ, ds, sr, ev, rl, q⟩
        · exact q.elim
      | _ => exact q.elim
/-- target = e, any target -/
def sTgt (f : EM) (g : Val → SM) : SM := fun ρ => (f ρ).bindS g
theorem ds_tgt {tg : Expr} {S : List Nat} {g : Val → SM} (he : DE X W e f) (hg : DG X tg S g) (hg2 : ∀ x ρ, (∃ ρ', g x ρ = .nx ρ') ∨ g x ρ = .bad) (hs : swapsWithSole [tg] e pos.line X.env = pure false := by rfl) (hw : swappedStores [tg] e X.env = pure none := by rfl)
    (h1 : (assignEach [tg] X.env).map (·.2) = [assign tg X.env] := by rfl) : DS X W (.Assign [tg] e pos) (sTgt f g) := ps_conseq (ps_asg he hg hs hw h1) fun D σ H hq => by
  obtain ⟨F, ρ, sr, q⟩ := hq
  refine ⟨F, ρ, sr, (Out.bindS (rel := relV X.K σ) q).mono fun v H1 ⟨x, F1, ρ1, e1, s1, ev1, r1, o1⟩ => ?_⟩
  refine ⟨σ, ρ, F, H, F1, ρ1, x, s1, ev1, r1, ?_⟩
  rcases hg2 x ρ1 with ⟨ρ', h⟩ | h
  · rw [h] at o1 ⊢
    exact fun σ' F' H' s e _ => o1 σ' F' H' s e
  · rw [h] at o1; exact o1.elim
/-- only .nx or .bad -/
def NxG (g : Val → SM) : Prop := ∀ x ρ, (∃ ρ', g x ρ = .nx ρ') ∨ g x ρ = .bad
def NxGs (g : List D → SM) : Prop := ∀ x ρ, (∃ ρ', g x ρ = .nx ρ') ∨ g x ρ = .bad
theorem nx_asgV (i : Nat) : NxG (fun x => asgV i x) := fun x ρ => by
  dsimp only
  unfold asgV
  cases x with
  | fr c => exact (put_cases _ _ _).symm
  | d d => exact (put_cases _ _ _).symm
  | sl j =>
    dsimp only
    cases hz : (Val.sl j).fz ρ with
    | bad => exact .inr rfl
    | ex z ρ2 =>
      exfalso
      unfold Val.fz at hz
      dsimp only at hz
      split at hz <;> cases hz
    | ok y ρ1 =>
      cases y with
      | d d => exact (put_cases _ _ _).symm
      | fr c => exact .inr rfl
      | sl j => exact .inr rfl
theorem nx_gsNil : NxGs gsNil := fun ds ρ => by
  cases ds with
  | nil => exact .inl ⟨ρ, rfl⟩
  | cons d ds => exact .inr rfl
theorem nx_gsCons {g : Val → SM} {h : List D → SM} (hg : NxG g) (hh : NxGs h) : NxGs (gsCons g h) := fun ds ρ => by
  cases ds with
  | nil => exact .inr rfl
  | cons d ds =>
    show (∃ ρ', (g (.d d) ρ).thenS (h ds) = .nx ρ') ∨ (g (.d d) ρ).thenS (h ds) = .bad
    rcases hg (.d d) ρ with ⟨ρ', e⟩ | e
    · rw [e]; exact hh ds ρ'
    · rw [e]; exact .inr rfl
theorem nx_tupG {n : Nat} {h : List D → SM} (hh : NxGs h) : NxG (tupG n h) := fun x ρ => by
  unfold tupG
  split
  · split
    · exact hh _ ρ
    · exact .inr rfl
  · split
    · exact hh _ ρ
    · exact .inr rfl
  · exact .inr rfl
/-! ### a, b = e1, e2 -/
/-- a slot's object is frozen, a fresh one stays fresh -/
def nsl (f : EM) : EM := fun ρ => (f ρ).bind fun x ρ1 => match x with
  | .sl i => Val.fz (.sl i) ρ1
  | x => .ok x ρ1
def asgs : List Nat → List Val → SM
  | [], [] => .nx
  | i :: is, .d d :: xs => fun ρ => (put i (.d d) ρ).thenS (asgs is xs)
  | i :: is, .fr c :: xs => fun ρ => (put i (.ow c .own) ρ).thenS (asgs is xs)
  | _, _ => fun _ => .bad
def sPar (is : List Nat) (g : M (List Val)) : SM := fun ρ => (g ρ).bindS fun xs ρ1 => asgs is xs ρ1
end
end DL
/-! DL9: what is walked; for, while. -/
namespace DL
open PySem PySem.Spec PyProof.Rows L2
variable [TabT]
/-- what is walked: its items; the slot whose object is walked -/
abbrev Src := List D × Option Nat
structure ItS (K : PySem.W.Frag) (J : It) (ds : List D) (Pre : Hp → Hp → Prop) : Prop where
  go : ∀ i F H, i < ds.length → Same F H → Pre F H → J.go i H
  yld : ∀ i x F H H', i < ds.length → Same F H → Pre F H → J.yld i H x H' → ∃ d F', ds[i]? = some d ∧ Gr F H F' H' ∧ Rep K F' x d
  stop : ∀ i F H, ds.length ≤ i → Same F H → Pre F H → J.stop i H
/-- what was there stays: the frozen part, the locked object -/
def PreI (σ : L2.St) (lk : Option Nat) (F1 H1 F H : Hp) : Prop := Same F1 F ∧ ∀ i, lk = some i → ∀ a o, σ[i]? = some (some (.ref a)) → H1 a = some o → H a = some o
def relI (K : PySem.W.Frag) (σ : L2.St) : RelT It Src := fun _ F H ρ J src => ItS K J src.1 (PreI σ src.2 F H) ∧ ∀ i, src.2 = some i → ∃ c m, ρ[i]? = some (.ow c m)
abbrev IM := M Src
def tI (K : PySem.W.Frag) (mg : Str → Option Value) (W : WX) (f : IM) : TI := fun σ H R => ∃ F ρ, SR K F H σ ρ ∧ Out K mg (fun c d H => W c d σ H) (relI K σ) σ ρ F H (f ρ) R
def DI (X : Cx) (W : WX) (tg iter : Expr) (f : IM) : Prop := PI X tg iter (tI X.K X.mg W f)
theorem pi_conseq {X : Cx} {tg iter : Expr} {t t' : TI} (h : PI X tg iter t) (c : ∀ σ H R, t' σ H R → t σ H R) : PI X tg iter t' := ⟨fun pins s σ H R I q => h.run pins s σ H R I (c _ _ _ q)⟩
theorem pi_or {X : Cx} {tg iter : Expr} {t t' : TI} (h : PI X tg iter t) (h' : PI X tg iter t') : PI X tg iter (fun σ H R => t σ H R ∨ t' σ H R) := ⟨fun pins s σ H R I q => q.elim (h.run pins s σ H R I) (h'.run pins s σ H R I)⟩
section
variable {K : PySem.W.Frag} {F H : Hp}
theorem its_tup {σ : L2.St} {lk : Option Nat} {a : Addr} {xs : List V} {ds : List D} {F1 H1 : Hp} (r : RepL K F1 xs ds) (h : ∀ F H, Same F H → PreI σ lk F1 H1 F H → SqT K H a xs) : ItS K (Itt K a) ds (PreI σ lk F1 H1) where
  go := fun i F H hi s p => by
    have hl : i < xs.length := by rw [r.length]; exact hi
    exact ⟨xs, xs[i], h F H s p, List.getElem?_eq_getElem hl⟩
  yld := fun i x F H H' hi s p ⟨e, hy⟩ => by
    subst e
    have q := hy xs (h F _ s p)
    obtain ⟨d, h1, h2⟩ := r.getV q
    exact ⟨d, F, h1, .refl s, h2.mono (.of p.1)⟩
  stop := fun i F H hi s p => ⟨xs, h F H s p, by rw [r.length]; exact hi⟩
theorem its_range {σ : L2.St} {lk : Option Nat} {lo : Int} {n : Nat} {F1 H1 : Hp} : ItS K (Itr lo n) ((List.range n).map fun i : Nat => D.int (lo + (i : Int))) (PreI σ lk F1 H1) where
  go := fun i F H hi s p => by
    show i < n
    simpa using hi
  yld := fun i x F H H' hi s p ⟨e, hx⟩ => by
    subst e; subst hx
    have hi : i < n := by simpa using hi
    exact ⟨_, F, by rw [List.getElem?_map, List.getElem?_range hi]; rfl, .refl s, .int _⟩
  stop := fun i F H hi s p => by
    show n ≤ i
    simpa using hi
end
/-! ### sources -/
def seqSrc (x : Val) (ρ : DEnv) : R Src := match x with
  | .d (.lst ds) => .ok (ds, none) ρ
  | .d (.tup ds) => .ok (ds, none) ρ
  | .fr (.lst ds) => .ok (ds, none) ρ
  | .sl i => match ρ[i]? with
    | some (.d (.lst ds)) => .ok (ds, none) ρ
    | some (.d (.tup ds)) => .ok (ds, none) ρ
    | some (.ow (.lst ds) _) => .ok (ds, some i) ρ
    | _ => .bad
  | _ => .bad
def iSeq (f : EM) : IM := fun ρ => (f ρ).bind seqSrc
section
variable {X : Cx} {W : WX} {tg e : Expr} {f : EM} {es : List Expr} {g : M (List Val)} {p pos : Pos}
/-- as its_list, whatever else may be read at a: the loop's own look is at the list that stands -/
theorem its_list' {K : PySem.W.Frag} {σ : L2.St} {lk : Option Nat} {a : Addr} {xs : List V} {ds : List D} {F1 H1 : Hp} (r : RepL K F1 xs ds) (h : ∀ F H, Same F H → PreI σ lk F1 H1 F H → SqL K H a xs) : ItS K (Itl K a) ds (PreI σ lk F1 H1) where
  go := fun i F H hi s p => by
    have hl : i < xs.length := by rw [r.length]; exact hi
    exact ⟨xs, xs[i], h F H s p, List.getElem?_eq_getElem hl⟩
  yld := fun i x F H H' hi s p ⟨e, hy⟩ => by
    subst e
    have q := hy xs (h F _ s p)
    obtain ⟨d, h1, h2⟩ := r.getV q
    exact ⟨d, F, h1, .refl s, h2.mono (.of p.1)⟩
  stop := fun i F H hi s p => ⟨xs, h F H s p, by rw [r.length]; exact hi⟩
theorem di_seq (he : DE X W e f) : DI X W tg e (iSeq f) := pi_conseq (pi_or (pi_list he) (pi_tup he)) fun σ H R hq => by
  obtain ⟨F, ρ, sr, q⟩ := hq
  -- a frozen sequence
  have lstD : ∀ {ds : List D} {v : V} {F1 H1 : Hp} {ρ1 : DEnv}, SR X.K F1 H1 σ ρ1 → Rep X.K F1 v (.lst ds) → ∃ a, v = .ref a ∧ (∃ xs, SqL X.K H1 a xs) ∧ relI X.K σ H F1 H1 ρ1 (Itl X.K a) (ds, none) := fun {ds v F1 H1 ρ1} s1 r => by
    cases r with
    | lst e r => exact ⟨_, rfl, ⟨_, .of (s1.sub _ _ e)⟩, its_list' r (fun F' H' s p => .of (s _ _ (p.1 _ _ e))), fun i h => by cases h⟩
  have tupD : ∀ {ds : List D} {v : V} {F1 H1 : Hp} {ρ1 : DEnv}, SR X.K F1 H1 σ ρ1 → Rep X.K F1 v (.tup ds) → ∃ a, v = .ref a ∧ (∃ xs, SqT X.K H1 a xs) ∧ relI X.K σ H F1 H1 ρ1 (Itt X.K a) (ds, none) := fun {ds v F1 H1 ρ1} s1 r => by
    cases r with
    | tup e r => exact ⟨_, rfl, ⟨_, (RdLe.of s1.sub).sqT e⟩, its_tup r (fun F' H' s p => (RdLe.of s).sqT ((RdLe.of p.1).sqT e)), fun i h => by cases h⟩
  unfold iSeq at q
  cases h1 : f ρ with
  | bad => rw [h1] at q; exact q.elim
  | ex x ρ1 => rw [h1] at q; exact .inl ⟨F, ρ, sr, by rw [h1]; exact q⟩
  | ok x ρ1 =>
    rw [h1] at q
    have q : Out X.K X.mg (fun c d H => W c d σ H) (relI X.K σ) σ ρ F H (seqSrc x ρ1) R := q
    cases x with
    | d x =>
      cases x with
      | lst ds =>
        refine .inl ⟨F, ρ, sr, ?_⟩
        rw [h1]
        intro v F1 H1 s1 ev1 r1
        obtain ⟨a, rfl, hx, rel⟩ := lstD s1 r1
        exact ⟨a, rfl, hx, q _ F1 H1 s1 ev1 rel⟩
      | tup ds =>
        refine .inr ⟨F, ρ, sr, ?_⟩
        rw [h1]
        intro v F1 H1 s1 ev1 r1
        obtain ⟨a, rfl, hx, rel⟩ := tupD s1 r1
        exact ⟨a, rfl, hx, q _ F1 H1 s1 ev1 rel⟩
      | _ => exact q.elim
    | fr c =>
      cases c with
      | dic ks vs => exact q.elim
      | lst ds =>
        refine .inl ⟨F, ρ, sr, ?_⟩
        rw [h1]
        intro v F1 H1 s1 ev1 r1
        obtain ⟨F2, d, e2, s2, ev2, r2⟩ := fz_ok s1 ev1 r1 rfl
        cases e2
        obtain ⟨a, rfl, hx, rel⟩ := lstD s2 r2
        exact ⟨a, rfl, hx, q _ F2 H1 s2 ev2 rel⟩
    | sl i =>
      unfold seqSrc at q
      dsimp only at q
      cases hs : ρ1[i]? with
      | none => rw [hs] at q; exact q.elim
      | some sl =>
        rw [hs] at q
        cases sl with
        | un => exact q.elim
        | d x =>
          cases x with
          | lst ds =>
            refine .inl ⟨F, ρ, sr, ?_⟩
            rw [h1]
            intro v F1 H1 s1 ev1 r1
            obtain ⟨ov, g1, u, g2, g3⟩ := s1.slot i _ hs
            have r1 : σ[i]? = some (some v) := r1
            rw [r1] at g1; cases g1; cases g2
            obtain ⟨a, rfl, hx, rel⟩ := lstD s1 g3
            exact ⟨a, rfl, hx, q _ F1 H1 s1 ev1 rel⟩
          | tup ds =>
            refine .inr ⟨F, ρ, sr, ?_⟩
            rw [h1]
            intro v F1 H1 s1 ev1 r1
            obtain ⟨ov, g1, u, g2, g3⟩ := s1.slot i _ hs
            have r1 : σ[i]? = some (some v) := r1
            rw [r1] at g1; cases g1; cases g2
            obtain ⟨a, rfl, hx, rel⟩ := tupD s1 g3
            exact ⟨a, rfl, hx, q _ F1 H1 s1 ev1 rel⟩
          | _ => exact q.elim
        | ow c m =>
          cases c with
          | dic ks vs => exact q.elim
          | lst ds =>
            refine .inl ⟨F, ρ, sr, ?_⟩
            rw [h1]
            intro v F1 H1 s1 ev1 r1
            obtain ⟨ov, g1, a, g2, g3, xs, g4, g5⟩ := s1.slot i _ hs
            have r1 : σ[i]? = some (some v) := r1
            rw [r1] at g1; cases g1; cases g2
            refine ⟨a, rfl, ⟨xs, .of g4⟩, q _ F1 H1 s1 ev1 ⟨its_list' g5 fun F' H' s p => .of (p.2 i rfl a _ r1 g4), fun j h => by cases h; exact ⟨_, _, hs⟩⟩⟩
def iRng (g : M (List Val)) : IM := fun ρ => (g ρ).bind fun xs ρ1 => match xs with
  | [.d (.int j)] => if -(2 ^ 62) ≤ j ∧ j < 2 ^ 62 then .ok ((List.range j.toNat).map fun k : Nat => D.int (0 + (k : Int)), none) ρ1 else .bad
  | [.d (.int i), .d (.int j)] => if -(2 ^ 62) ≤ i ∧ i < 2 ^ 62 ∧ -(2 ^ 62) ≤ j ∧ j < 2 ^ 62 then .ok ((List.range (j - i).toNat).map fun k : Nat => D.int (i + (k : Int)), none) ρ1 else .bad
  | _ => .bad
theorem di_range1 {a : Expr} (hg : Gl X "range") (hm : X.mg "range" = none) (ha : DA X W [a] g) (hs : starEach [a] X.env = [(false, eval a X.env)] := by rfl) (one : ∀ ρ xs ρ', g ρ = .ok xs ρ' → xs.length = 1) : DI X W tg (.Call (.Name "range" p) [a] [] pos) (iRng g) := pi_conseq (pi_range1 hg hm ha hs) fun σ H R hq => by
  obtain ⟨F, ρ, sr, q⟩ := hq
  refine ⟨F, ρ, sr, (Out.bind (rel := relL X.K σ) q).mono fun vs H1 ⟨xs, F1, ρ1, e1, s1, ev1, r1, o1⟩ => ?_⟩
  have hl := one _ _ _ e1
  split at o1
  · rename_i j
    split at o1
    · rename_i hj
      obtain ⟨v, rfl, rv⟩ : ∃ v, vs = [v] ∧ VR X.K σ H F1 H1 ρ1 v (.d (.int j)) := by
        cases r1.all with
        | cons a t => cases t; exact ⟨_, rfl, a⟩
      obtain rfl := vr_int rv
      exact ⟨j, rfl, hj.1, hj.2, o1 _ F1 H1 s1 ev1 ⟨its_range, fun i h => by cases h⟩⟩
    · exact o1.elim
  · simp at hl
  · exact o1.elim
theorem aNil_len {ρ : DEnv} {xs : List Val} {ρ' : DEnv} (h : aNil ρ = .ok xs ρ') : xs.length = 0 := by cases h; rfl
theorem aCons_len {n : Nat} (hg : ∀ ρ xs ρ', g ρ = .ok xs ρ' → xs.length = n) : ∀ ρ xs ρ', aCons f g ρ = .ok xs ρ' → xs.length = n + 1 := fun ρ xs ρ' h => by
  unfold aCons at h
  cases h1 : f ρ with
  | bad => rw [h1] at h; cases h
  | ex x ρ1 => rw [h1] at h; cases h
  | ok x ρ1 =>
    rw [h1] at h
    simp only [R.bind] at h
    cases h2 : g ρ1 with
    | bad => rw [h2] at h; cases h
    | ex x ρ1 => rw [h2] at h; cases h
    | ok ys ρ2 => rw [h2] at h; cases h; rw [List.length_cons, hg _ _ _ h2]
/-! ### locks -/
def lockS (lk : Option Nat) (ρ : DEnv) : DEnv := match lk with
  | none => ρ
  | some i => match ρ[i]? with
    | some (.ow c _) => ρ.set i (.ow c .lck)
    | _ => ρ
def unlk (lk : Option Nat) (ρ0 ρ : DEnv) : DEnv := match lk with
  | none => ρ
  | some i => match ρ0[i]? with
    | some (.ow c m) => ρ.set i (.ow c m)
    | _ => ρ
def unlkS (lk : Option Nat) (ρ0 : DEnv) : RS → RS
  | .nx ρ => .nx (unlk lk ρ0 ρ)
  | .bk ρ => .bk (unlk lk ρ0 ρ)
  | .ct ρ => .ct (unlk lk ρ0 ρ)
  | .rt x ρ => .rt x (unlk lk ρ0 ρ)
  | .ex x ρ => .ex x (unlk lk ρ0 ρ)
  | .bad => .bad
section
variable {K : PySem.W.Frag} {mg : Str → Option Value} {σ σ' : L2.St} {ρ ρ' : DEnv} {F H F' H' : Hp} {lk : Option Nat}
theorem ow_mode {ρ ρ2 : DEnv} {σ : L2.St} (h : ∀ (i : Nat) (c : Cont) (m : Md), ρ[i]? = some (.ow c m) → ∃ m', ρ2[i]? = some (.ow c m')) {a : Addr} (z : Ow σ ρ a) : Ow σ ρ2 a := by
  obtain ⟨i, c, m, e, q⟩ := z
  obtain ⟨m', e'⟩ := h i c m e
  exact ⟨i, c, m', e', q⟩
/-- one slot's mode is another one -/
theorem sr_mode {i : Nat} {c : Cont} {m m' : Md} (sr : SR K F H σ ρ) (e : ρ[i]? = some (.ow c m)) : SR K F H σ (ρ.set i (.ow c m')) := by
  have hl : i < ρ.length := (List.getElem?_eq_some_iff.mp e).1
  have at' : ∀ {j : Nat} {s : Slot}, (ρ.set i (.ow c m'))[j]? = some s → (j = i ∧ s = .ow c m') ∨ (j ≠ i ∧ ρ[j]? = some s) := fun {j s} q => by
    by_cases hj : i = j
    · subst hj
      rw [List.getElem?_set_self hl] at q
      cases q
      exact .inl ⟨rfl, rfl⟩
    · rw [List.getElem?_set_ne hj] at q
      exact .inr ⟨fun z => hj z.symm, q⟩
  refine ⟨by rw [List.length_set]; exact sr.len, sr.sub, fun j s q => ?_, fun j k c1 m1 c2 m2 a q1 q2 q3 q4 => ?_, sr.tab⟩
  · rcases at' q with ⟨rfl, rfl⟩ | ⟨_, q⟩
    · obtain ⟨ov, z1, z2⟩ := sr.slot j _ e
      exact ⟨ov, z1, z2⟩
    · exact sr.slot j s q
  · rcases at' q1 with ⟨h1, z1⟩ | ⟨_, w1⟩ <;> rcases at' q2 with ⟨h2, z2⟩ | ⟨_, w2⟩
    · rw [h1, h2]
    · subst h1; exact sr.dist _ _ _ _ _ _ a e w2 q3 q4
    · subst h2; exact sr.dist _ _ _ _ _ _ a w1 e q3 q4
    · exact sr.dist _ _ _ _ _ _ a w1 w2 q3 q4
theorem lock_sr (sr : SR K F H σ ρ) : SR K F H σ (lockS lk ρ) := by
  unfold lockS
  split
  · exact sr
  · split
    · rename_i e; exact sr_mode sr e
    · exact sr
/-- back from the locked state -/
theorem unlk_ok (sr : SR K F H σ ρ) (s' : SR K F' H' σ' ρ') (ev : Ev σ (lockS lk ρ) F H σ' ρ' F' H') : SR K F' H' σ' (unlk lk ρ ρ') ∧ Ev σ ρ F H σ' (unlk lk ρ ρ') F' H' := by
  cases lk with
  | none => exact ⟨s', ev⟩
  | some i =>
    unfold lockS unlk at *
    dsimp only at *
    split
    · rename_i c m e
      rw [e] at ev
      dsimp only at ev
      have hl : i < ρ.length := (List.getElem?_eq_some_iff.mp e).1
      have eL : (ρ.set i (.ow c .lck))[i]? = some (.ow c .lck) := List.getElem?_set_self hl
      obtain ⟨b1, c', b2, b3⟩ := ev.bor i c .lck eL (by decide)
      obtain rfl := b3 rfl
      have hl' : i < ρ'.length := (List.getElem?_eq_some_iff.mp b2).1
      have owL : ∀ {a : Addr}, Ow σ (ρ.set i (.ow c' .lck)) a → Ow σ ρ a := fun {a} z => ow_mode (fun j c1 m1 q => by
        by_cases hj : i = j
        · subst hj; rw [eL] at q; cases q; exact ⟨m, e⟩
        · rw [List.getElem?_set_ne hj] at q; exact ⟨m1, q⟩) z
      have mtL : ∀ {a : Addr}, Mt σ (ρ.set i (.ow c' .lck)) a → Mt σ ρ a := fun {a} z => by
        obtain ⟨j, c1, m1, q, n, q2⟩ := z
        by_cases hj : i = j
        · subst hj; rw [eL] at q; cases q; exact absurd rfl n
        · rw [List.getElem?_set_ne hj] at q; exact ⟨j, c1, m1, q, n, q2⟩
      have owU : ∀ {a : Addr}, Ow σ' (ρ'.set i (.ow c' m)) a → Ow σ' ρ' a := fun {a} z => ow_mode (fun j c1 m1 q => by
        by_cases hj : i = j
        · subst hj; rw [List.getElem?_set_self hl'] at q; cases q; exact ⟨_, b2⟩
        · rw [List.getElem?_set_ne hj] at q; exact ⟨m1, q⟩) z
      refine ⟨sr_mode s' b2, ⟨ev.ext, fun a o q n nt => ev.keep a o q (fun z => n (mtL z)) nt, fun a q n => (ev.newF a q n).imp id owL, ev.dom, fun j c1 m1 q n => ?_, fun a z => (ev.own' a (owU z)).imp id owL, fun a z => ?_⟩⟩
      · by_cases hj : i = j
        · subst hj
          rw [e] at q; cases q
          exact ⟨b1, c', List.getElem?_set_self hl', fun _ => rfl⟩
        · obtain ⟨z1, c2, z2, z3⟩ := ev.bor j c1 m1 (by rw [List.getElem?_set_ne hj]; exact q) n
          exact ⟨z1, c2, by rw [List.getElem?_set_ne hj]; exact z2, z3⟩
      · obtain ⟨j, c1, m1, q, n, q2⟩ := z
        by_cases hj : i = j
        · subst hj
          rw [List.getElem?_set_self hl'] at q
          cases q
          right
          exact ⟨i, c', m, e, n, by rw [← b1]; exact q2⟩
        · rw [List.getElem?_set_ne hj] at q
          exact (ev.mt' a ⟨j, c1, m1, q, n, q2⟩).imp id mtL
    · rename_i hn
      have : (match ρ[i]? with | some (.ow c m) => ρ.set i (.ow c .lck) | x => ρ) = ρ := by
        split
        · rename_i c m e; exact absurd e (hn c m)
        · rfl
      rw [this] at ev
      exact ⟨s', ev⟩
theorem OutS.lock {W : WX} {r : RS} {D : Ends} (sr : SR K F H σ ρ) (h : OutS K mg W σ ρ F H (unlkS lk ρ r) D) : OutS K mg W σ (lockS lk ρ) F H r D := by
  cases r with
  | nx ρ' => exact fun σ' F' H' s e => let ⟨s2, e2⟩ := unlk_ok sr s e; h σ' F' H' s2 e2
  | bk ρ' => exact fun σ' F' H' s e => let ⟨s2, e2⟩ := unlk_ok sr s e; h σ' F' H' s2 e2
  | ct ρ' => exact fun σ' F' H' s e => let ⟨s2, e2⟩ := unlk_ok sr s e; h σ' F' H' s2 e2
  | ex x ρ' => exact fun c d σ' F' H' s e r => let ⟨s2, e2⟩ := unlk_ok sr s e; h c d σ' F' H' s2 e2 r
  | bad => exact h
  | rt x ρ' =>
    refine fun v σ' F' H' s e r => let ⟨s2, e2⟩ := unlk_ok sr s e; h v σ' F' H' s2 e2 ?_
    cases x with
    | d x => exact r
    | sl i => exact r
    | fr c =>
      obtain ⟨p, e1, nb, nF, cr, no⟩ := r
      refine ⟨p, e1, nb, nF, cr, fun z => no ?_⟩
      unfold unlk at z
      split at z
      · exact z
      · rename_i i
        split at z
        · rename_i c' m q
          have hl : i < ρ.length := (List.getElem?_eq_some_iff.mp q).1
          obtain ⟨b1, c2, b2, b3⟩ := e.bor i c' .lck (by unfold lockS; dsimp only; rw [q]; exact List.getElem?_set_self hl) (by decide)
          obtain rfl := b3 rfl
          exact ow_mode (fun j c1 m1 q' => by
            by_cases hj : i = j
            · subst hj; rw [List.getElem?_set_self (List.getElem?_eq_some_iff.mp b2).1] at q'; cases q'; exact ⟨_, b2⟩
            · rw [List.getElem?_set_ne hj] at q'; exact ⟨m1, q'⟩) z
        · exact z
/-- what is walked stays while it is locked -/
theorem pre_lock {σ1 : L2.St} {F1 H1 F2 H2 : Hp} {ρ1 : DEnv} (sr : SR K F H σ ρ) (hk : ∀ i, lk = some i → ∃ c m, ρ[i]? = some (.ow c m)) (ev : Ev σ (lockS lk ρ) F H σ1 ρ1 F1 H1) : PreI σ lk F H F1 H1 := by
  refine ⟨ev.ext, fun i e a o q1 q2 => ?_⟩
  subst e
  obtain ⟨c, m, q⟩ := hk i rfl
  obtain ⟨ov, w1, a', w2, w3, w4⟩ := sr.slot i _ q
  rw [q1] at w1
  cases w1
  cases w2
  refine ev.keep a o q2 (fun ⟨j, c1, m1, z1, z2, z3⟩ => ?_) (CRep.nt q2 w4)
  have hl : i < ρ.length := (List.getElem?_eq_some_iff.mp q).1
  unfold lockS at z1
  dsimp only at z1
  rw [q] at z1
  dsimp only at z1
  by_cases hj : i = j
  · subst hj; rw [List.getElem?_set_self hl] at z1; cases z1; exact z2 rfl
  · rw [List.getElem?_set_ne hj] at z1
    exact hj (sr.dist i j _ _ _ _ a q z1 q1 z3)
end
/-! ### for -/
def loopD (tg : Val → SM) (body : SM) : List D → SM
  | [], ρ => .nx ρ
  | d :: ds, ρ => match tg (.d d) ρ with
    | .nx ρ1 => match body ρ1 with
      | .nx ρ2 => loopD tg body ds ρ2
      | .ct ρ2 => loopD tg body ds ρ2
      | .bk ρ2 => .nx ρ2
      | r => r
    | _ => .bad
def sFor (f : IM) (tg : Val → SM) (body : SM) : SM := fun ρ => (f ρ).bindS fun src ρ1 => unlkS src.2 ρ1 (loopD tg body src.1 (lockS src.2 ρ1))
theorem ds_for {S : List Nat} {h : Val → SM} {b : SM} {iter : Expr} {body : List Stmt} {fi : IM} (hp : PassesOwn (model X.prog X.w) X.A X.env X.xe) (hc : X.calm = true) (hi : DI X W tg iter fi) (hg : DG X tg S h) (hb : DSs X W body b)
    (hs : ∀ x, foldedSetIterable iter X.env x = pure x := by intro _; rfl) : DS X W (.For tg iter body [] pos) (sFor fi h b) := ps_conseq (ps_for hp hc hi hg hb hs) fun D σ H hq => by
  obtain ⟨F, ρ, sr, q⟩ := hq
  refine ⟨F, ρ, sr, (Out.bindS (rel := relI X.K σ) q).mono fun J H1 ⟨src, F1, ρ1, e1, s1, ev1, ⟨its, hk⟩, o1⟩ => ?_⟩
  obtain ⟨ds, lk⟩ := src
  have o2 := OutS.lock (lk := lk) s1 (o1.from ev1)
  have sL := lock_sr (lk := lk) s1
  refine ⟨fun i m σ' H' => m = ds.length - i ∧ i ≤ ds.length ∧ ∃ F' ρ', SR X.K F' H' σ' ρ' ∧ Ev σ (lockS lk ρ1) F1 H1 σ' ρ' F' H' ∧ OutS X.K X.mg W σ (lockS lk ρ1) F1 H1 (loopD h b (ds.drop i) ρ') D, ⟨ds.length, rfl, Nat.zero_le _, F1, lockS lk ρ1, sL, .refl, o2⟩, ?_⟩
  rintro i m σ' H' ⟨rfl, hi', F', ρ', s', ev', o'⟩
  have pre : PreI σ lk F1 H1 F' H' := pre_lock (F2 := F1) (H2 := H1) s1 hk ev'
  by_cases hlt : i < ds.length
  · refine .inr ⟨its.go i F' H' hlt s'.sub pre, fun σ2 H2 => ∃ F2 ρ2, SR X.K F2 H2 σ2 ρ2 ∧ Ev σ (lockS lk ρ1) F1 H1 σ2 ρ2 F2 H2 ∧ OutS X.K X.mg W σ (lockS lk ρ1) F1 H1 (loopD h b (ds.drop (i + 1)) ρ2) D, fun σ2 H2 hN => ⟨ds.length - (i + 1), by omega, rfl, hlt, hN⟩, fun x H3 hy => ?_⟩
    obtain ⟨d, F3, hd, gr, rx⟩ := its.yld i x F' H' H3 hlt s'.sub pre hy
    have s3 := gr.sr s'
    have ev3 := ev'.trans gr.ev
    have e3 : ds.drop i = d :: ds.drop (i + 1) := by
      have e4 : ds[i] = d := by rw [List.getElem?_eq_getElem hlt] at hd; exact Option.some.inj hd
      rw [List.drop_eq_getElem_cons hlt, e4]
    rw [e3] at o'
    refine ⟨σ', ρ', F3, H3, F3, ρ', .d d, s3, .refl, rx, ?_⟩
    dsimp only [loopD] at o'
    cases ht : h (.d d) ρ' with
    | nx ρ4 =>
      rw [ht] at o'
      dsimp only at o'
      refine fun σ4 F4 H4 s4 ev4 _ => ⟨F4, ρ4, s4, ?_⟩
      have ev5 := ev3.trans ev4
      cases hbody : b ρ4 with
      | nx ρ5 => rw [hbody] at o'; exact fun σ5 F5 H5 s5 ev6 => ⟨F5, ρ5, s5, ev5.trans ev6, o'⟩
      | ct ρ5 => rw [hbody] at o'; exact fun σ5 F5 H5 s5 ev6 => ⟨F5, ρ5, s5, ev5.trans ev6, o'⟩
      | bk ρ5 => rw [hbody] at o'; exact fun σ5 F5 H5 s5 ev6 => o' σ5 F5 H5 s5 (ev5.trans ev6)
      | rt x ρ5 => rw [hbody] at o'; exact OutS.from (r := .rt x ρ5) o' ev5
      | ex x ρ5 => rw [hbody] at o'; exact OutS.from (r := .ex x ρ5) o' ev5
      | bad => rw [hbody] at o'; exact o'.elim
    | rt x ρ4 => rw [ht] at o'; exact o'.elim
    | bk ρ4 => rw [ht] at o'; exact o'.elim
    | ct ρ4 => rw [ht] at o'; exact o'.elim
    | ex x ρ4 => rw [ht] at o'; exact o'.elim
    | bad => rw [ht] at o'; exact o'.elim
  · have e : i = ds.length := by omega
    subst e
    refine .inl ⟨its.stop _ F' H' (Nat.le_refl _) s'.sub pre, ?_⟩
    rw [List.drop_length] at o'
    exact o' σ' F' H' s' ev'
/-! ### while: n turns at most -/
end
end DL
/-! DL10: list comprehensions. -/
namespace DL
open PySem PySem.Spec PyProof.Rows L2
variable [TabT]
def wipeD (ρ : DEnv) : List Nat → DEnv
  | [] => ρ
  | v :: vs => (wipeD ρ vs).set v .un
/-- the block's own slots as they were -/
def backD (ρ0 ρ : DEnv) : List Nat → DEnv
  | [] => ρ
  | v :: vs => match ρ0[v]? with
    | some s => (backD ρ0 ρ vs).set v s
    | none => backD ρ0 ρ vs
theorem wipeD_len (ρ : DEnv) : ∀ vs : List Nat, (wipeD ρ vs).length = ρ.length
  | [] => rfl
  | v :: vs => by unfold wipeD; rw [List.length_set, wipeD_len ρ vs]
theorem backD_len (ρ0 ρ : DEnv) : ∀ vs : List Nat, (backD ρ0 ρ vs).length = ρ.length
  | [] => rfl
  | v :: vs => by
    unfold backD
    split
    · rw [List.length_set, backD_len ρ0 ρ vs]
    · exact backD_len ρ0 ρ vs
theorem wipeD_get {ρ : DEnv} {i : Nat} {s : Slot} : ∀ {vs : List Nat}, (wipeD ρ vs)[i]? = some s → (s = .un ∧ i ∈ vs) ∨ (ρ[i]? = some s ∧ i ∉ vs)
  | [], h => .inr ⟨h, by simp⟩
  | v :: vs, h => by
    unfold wipeD at h
    by_cases hv : v = i
    · subst hv
      by_cases hl : v < (wipeD ρ vs).length
      · rw [List.getElem?_set_self hl] at h; cases h; exact .inl ⟨rfl, List.mem_cons_self ..⟩
      · rw [List.getElem?_eq_none (by simpa using hl)] at h; cases h
    · rw [List.getElem?_set_ne hv] at h
      rcases wipeD_get h with ⟨h1, h2⟩ | ⟨h1, h2⟩
      · exact .inl ⟨h1, List.mem_cons_of_mem _ h2⟩
      · exact .inr ⟨h1, by simp only [List.mem_cons, not_or]; exact ⟨fun z => hv z.symm, h2⟩⟩
theorem wipeD_keep {ρ : DEnv} {i : Nat} : ∀ {vs : List Nat}, i ∉ vs → (wipeD ρ vs)[i]? = ρ[i]?
  | [], h => rfl
  | v :: vs, h => by
    simp only [List.mem_cons, not_or] at h
    unfold wipeD
    rw [List.getElem?_set_ne (fun z => h.1 z.symm)]
    exact wipeD_keep h.2
theorem wipeS_get {σ : L2.St} {i : Nat} : ∀ {vs : List Nat}, i ∈ vs → i < σ.length → (wipe σ vs)[i]? = some none
  | v :: vs, h, hl => by
    unfold wipe
    by_cases hv : v = i
    · subst hv
      exact List.getElem?_set_self (by rw [wipe_length]; exact hl)
    · rw [List.getElem?_set_ne hv]
      rcases List.mem_cons.mp h with e | h
      · exact absurd e.symm hv
      · exact wipeS_get h hl
theorem wipeS_keep {σ : L2.St} {i : Nat} : ∀ {vs : List Nat}, i ∉ vs → (wipe σ vs)[i]? = σ[i]?
  | [], h => rfl
  | v :: vs, h => by
    simp only [List.mem_cons, not_or] at h
    unfold wipe
    rw [List.getElem?_set_ne (fun z => h.1 z.symm)]
    exact wipeS_keep h.2
theorem wipe_off {S vs : List Nat} {σ σ' : L2.St} (h : Off S (wipe σ vs) σ') (hS : ∀ i ∈ S, i ∈ vs) : wipe σ' vs = wipe σ vs := by
  obtain ⟨hl, ho⟩ := h
  rw [wipe_length] at hl
  refine List.ext_getElem? fun i => ?_
  by_cases hi : i ∈ vs
  · by_cases hlt : i < σ.length
    · rw [wipeS_get hi hlt, wipeS_get hi (by rw [hl]; exact hlt)]
    · rw [List.getElem?_eq_none (by rw [wipe_length]; omega), List.getElem?_eq_none (by rw [wipe_length]; omega)]
  · rw [wipeS_keep hi, wipeS_keep hi]
    have := ho i fun z => hi (hS i z)
    rw [wipeS_keep hi] at this
    exact this
section
variable {K : PySem.W.Frag} {mg : Str → Option Value} {σ σ' : L2.St} {ρ ρ' : DEnv} {F H F' H' : Hp} {vs : List Nat}
theorem ow_wipe {a : Addr} (h : Ow (wipe σ vs) (wipeD ρ vs) a) : Ow σ ρ a := by
  obtain ⟨i, c, m, e1, e2⟩ := h
  rcases wipeD_get e1 with ⟨z, _⟩ | ⟨z, n⟩
  · cases z
  · rw [wipeS_keep n] at e2
    exact ⟨i, c, m, z, e2⟩
theorem mt_wipe {a : Addr} (h : Mt (wipe σ vs) (wipeD ρ vs) a) : Mt σ ρ a := by
  obtain ⟨i, c, m, e1, n1, e2⟩ := h
  rcases wipeD_get e1 with ⟨z, _⟩ | ⟨z, n⟩
  · cases z
  · rw [wipeS_keep n] at e2
    exact ⟨i, c, m, z, n1, e2⟩
theorem sr_wipe (sr : SR K F H σ ρ) : SR K F H (wipe σ vs) (wipeD ρ vs) := by
  refine ⟨by rw [wipe_length, wipeD_len]; exact sr.len, sr.sub, fun i s e => ?_, fun i j c m c' m' a e1 e2 e3 e4 => ?_, sr.tab⟩
  · rcases wipeD_get e with ⟨rfl, hi⟩ | ⟨z, n⟩
    · have hl : i < σ.length := by
        have := (List.getElem?_eq_some_iff.mp e).1
        rw [wipeD_len] at this
        rw [sr.len]; exact this
      exact ⟨none, wipeS_get hi hl, trivial⟩
    · rw [wipeS_keep n]
      exact sr.slot i s z
  · rcases wipeD_get e1 with ⟨z, _⟩ | ⟨z1, n1⟩
    · cases z
    · rcases wipeD_get e2 with ⟨z, _⟩ | ⟨z2, n2⟩
      · cases z
      · rw [wipeS_keep n1] at e3
        rw [wipeS_keep n2] at e4
        exact sr.dist i j c m c' m' a z1 z2 e3 e4
/-- within the block: the own slots wiped again -/
theorem in_wipe {ρ2 : DEnv} {σ2 : L2.St} {F2 H2 : Hp} (e : wipe σ2 vs = wipe σ vs) (s2 : SR K F2 H2 σ2 ρ2) (ev : Ev (wipe σ vs) ρ F H σ2 ρ2 F2 H2) (hb : ∀ i c m, ρ[i]? = some (.ow c m) → i ∉ vs) : SR K F2 H2 (wipe σ vs) (wipeD ρ2 vs) ∧ Ev (wipe σ vs) ρ F H (wipe σ vs) (wipeD ρ2 vs) F2 H2 := by
  have s3 : SR K F2 H2 (wipe σ vs) (wipeD ρ2 vs) := e ▸ sr_wipe (vs := vs) s2
  refine ⟨s3, ⟨ev.ext, ev.keep, ev.newF, ev.dom, fun i c m q n => ?_, fun a z => ev.own' a (ow_wipe (vs := vs) (σ := σ2) (by rw [e]; exact z)), fun a z => ev.mt' a (mt_wipe (vs := vs) (σ := σ2) (by rw [e]; exact z))⟩⟩
  obtain ⟨b1, c', b2, b3⟩ := ev.bor i c m q n
  have hi := hb i c m q
  exact ⟨rfl, c', by rw [wipeD_keep hi]; exact b2, b3⟩
theorem backD_get {ρ0 ρ : DEnv} {i : Nat} {s : Slot} : ∀ {vs : List Nat}, (backD ρ0 ρ vs)[i]? = some s → (∀ v ∈ vs, v < ρ0.length) → (ρ0[i]? = some s ∧ i ∈ vs) ∨ (ρ[i]? = some s ∧ i ∉ vs)
  | [], h, _ => .inr ⟨h, by simp⟩
  | v :: vs, h, hv => by
    have hv' : v < ρ0.length := hv v (List.mem_cons_self ..)
    have hvs : ∀ u ∈ vs, u < ρ0.length := fun u hu => hv u (List.mem_cons_of_mem _ hu)
    unfold backD at h
    rw [List.getElem?_eq_getElem hv'] at h
    dsimp only at h
    by_cases e : v = i
    · subst e
      by_cases hl : v < (backD ρ0 ρ vs).length
      · rw [List.getElem?_set_self hl] at h; cases h
        exact .inl ⟨List.getElem?_eq_getElem hv', List.mem_cons_self ..⟩
      · rw [List.getElem?_eq_none (by simpa using hl)] at h; cases h
    · rw [List.getElem?_set_ne e] at h
      rcases backD_get h hvs with ⟨h1, h2⟩ | ⟨h1, h2⟩
      · exact .inl ⟨h1, List.mem_cons_of_mem _ h2⟩
      · exact .inr ⟨h1, by simp only [List.mem_cons, not_or]; exact ⟨fun z => e z.symm, h2⟩⟩
theorem backD_keep {ρ0 ρ : DEnv} {i : Nat} : ∀ {vs : List Nat}, i ∉ vs → (backD ρ0 ρ vs)[i]? = ρ[i]?
  | [], h => rfl
  | v :: vs, h => by
    simp only [List.mem_cons, not_or] at h
    unfold backD
    split
    · rw [List.getElem?_set_ne (fun z => h.1 z.symm)]
      exact backD_keep h.2
    · exact backD_keep h.2
theorem backD_at {ρ0 ρ : DEnv} {i : Nat} {s : Slot} (e : ρ0[i]? = some s) (hl : i < ρ.length) : ∀ {vs : List Nat}, i ∈ vs → (backD ρ0 ρ vs)[i]? = some s
  | v :: vs, h => by
    unfold backD
    by_cases hv : v = i
    · subst hv
      rw [e]
      exact List.getElem?_set_self (by rw [backD_len]; exact hl)
    · have h' : i ∈ vs := by
        rcases List.mem_cons.mp h with z | z
        · exact absurd z.symm hv
        · exact z
      split
      · rw [List.getElem?_set_ne hv]; exact backD_at e hl h'
      · exact backD_at e hl h'
/-- out of the block: the own slots as they were ahead of it -/
theorem out_wipe {ρ2 : DEnv} {F2 H2 : Hp} (sr : SR K F H σ ρ) (hvs : ∀ v ∈ vs, v < ρ.length) (s2 : SR K F2 H2 (wipe σ vs) ρ2) (ev : Ev (wipe σ vs) (wipeD ρ vs) F H (wipe σ vs) ρ2 F2 H2) (hu : ∀ i ∈ vs, ∀ c m, ρ2[i]? ≠ some (.ow c m)) :
    SR K F2 H2 σ (backD ρ ρ2 vs) ∧ Ev σ ρ F H σ (backD ρ ρ2 vs) F2 H2 := by
  have l2 : ρ2.length = ρ.length := by rw [← s2.len, wipe_length, sr.len]
  -- what an own slot owned ahead of the block is untouched within
  have keepO : ∀ {i : Nat} {c : Cont} {m : Md} {a : Addr}, i ∈ vs → ρ[i]? = some (.ow c m) → σ[i]? = some (some (.ref a)) → ¬ Ow (wipe σ vs) (wipeD ρ vs) a := fun {i c m a} hi e1 e2 ⟨j, c', m', z1, z2⟩ => by
    rcases wipeD_get z1 with ⟨z, _⟩ | ⟨z, n⟩
    · cases z
    · rw [wipeS_keep n] at z2
      have := sr.dist i j c m c' m' a e1 z e2 z2
      subst this
      exact n hi
  have owned : ∀ {i : Nat} {c : Cont} {m : Md}, i ∈ vs → ρ[i]? = some (.ow c m) → ∃ a, σ[i]? = some (some (.ref a)) ∧ F2 a = none ∧ CRep K F2 H2 a c ∧ ∃ o, H a = some o := fun {i c m} hi e => by
    obtain ⟨ov, g1, a, g2, g3, g4⟩ := sr.slot i _ e
    subst g2
    have no := keepO hi e g1
    obtain ⟨o, ho⟩ := g4.some
    refine ⟨a, g1, ?_, g4.mono (.of ev.ext) ((ev.keep a o ho (fun m => no m.ow) (CRep.nt ho g4)).trans ho.symm), o, ho⟩
    cases hF : F2 a with
    | none => rfl
    | some u =>
      rcases ev.newF a g3 (by rw [hF]; simp) with z | z
      · rw [ho] at z; cases z
      · exact absurd z no
  have low : ∀ {a : Addr}, Ow σ (backD ρ ρ2 vs) a → H a = none ∨ Ow σ ρ a := fun {a} ⟨i, c, m, e1, e2⟩ => by
    rcases backD_get e1 hvs with ⟨z, _⟩ | ⟨z, n⟩
    · exact .inr ⟨i, c, m, z, e2⟩
    · exact (ev.own' a ⟨i, c, m, z, by rw [wipeS_keep n]; exact e2⟩).imp id ow_wipe
  refine ⟨⟨by rw [backD_len, l2]; exact sr.len, s2.sub, fun i s e => ?_, fun i j c m c' m' a e1 e2 e3 e4 => ?_, s2.tab⟩, ⟨ev.ext, fun a o q n nt => ev.keep a o q (fun z => n (mt_wipe z)) nt, fun a q n => (ev.newF a q n).imp id ow_wipe, ev.dom, fun i c m q n => ?_, fun a z => low z, fun a ⟨i, c, m, e1, n1, e2⟩ => ?_⟩⟩
  · rcases backD_get e hvs with ⟨z, hi⟩ | ⟨z, n⟩
    · obtain ⟨ov, g1, g2⟩ := sr.slot i s z
      refine ⟨ov, g1, ?_⟩
      cases s with
      | un => trivial
      | d x => obtain ⟨v, q, r⟩ := g2; exact ⟨v, q, r.mono (.of ev.ext)⟩
      | ow c m =>
        obtain ⟨a, q1, q2, q3, _⟩ := owned hi z
        rw [q1] at g1; cases g1
        exact ⟨a, rfl, q2, q3⟩
    · obtain ⟨ov, g1, g2⟩ := s2.slot i s z
      rw [wipeS_keep n] at g1
      exact ⟨ov, g1, g2⟩
  · have mixed : ∀ {i j : Nat} {c c' : Cont} {m m' : Md}, i ∈ vs → ρ[i]? = some (.ow c m) → ρ2[j]? = some (.ow c' m') → j ∉ vs → σ[i]? = some (some (.ref a)) → σ[j]? = some (some (.ref a)) → False := fun {i j c c' m m'} hi q1 q2 nj q3 q4 => by
      obtain ⟨a', z1, _, _, o, ho⟩ := owned hi q1
      rw [q3] at z1; cases z1
      rcases ev.own' a ⟨j, c', m', q2, by rw [wipeS_keep nj]; exact q4⟩ with z | z
      · rw [ho] at z; cases z
      · exact keepO hi q1 q3 z
    rcases backD_get e1 hvs with ⟨z1, i1⟩ | ⟨z1, n1⟩ <;> rcases backD_get e2 hvs with ⟨z2, i2⟩ | ⟨z2, n2⟩
    · exact sr.dist i j c m c' m' a z1 z2 e3 e4
    · exact (mixed i1 z1 z2 n2 e3 e4).elim
    · exact (mixed i2 z2 z1 n1 e4 e3).elim
    · exact s2.dist i j c m c' m' a z1 z2 (by rw [wipeS_keep n1]; exact e3) (by rw [wipeS_keep n2]; exact e4)
  · by_cases hi : i ∈ vs
    · have hl : i < ρ2.length := by rw [l2]; exact hvs i hi
      exact ⟨rfl, c, backD_at q hl hi, fun _ => rfl⟩
    · obtain ⟨b1, c', b2, b3⟩ := ev.bor i c m (by rw [wipeD_keep hi]; exact q) n
      exact ⟨rfl, c', by rw [backD_keep hi]; exact b2, b3⟩
  · rcases backD_get e1 hvs with ⟨z, _⟩ | ⟨z, n⟩
    · exact .inr ⟨i, c, m, z, n1, e2⟩
    · exact (ev.mt' a ⟨i, c, m, z, n1, by rw [wipeS_keep n]; exact e2⟩).imp id mt_wipe
theorem nk_none {H : Hp} {p : Addr} (h : H p = none) : ∀ u, H p = some u → ¬ KT p u := fun u e => by rw [h] at e; cases e
theorem nk_lst {H : Hp} {p : Addr} {xs : List V} (h : H p = some (.lst xs)) : ∀ u, H p = some u → ¬ KT p u := fun u e z => by
  rw [h] at e
  cases e
  rcases z with ⟨ps, z⟩ | ⟨g, z⟩
  · cases z
  · unfold LamX.CodeO at z; cases z
/-- an object that no slot has, changed -/
theorem sr_other {p : Addr} {o : HO} (sr : SR K F H σ ρ) (nF : F p = none) (no : ¬ Ow σ ρ p) (nk : ∀ u, H p = some u → ¬ KT p u) : SR K F (upd H p o) σ ρ := by
  refine ⟨sr.len, fun b u e => by rw [upd_ne (ne_of_none e nF)]; exact sr.sub _ _ e, fun i s e => ?_, sr.dist, sr.tab.step (Same.refl _) (fun b u k e => ?_) fun b _ e => e⟩
  case refine_2 =>
    by_cases z : b = p
    · subst z; exact absurd k (nk _ e)
    · rw [upd_ne z]; exact e
  obtain ⟨ov, g1, g2⟩ := sr.slot i s e
  refine ⟨ov, g1, ?_⟩
  cases s with
  | un => trivial
  | d x => exact g2
  | ow c m =>
    obtain ⟨a, q, fa, cr⟩ := g2
    subst q
    exact ⟨a, rfl, fa, cr.mono (.of (Same.refl _)) (upd_ne fun z => no ⟨i, c, m, e, by rw [g1, z]⟩)⟩
theorem ev_other {p : Addr} {o : HO} (ev : Ev σ ρ F H σ' ρ' F' H') (n : H p = none) : Ev σ ρ F H σ' ρ' F' (upd H' p o) :=
  ⟨ev.ext, fun a u e m nt => by rw [upd_ne (ne_of_none e n)]; exact ev.keep a u e m nt, ev.newF, fun a h => by
    by_cases z : a = p
    · subst z; rw [upd_same]; simp
    · rw [upd_ne z]; exact ev.dom a h, ev.bor, ev.own', ev.mt'⟩
end
/-! ### [el for tg in it if tt] -/
def compD (own : List Nat) (tg : Val → SM) (tt : M Bool) (el : EM) : List D → List D → DEnv → R (List D)
  | [], acc, ρ => .ok acc ρ
  | d :: ds, acc, ρ => match tg (.d d) ρ with
    | .nx ρ1 => match tt ρ1 with
      | .ok b ρ2 => if b = true then (match el ρ2 with
        | .ok (.d y) ρ3 => compD own tg tt el ds (acc ++ [y]) (wipeD ρ3 own)
        | _ => .bad) else compD own tg tt el ds acc (wipeD ρ2 own)
      | _ => .bad
    | _ => .bad
def inB (own : List Nat) (ρ : DEnv) : Bool := own.all fun v => decide (v < ρ.length)
def eLc (own : List Nat) (f : IM) (tg : Val → SM) (tt : M Bool) (el : EM) : EM := fun ρ => (f ρ).bind fun src ρ1 =>
  if inB own ρ1 = true ∧ src.1.length < 16777216 then
    (match compD own tg tt el src.1 [] (wipeD (lockS src.2 ρ1) own) with
    | .ok ys ρ2 => .ok (.fr (.lst ys)) (unlk src.2 ρ1 (backD (lockS src.2 ρ1) ρ2 own))
    | _ => .bad)
  else .bad
section
variable {X : Cx} {W : WX} {tg iter elt : Expr} {ifs : List Expr} {fi : IM} {h : Val → SM} {tt : M Bool} {el : EM} {S : List Nat} {own : List (Str × Nat)} {scope : Scope} {pos : Pos}
def W0 : WX := fun _ _ _ _ => False
def DTs (X : Cx) (W : WX) (ifs : List Expr) (t : M Bool) : Prop := PTs X ifs (tT X.K X.mg W t)
def tYesD : M Bool := fun ρ => .ok true ρ
theorem pts_conseq {ifs : List Expr} {t t' : TT} (h : PTs X ifs t) (c : ∀ σ H Q, t' σ H Q → t σ H Q) : PTs X ifs t' := ⟨fun pins s σ H Q I q => h.run pins s σ H Q I (c _ _ _ q)⟩
theorem dts_nil : DTs X W [] tYesD := pts_conseq pts_nil fun σ H Q ⟨F, ρ, sr, q⟩ => q true F H sr .refl rfl
/-- the reading of a comprehension, whatever takes the list -/
theorem lc_ok {σ : L2.St} {H : Hp} {Q : VK} (hS : ∀ i ∈ S, i ∈ own.map (·.2)) (hq : tD X.K X.mg W (eLc (own.map (·.2)) fi h tt el) σ H Q) :
    tLc (tI X.K X.mg W fi) (tG X.K S h) (tT X.K X.mg W0 tt) (tD X.K X.mg W0 el) (own.map (·.2)) σ H Q := by
  generalize own.map (·.2) = vs at *
  obtain ⟨F, ρ, sr, q⟩ := hq
  refine ⟨F, ρ, sr, (Out.bind (rel := relI X.K σ) q).mono fun J H1 ⟨src, F1, ρ1, e1, s1, ev1, ⟨its, hk⟩, o1⟩ => ?_⟩
  obtain ⟨ds, lk⟩ := src
  have o2 := o1.from ev1 (relV_from ev1)
  dsimp only at o2 its hk
  split at o2
  rotate_left
  · exact o2.elim
  rename_i hcond
  obtain ⟨hin, hlen⟩ := hcond
  have sL := lock_sr (lk := lk) s1
  have hvs : ∀ v ∈ vs, v < (lockS lk ρ1).length := fun v hv => by
    have := List.all_eq_true.mp hin v hv
    have := of_decide_eq_true this
    rw [← sL.len, s1.len]; exact this
  have sW := sr_wipe (vs := vs) sL
  -- what is to be shown of the list that comes out
  have fin : ∀ {ys : List D} {ρ2 : DEnv} {F2 H2 : Hp} {D : Addr} {yv : List V}, compD vs h tt el ds [] (wipeD (lockS lk ρ1) vs) = .ok ys ρ2 → SR X.K F2 H2 (wipe σ vs) ρ2 → Ev (wipe σ vs) (wipeD (lockS lk ρ1) vs) F1 H1 (wipe σ vs) ρ2 F2 H2 → (∀ i ∈ vs, ∀ c m, ρ2[i]? ≠ some (.ow c m)) →
      H1 D = none → F2 D = none → H2 D = some (.lst yv) → RepL X.K F2 yv ys → ¬ Ow (wipe σ vs) ρ2 D → Q (.ref D) H2 := fun {ys ρ2 F2 H2 D yv} e s ev hu nD nF hD ry no => by
    rw [e] at o2
    obtain ⟨s3, ev3⟩ := out_wipe sL hvs s ev hu
    obtain ⟨s4, ev4⟩ := unlk_ok s1 s3 ev3
    refine o2 (.ref D) F2 H2 s4 ev4 ⟨D, rfl, nD, nF, ⟨yv, hD, ry⟩, fun z => ?_⟩
    rcases ev4.own' D z with z1 | ⟨i, c, m, z1, z2⟩
    · obtain ⟨i, c, m, q1, q2⟩ := z
      -- an owner of D in the end: it is one of the block's end or one ahead of it
      have g : Ow σ (backD (lockS lk ρ1) ρ2 vs) D := by
        refine ow_mode (ρ := unlk lk ρ1 (backD (lockS lk ρ1) ρ2 vs)) (fun j c1 m1 q' => ?_) ⟨i, c, m, q1, q2⟩
        unfold unlk at q'
        split at q'
        · exact ⟨_, q'⟩
        · rename_i k
          split at q'
          · rename_i c' m' hk'
            by_cases hj : k = j
            · subst hj
              have hkl : k < ρ1.length := (List.getElem?_eq_some_iff.mp hk').1
              obtain ⟨b1, c2, b2, b3⟩ := ev3.bor k c' .lck (by unfold lockS; dsimp only; rw [hk']; exact List.getElem?_set_self hkl) (by decide)
              rw [List.getElem?_set_self (List.getElem?_eq_some_iff.mp b2).1] at q'
              cases q'
              exact ⟨_, by rw [b2, b3 rfl]⟩
            · rw [List.getElem?_set_ne hj] at q'; exact ⟨_, q'⟩
          · exact ⟨_, q'⟩
      obtain ⟨i, c, m, q1, q2⟩ := g
      rcases backD_get q1 hvs with ⟨w, _⟩ | ⟨w, n⟩
      · obtain ⟨ov, g1, a, g2, _, g4⟩ := sL.slot i _ w
        rw [q2] at g1; cases g1; cases g2
        obtain ⟨o, ho⟩ := g4.some
        rw [nD] at ho; cases ho
      · exact no ⟨i, c, m, w, by rw [wipeS_keep n]; exact q2⟩
    · obtain ⟨ov, g1, a, g2, _, g4⟩ := s1.slot i _ z1
      rw [z2] at g1; cases g1; cases g2
      obtain ⟨o, ho⟩ := g4.some
      rw [nD] at ho; cases ho
  have noD : ∀ {D : Addr}, H1 D = none → ¬ Ow (wipe σ vs) (wipeD (lockS lk ρ1) vs) D := fun {D} nD ⟨i, c, m, z1, z2⟩ => by
    obtain ⟨ov, g1, a, g2, _, g4⟩ := sW.slot i _ z1
    rw [z2] at g1; cases g1; cases g2
    obtain ⟨o, ho⟩ := g4.some
    rw [nD] at ho; cases ho
  have unW : ∀ i ∈ vs, ∀ c m, (wipeD (lockS lk ρ1) vs)[i]? ≠ some (.ow c m) := fun i hi c m z => by
    rcases wipeD_get z with ⟨w, _⟩ | ⟨_, n⟩
    · cases w
    · exact n hi
  intro D nD
  refine ⟨fun i m H' => m = ds.length - i ∧ i ≤ ds.length ∧ ∃ F' ρ' yv ys, SR X.K F' H' (wipe σ vs) ρ' ∧ Ev (wipe σ vs) (wipeD (lockS lk ρ1) vs) F1 H1 (wipe σ vs) ρ' F' H' ∧ H' D = some (.lst yv) ∧ RepL X.K F' yv ys ∧ F' D = none ∧ ¬ Ow (wipe σ vs) ρ' D ∧ ys.length ≤ i ∧ (∀ i ∈ vs, ∀ c m, ρ'[i]? ≠ some (.ow c m)) ∧
    compD vs h tt el (ds.drop i) ys ρ' = compD vs h tt el ds [] (wipeD (lockS lk ρ1) vs), ⟨ds.length, rfl, Nat.zero_le _, F1, wipeD (lockS lk ρ1) vs, [], [], sr_other sW (Same.free sW.sub nD) (noD nD) (nk_none nD), ev_other .refl nD, upd_same, .nil, Same.free sW.sub nD, noD nD, Nat.zero_le _, unW, rfl⟩, ?_⟩
  rintro i m H' ⟨rfl, hi', F', ρ', yv, ys, s', ev', hD, ry, nF, no, hyl, hu, eq'⟩
  have pre : PreI σ lk F1 H1 F' H' := by
    refine ⟨ev'.ext, fun i e a o q1 q2 => ?_⟩
    subst e
    obtain ⟨cK, mK, qK⟩ := hk i rfl
    obtain ⟨ov, w1, a', w2, w3, w4⟩ := s1.slot i _ qK
    rw [q1] at w1
    cases w1
    cases w2
    refine ev'.keep a o q2 (fun ⟨j, c1, m1, z1, z2, z3⟩ => ?_) (CRep.nt q2 w4)
    rcases wipeD_get z1 with ⟨w, _⟩ | ⟨z1, nj⟩
    · cases w
    · rw [wipeS_keep nj] at z3
      obtain ⟨c, m, qk⟩ := hk i rfl
      have hl : i < ρ1.length := (List.getElem?_eq_some_iff.mp qk).1
      unfold lockS at z1
      dsimp only at z1
      rw [qk] at z1
      dsimp only at z1
      by_cases hj : i = j
      · subst hj; rw [List.getElem?_set_self hl] at z1; cases z1; exact z2 rfl
      · rw [List.getElem?_set_ne hj] at z1
        exact hj (s1.dist i j _ _ _ _ a qk z1 q1 z3)
  by_cases hlt : i < ds.length
  · refine .inr ⟨its.go i F' H' hlt s'.sub pre, fun H2 => ∃ F2 ρ2 yv2 ys2, SR X.K F2 H2 (wipe σ vs) ρ2 ∧ Ev (wipe σ vs) (wipeD (lockS lk ρ1) vs) F1 H1 (wipe σ vs) ρ2 F2 H2 ∧ H2 D = some (.lst yv2) ∧ RepL X.K F2 yv2 ys2 ∧ F2 D = none ∧ ¬ Ow (wipe σ vs) ρ2 D ∧ ys2.length ≤ i + 1 ∧ (∀ i ∈ vs, ∀ c m, ρ2[i]? ≠ some (.ow c m)) ∧
      compD vs h tt el (ds.drop (i + 1)) ys2 ρ2 = compD vs h tt el ds [] (wipeD (lockS lk ρ1) vs), fun H2 hN => ⟨ds.length - (i + 1), by omega, rfl, hlt, hN⟩, fun x H3 hy => ?_⟩
    obtain ⟨d, F3, hd, gr, rx⟩ := its.yld i x F' H' H3 hlt s'.sub pre hy
    have s3 := gr.sr s'
    have ev3 := ev'.trans gr.ev
    have e3 : ds.drop i = d :: ds.drop (i + 1) := by
      have e4 : ds[i] = d := by rw [List.getElem?_eq_getElem hlt] at hd; exact Option.some.inj hd
      rw [List.drop_eq_getElem_cons hlt, e4]
    -- the list so far through each step
    have keepD : ∀ {σ2 : L2.St} {ρ2 : DEnv} {F2 H2 : Hp}, Ev (wipe σ vs) ρ' F3 H3 σ2 ρ2 F2 H2 → H2 D = some (.lst yv) ∧ RepL X.K F2 yv ys ∧ F2 D = none ∧ ¬ Ow σ2 ρ2 D := fun {σ2 ρ2 F2 H2} ev => by
      have hD3 : H3 D = some (.lst yv) := gr.all _ _ hD
      have nF3 : F3 D = none := by
        cases hF : F3 D with
        | none => rfl
        | some u =>
          have := gr.newF D nF (by rw [hF]; simp)
          rw [hD] at this; cases this
      refine ⟨ev.keep D _ hD3 (fun z => no z.ow) (fun ps z => by cases z), ry.mono (.of (gr.ext.trans ev.ext)), ?_, fun z => ?_⟩
      · cases hF : F2 D with
        | none => rfl
        | some u =>
          rcases ev.newF D nF3 (by rw [hF]; simp) with z | z
          · rw [hD3] at z; cases z
          · exact absurd z no
      · rcases ev.own' D z with z | z
        · rw [hD3] at z; cases z
        · exact no z
    -- the block's outcome is no failure
    have good : ∃ zs ρz, compD vs h tt el (ds.drop i) ys ρ' = .ok zs ρz := by
      rw [eq']
      cases hcd : compD vs h tt el ds [] (wipeD (lockS lk ρ1) vs) with
      | ok zs ρz => exact ⟨zs, ρz, rfl⟩
      | ex x ρz => rw [hcd] at o2; exact o2.elim
      | bad => rw [hcd] at o2; exact o2.elim
    rw [e3] at eq' good
    dsimp only [compD] at eq' good
    cases ht : h (.d d) ρ' with
    | nx ρ4 =>
      rw [ht] at eq' good
      dsimp only at eq' good
      refine ⟨wipe σ vs, ρ', F3, H3, F3, ρ', .d d, s3, .refl, rx, ?_⟩
      rw [ht]
      refine fun σ4 F4 H4 s4 ev4 of4 => ⟨wipe_off of4 hS, F4, ρ4, s4, ?_⟩
      cases htt : tt ρ4 with
      | bad => rw [htt] at good; obtain ⟨_, _, z⟩ := good; cases z
      | ex x ρ5 => rw [htt] at good; obtain ⟨_, _, z⟩ := good; cases z
      | ok b ρ5 =>
        rw [htt] at eq' good
        dsimp only at eq' good
        refine fun b' F5 H5 s5 ev5 eb => ?_
        have eb : b' = b := eb
        subst eb
        have ev45 := ev4.trans ev5
        have e4 := wipe_off of4 hS
        have sl : ∀ {σx : L2.St} {ρx : DEnv} {Fx Hx : Hp}, σx = σ4 → SR X.K Fx Hx σx ρx → Ev (wipe σ vs) ρ' F3 H3 σx ρx Fx Hx → SR X.K Fx Hx (wipe σ vs) (wipeD ρx vs) ∧ Ev (wipe σ vs) (wipeD (lockS lk ρ1) vs) F1 H1 (wipe σ vs) (wipeD ρx vs) Fx Hx ∧ ∀ i ∈ vs, ∀ c m, (wipeD ρx vs)[i]? ≠ some (.ow c m) := fun {σx ρx Fx Hx} ex sx evx => by
          subst ex
          obtain ⟨w1, w2⟩ := in_wipe e4 sx evx (fun i c m q hi => hu i hi c m q)
          refine ⟨w1, ev3.trans w2, fun i hi c m z => ?_⟩
          rcases wipeD_get z with ⟨w, _⟩ | ⟨_, n⟩
          · cases w
          · exact n hi
        cases b' with
        | false =>
          refine iteF ?_
          rw [if_neg Bool.false_ne_true] at eq'
          obtain ⟨k1, k2, k3, k4⟩ := keepD ev45
          obtain ⟨w1, w2, w3⟩ := sl rfl s5 ev45
          exact ⟨F5, wipeD ρ5 vs, yv, ys, w1, w2, k1, k2, k3, fun z => k4 (by rw [← e4] at z; exact ow_wipe z), by omega, w3, eq'⟩
        | true =>
          refine iteT ?_
          rw [if_pos rfl] at eq' good
          refine ⟨F5, ρ5, s5, ?_⟩
          cases he : el ρ5 with
          | bad => rw [he] at good; obtain ⟨_, _, z⟩ := good; cases z
          | ex x ρ6 => rw [he] at good; obtain ⟨_, _, z⟩ := good; cases z
          | ok y ρ6 =>
            cases y with
            | fr c => rw [he] at good; obtain ⟨_, _, z⟩ := good; cases z
            | sl i => rw [he] at good; obtain ⟨_, _, z⟩ := good; cases z
            | d y =>
              rw [he] at eq'
              dsimp only at eq'
              refine fun v F6 H6 s6 ev6 r6 => ?_
              have ev46 := ev45.trans ev6
              obtain ⟨k1, k2, k3, k4⟩ := keepD ev46
              have hl : yv.length = ys.length := ry.length
              refine ⟨yv, k1, by rw [hl, sizeLine_eq]; omega, ?_⟩
              obtain ⟨w1, w2, w3⟩ := sl rfl s6 ev46
              have k4' : ¬ Ow (wipe σ vs) (wipeD ρ6 vs) D := fun z => k4 (by rw [← e4] at z; exact ow_wipe z)
              exact ⟨F6, wipeD ρ6 vs, yv ++ [v], ys ++ [y], sr_other w1 k3 k4' (nk_lst k1), ev_other w2 nD, upd_same, k2.app (.one r6), k3, k4', by rw [List.length_append]; show ys.length + 1 ≤ i + 1; omega, w3, eq'⟩
    | rt x ρ4 => rw [ht] at good; obtain ⟨_, _, z⟩ := good; cases z
    | bk ρ4 => rw [ht] at good; obtain ⟨_, _, z⟩ := good; cases z
    | ct ρ4 => rw [ht] at good; obtain ⟨_, _, z⟩ := good; cases z
    | ex x ρ4 => rw [ht] at good; obtain ⟨_, _, z⟩ := good; cases z
    | bad => rw [ht] at good; obtain ⟨_, _, z⟩ := good; cases z
  · have e : i = ds.length := by omega
    subst e
    refine .inl ⟨its.stop _ F' H' (Nat.le_refl _) s'.sub pre, ?_⟩
    rw [List.drop_length] at eq'
    exact fin eq'.symm s' ev' hu nD nF hD ry no
theorem de_lc (hc : X.calm = true) (hN : X.N.Nodup) (hi : DI X W tg iter fi) (ok : BlkOk X.N X.env.scope scope own) (hS : ∀ i ∈ S, i ∈ own.map (·.2))
    (hg : ∀ (s : Shared) (H : Hp) (C : Addr) (cl : List (Str × Addr)) (fp : List Addr), DG (X.blk s H scope (compEnvC scope cl C X.env) fp) tg S h) (ht : ∀ (s : Shared) (H : Hp) (C : Addr) (cl : List (Str × Addr)) (fp : List Addr), DTs (X.blk s H scope (compEnvC scope cl C X.env) fp) W0 ifs tt)
    (he : ∀ (s : Shared) (H : Hp) (C : Addr) (cl : List (Str × Addr)) (fp : List Addr), DE (X.blk s H scope (compEnvC scope cl C X.env) fp) W0 elt el) (hs : ∀ x, foldedSetIterable iter X.env x = pure x := by intro _; rfl) :
    DE X W (.ListComp elt [⟨tg, iter, ifs, 0⟩] scope pos) (eLc (own.map (·.2)) fi h tt el) :=
  pe_conseq (pe_lc (g := tG X.K S h) (tt := tT X.K X.mg W0 tt) (te := tD X.K X.mg W0 el) hc hN hi ok hg ht he hs) fun _ _ _ => lc_ok hS
end
end DL
/-! DL11: what changes an owned object. -/
namespace DL
open PySem PySem.Spec PyProof.Rows L2
variable [TabT]
def mutS (i : Nat) (c' : Cont) (ρ : DEnv) : R Unit := match ρ[i]? with
  | some (.ow _ .own) => .ok () (ρ.set i (.ow c' .own))
  | some (.ow _ .bor) => .ok () (ρ.set i (.ow c' .bor))
  | _ => .bad
section
variable {K : PySem.W.Frag} {σ : L2.St} {ρ ρ' : DEnv} {F H : Hp}
theorem mutS_ok {i : Nat} {c c' : Cont} {m : Md} {a : Addr} {o : HO} (sr : SR K F H σ ρ) (e : ρ[i]? = some (.ow c m)) (hm : m ≠ .lck) (ea : σ[i]? = some (some (.ref a))) (cr : CRep K F (upd H a o) a c') :
    SR K F (upd H a o) σ (ρ.set i (.ow c' m)) ∧ Ev σ ρ F H σ (ρ.set i (.ow c' m)) F (upd H a o) := by
  have hl : i < ρ.length := (List.getElem?_eq_some_iff.mp e).1
  obtain ⟨ov, g1, a', g2, nF, cr0⟩ := sr.slot i _ e
  rw [ea] at g1; cases g1; cases g2
  have at' : ∀ {j : Nat} {s : Slot}, (ρ.set i (.ow c' m))[j]? = some s → (j = i ∧ s = .ow c' m) ∨ (j ≠ i ∧ ρ[j]? = some s) := fun {j s} q => by
    by_cases hj : i = j
    · subst hj
      rw [List.getElem?_set_self hl] at q
      cases q
      exact .inl ⟨rfl, rfl⟩
    · rw [List.getElem?_set_ne hj] at q
      exact .inr ⟨fun z => hj z.symm, q⟩
  have ow2 : ∀ {b : Addr}, Ow σ (ρ.set i (.ow c' m)) b → Ow σ ρ b := fun {b} ⟨j, c1, m1, q1, q2⟩ => by
    rcases at' q1 with ⟨rfl, z⟩ | ⟨_, q1⟩
    · exact ⟨j, c, m, e, q2⟩
    · exact ⟨j, c1, m1, q1, q2⟩
  obtain ⟨ov0, x1, a0, x2, x3, x4⟩ := sr.slot i _ e
  rw [ea] at x1
  cases x1
  cases x2
  obtain ⟨o0, ho0⟩ := x4.some
  refine ⟨⟨by rw [List.length_set]; exact sr.len, fun b u q => by rw [upd_ne (ne_of_none q nF)]; exact sr.sub _ _ q, fun j s q => ?_, fun j k c1 m1 c2 m2 b q1 q2 q3 q4 => ?_, sr.tab.own ho0 (CRep.kt ho0 x4)⟩, ⟨Same.refl _, fun b u q n _ => ?_, fun b q n => absurd q n, fun b h => ?_, fun j c1 m1 q n => ?_, fun b z => .inr (ow2 z), fun b z => .inr ?_⟩⟩
  · rcases at' q with ⟨rfl, rfl⟩ | ⟨hj, q⟩
    · exact ⟨_, ea, a, rfl, nF, cr⟩
    · obtain ⟨ov, z1, z2⟩ := sr.slot j s q
      refine ⟨ov, z1, ?_⟩
      cases s with
      | un => trivial
      | d x => exact z2
      | ow c1 m1 =>
        obtain ⟨b, w1, w2, w3⟩ := z2
        subst w1
        exact ⟨b, rfl, w2, w3.mono (.of (Same.refl _)) (upd_ne fun z => hj (sr.dist j i _ _ _ _ a q e (by rw [z1, z]) ea))⟩
  · rcases at' q1 with ⟨h1, z1⟩ | ⟨_, w1⟩ <;> rcases at' q2 with ⟨h2, z2⟩ | ⟨_, w2⟩
    · rw [h1, h2]
    · subst h1; exact sr.dist _ _ _ _ _ _ b e w2 q3 q4
    · subst h2; exact sr.dist _ _ _ _ _ _ b w1 e q3 q4
    · exact sr.dist _ _ _ _ _ _ b w1 w2 q3 q4
  · rw [upd_ne fun z => n ⟨i, c, m, e, hm, by rw [z]; exact ea⟩]
    exact q
  · by_cases z : b = a
    · subst z; rw [upd_same]; simp
    · rw [upd_ne z]; exact h
  · by_cases hj : i = j
    · subst hj
      rw [e] at q; cases q
      exact ⟨rfl, c', List.getElem?_set_self hl, fun z => absurd z hm⟩
    · exact ⟨rfl, c1, by rw [List.getElem?_set_ne hj]; exact q, fun _ => rfl⟩
  · obtain ⟨j, c1, m1, q1, n1, q2⟩ := z
    rcases at' q1 with ⟨rfl, z⟩ | ⟨_, q1⟩
    · exact ⟨j, c, m, e, hm, q2⟩
    · exact ⟨j, c1, m1, q1, n1, q2⟩
theorem mutS_inv {i : Nat} {c' : Cont} (h : mutS i c' ρ = .ok () ρ') : ∃ c m, ρ[i]? = some (.ow c m) ∧ m ≠ .lck ∧ ρ' = ρ.set i (.ow c' m) := by
  unfold mutS at h
  split at h
  · rename_i c e; cases h; exact ⟨c, _, e, by decide, rfl⟩
  · rename_i c e; cases h; exact ⟨c, _, e, by decide, rfl⟩
  · cases h
end
/-- a method of the owned object at slot i: what it holds and gives -/
def methV (i : Nat) (op : Cont → List D → Option (Cont × D)) (xs : List Val) : EM := fun ρ => match ρ[i]?, dsL xs with
  | some (.ow c _), some ds => match op c ds with
    | some (c', r) => (mutS i c' ρ).bind fun _ ρ' => .ok (.d r) ρ'
    | none => .bad
  | _, _ => .bad
section
variable {X : Cx} {W : WX} {e : Expr} {es : List Expr} {f : EM} {g : M (List Val)} {pos p apos cpos : Pos} {name x : Str} {T id : String}
def eMethL (i : Nat) (op : Cont → List D → Option (Cont × D)) (g : M (List Val)) : EM := fun ρ => match ρ[i]? with
  | some (.ow (.lst _) _) => (g ρ).bind fun xs ρ1 => methV i op xs ρ1
  | _ => .bad
/-! ### x[k] = e -/
def dSet : List Key → List D → Key → D → List D
  | k :: ks, v :: vs, j, d => (if k = j then d else v) :: dSet ks vs j d
  | _, vs, _, _ => vs
def dPut (ks : List Key) (vs : List D) (k : Key) (d : D) : Cont := if (ks.any fun j => decide (j = k)) = true then .dic ks (dSet ks vs k d) else .dic (ks ++ [k]) (vs ++ [d])
def storeO : Cont → D → D → Option Cont
  | .lst xs, .int k, d => match ixN xs.length k with
    | some j => some (.lst (xs.set j d))
    | none => none
  | .dic ks vs, y, d => match keyD y with
    | some k => if ks.length < 16777216 then some (dPut ks vs k d) else none
    | none => none
  | _, _, _ => none
def storeV (i : Nat) (x k : Val) : SM := fun ρ => match x, k.peek ρ, ρ[i]? with
  | .d d, some y, some (.ow c _) => match storeO c y d with
    | some c' => (mutS i c' ρ).bindS fun _ ρ' => .nx ρ'
    | none => .bad
  | _, _, _ => .bad
def sStore (i : Nat) (g f : EM) : SM := fun ρ => (f ρ).bindS fun x ρ1 => match ρ1[i]? with
  | some (.ow _ _) => (g ρ1).bindS fun k ρ2 => storeV i x k ρ2
  | _ => .bad
theorem dSet_zip {K : PySem.W.Frag} {F : Hp} {k : Key} {v : V} {d : D} (r : Rep K F v d) : ∀ {ks : List Key} {vs : List V} {ds : List D}, ks.length = vs.length → RepL K F vs ds → ∃ us, (ks.zip vs).map (fun kv => if kv.1 = k then (kv.1, v) else kv) = ks.zip us ∧ ks.length = us.length ∧ RepL K F us (dSet ks ds k d)
  | [], [], ds, l, rl => ⟨[], rfl, rfl, by cases rl; exact .nil⟩
  | k' :: ks, u :: vs, _, l, .cons a b => by
    obtain ⟨us, h1, h2, h3⟩ := dSet_zip r (ks := ks) (vs := vs) (by simpa using l) b
    by_cases hk : k' = k
    · refine ⟨v :: us, ?_, by simp [h2], ?_⟩
      · rw [List.zip_cons_cons, List.map_cons, h1, if_pos hk]; rfl
      · unfold dSet; rw [if_pos hk]; exact .cons r h3
    · refine ⟨u :: us, ?_, by simp [h2], ?_⟩
      · rw [List.zip_cons_cons, List.map_cons, h1, if_neg hk]; rfl
      · unfold dSet; rw [if_neg hk]; exact .cons a h3
theorem dPut_ok {K : PySem.W.Frag} {F H : Hp} {a : Addr} {ks : List Key} {vs : List V} {ds : List D} {k : Key} {v : V} {d : D} (l : ks.length = vs.length) (rl : RepL K F vs ds) (r : Rep K F v d) : CRep K F (upd H a (.dK (putK (ks.zip vs) k v))) a (dPut ks ds k d) := by
  have hany : ∀ {ks : List Key} {vs : List V}, ks.length = vs.length → ((ks.zip vs).any fun kv => decide (kv.1 = k)) = ks.any fun j => decide (j = k) := by
    intro ks
    induction ks with
    | nil => intro vs l; simp
    | cons k' ks ih =>
      intro vs l
      cases vs with
      | nil => simp at l
      | cons u vs => rw [List.zip_cons_cons, List.any_cons, List.any_cons, ih (by simpa using l)]
  unfold putK dPut
  rw [hany l]
  by_cases hk : (ks.any fun j => decide (j = k)) = true
  · rw [if_pos hk, if_pos hk]
    obtain ⟨us, h1, h2, h3⟩ := dSet_zip (k := k) r l rl
    exact ⟨us, by rw [h1]; exact upd_same, h2, h3⟩
  · rw [if_neg hk, if_neg hk]
    refine ⟨vs ++ [v], ?_, by simp [l], rl.app (.one r)⟩
    rw [List.zip_append l]
    exact upd_same
theorem ps_or {st : Stmt} {t t' : TS} (h : PS X st t) (h' : PS X st t') : PS X st (fun D σ H => t D σ H ∨ t' D σ H) := ⟨fun pins s σ H D I q => q.elim (h.run pins s σ H D I) (h'.run pins s σ H D I)⟩
/-- what is stored, by the value's slot: the list's, the dict's own way -/
theorem store_ok {K : PySem.W.Frag} {mg : Str → Option Value} {σ : L2.St} {ρ : DEnv} {F H Hb Hb' : Hp} {i : Nat} {x k : Val} {v w : V} {D : Ends} (sr : SR K F H σ ρ) (rx : VR K σ Hb F H ρ v x) (rk : VR K σ Hb' F H ρ w k) (h : OutS K mg W σ ρ F H (storeV i x k ρ) D) :
    ∃ a c m, ρ[i]? = some (.ow c m) ∧ σ[i]? = some (some (.ref a)) ∧ ((∃ xs n j, (∃ ds, c = .lst ds) ∧ H a = some (.lst xs) ∧ w = .int n ∧ ixN xs.length n = some j ∧ D.nx σ (upd H a (.lst (xs.set j v)))) ∨ ((∃ ks ds, c = .dic ks ds) ∧ ∃ H', DPut H a w v H' ∧ D.nx σ H')) := by
  unfold storeV at h
  cases x with
  | fr c => exact h.elim
  | sl j => exact h.elim
  | d d =>
    cases hk : k.peek ρ with
    | none => rw [hk] at h; exact h.elim
    | some y =>
      cases hs : ρ[i]? with
      | none => rw [hk, hs] at h; exact h.elim
      | some sl =>
        cases sl with
        | un => rw [hk, hs] at h; exact h.elim
        | d z => rw [hk, hs] at h; exact h.elim
        | ow c m =>
          rw [hk, hs] at h
          dsimp only at h
          obtain ⟨ov, g1, a, g2, nF, cr⟩ := sr.slot i _ hs
          subst g2
          refine ⟨a, c, m, rfl, g1, ?_⟩
          have ry := rk.peek sr hk
          cases hc : storeO c y d with
          | none => rw [hc] at h; exact h.elim
          | some c' =>
            rw [hc] at h
            dsimp only at h
            have fin : ∀ {o : HO}, CRep K F (upd H a o) a c' → D.nx σ (upd H a o) := fun {o} cr' => by
              cases hm : mutS i c' ρ with
              | bad => rw [hm] at h; exact h.elim
              | ex z ρ' =>
                exfalso
                unfold mutS at hm
                split at hm <;> cases hm
              | ok u ρ' =>
                obtain ⟨c2, m2, e2, n2, rfl⟩ := mutS_inv hm
                rw [hm] at h
                obtain ⟨s3, ev3⟩ := mutS_ok sr e2 n2 g1 cr'
                exact h σ F _ s3 ev3
            cases c with
            | lst xs =>
              cases y with
              | int n =>
                dsimp only [storeO] at hc
                obtain rfl := ry.int
                split at hc
                · rename_i j hj
                  cases hc
                  obtain ⟨xv, hx, rl⟩ := cr
                  exact .inl ⟨xv, n, j, ⟨_, rfl⟩, hx, rfl, by rw [rl.length]; exact hj, fin ⟨_, upd_same, rl.set rx j⟩⟩
                · cases hc
              | _ => cases hc
            | dic ks vs =>
              dsimp only [storeO] at hc
              split at hc
              · rename_i k' hk'
                split at hc
                · rename_i hl
                  cases hc
                  obtain ⟨xv, hx, l, rl⟩ := cr
                  obtain rfl := ry.key hk'
                  refine .inr ⟨⟨_, _, rfl⟩, _, .inl ⟨_, k', hx, rfl, by rw [List.length_zip, ← l, Nat.min_self, sizeLine_eq]; exact hl, rfl⟩, fin (dPut_ok l rl rx)⟩
                · cases hc
              · cases hc
theorem ds_store (i : Nat) {ix value : Expr} {pos' : Pos} (hu : X.A.units + 1 < cLine) (hv : DE X W value f) {k : EM} (hi : DE X W ix k) (hN : X.N[i]? = some x := by rfl) (hvis : Vis X.env.scope x := by first | exact Or.inl rfl | exact Or.inr (Or.inl rfl) | exact Or.inr (Or.inr rfl)) (hd : (x == ("__debug__" : Str)) = false := by decide) (hcd : (x == ("__classdict__" : Str)) = false := by decide)
    (ha : ∀ v, assign (.Subscript (.Name x p) ix pos') X.env v = (do
      let ov ← holding [v] (eval (.Name x p) X.env)
      let iv ← holding [v, ov] (eval ix X.env)
      standAt pos'
      holding [v, ov, iv] (setItem ov iv v)
      release [v, ov, iv] []) := by intro _; rfl)
    (hs : swapsWithSole [.Subscript (.Name x p) ix pos'] value pos.line X.env = pure false := by rfl) (hw : swappedStores [.Subscript (.Name x p) ix pos'] value X.env = pure none := by rfl)
    (h1 : (assignEach [.Subscript (.Name x p) ix pos'] X.env).map (·.2) = [assign (.Subscript (.Name x p) ix pos') X.env] := by rfl)
    (hs2 : swapsWith value (some (.Subscript (.Name x p) ix pos')) pos.line X.env = pure false := by rfl) : DS X W (.Assign [.Subscript (.Name x p) ix pos'] value pos) (sStore i k (fz f)) :=
  ps_conseq (ps_or (ps_asg (de_fz hv) (pg_sub (pe_var hN hvis hd hcd) hi set_list ha) hs hw h1) (ps_dput hu (pe_var hN hvis hd hcd) hi (de_fz hv) hs2)) fun D σ H hq => by
    obtain ⟨F, ρ, sr, q⟩ := hq
    unfold sStore at q
    cases hf : fz f ρ with
    | bad => rw [hf] at q; exact q.elim
    | ex z ρ1 => rw [hf] at q; exact .inl ⟨F, ρ, sr, by rw [hf]; exact fun cls dd F2 H2 s2 ev2 r2 => q cls dd σ F2 H2 s2 ev2 r2⟩
    | ok xv ρ1 =>
      rw [hf] at q
      dsimp only [R.bindS] at q
      cases hs' : ρ1[i]? with
      | none => rw [hs'] at q; exact q.elim
      | some sl =>
        cases sl with
        | un => rw [hs'] at q; exact q.elim
        | d z => rw [hs'] at q; exact q.elim
        | ow c m =>
          rw [hs'] at q
          dsimp only at q
          -- the object behind the index's evaluation
          cases hk : k ρ1 with
          | bad => rw [hk] at q; exact q.elim
          | ex z ρ2 =>
            rw [hk] at q
            refine .inl ⟨F, ρ, sr, ?_⟩
            rw [hf]
            intro v F1 H1 s1 ev1 r1
            obtain ⟨ov, g1, a, g2, g3, g4⟩ := s1.slot i _ hs'
            subst g2
            refine ⟨.ref a, g1, F1, ρ1, s1, ?_⟩
            rw [hk]
            exact fun cls dd F2 H2 s2 ev2 r2 => q cls dd σ F2 H2 s2 (ev1.trans ev2) r2
          | ok kv ρ2 =>
            rw [hk] at q
            have run : ∀ v F1 H1, SR X.K F1 H1 σ ρ1 → Ev σ ρ F H σ ρ1 F1 H1 → VR X.K σ H F1 H1 ρ1 v xv → ∃ a, σ[i]? = some (some (.ref a)) ∧ ∀ w F2 H2, SR X.K F2 H2 σ ρ2 → Ev σ ρ1 F1 H1 σ ρ2 F2 H2 → VR X.K σ H1 F2 H2 ρ2 w kv →
                ∃ a' c' m', ρ2[i]? = some (.ow c' m') ∧ σ[i]? = some (some (.ref a')) ∧ ((∃ xs n j, (∃ ds, c' = .lst ds) ∧ H2 a' = some (.lst xs) ∧ w = .int n ∧ ixN xs.length n = some j ∧ D.nx σ (upd H2 a' (.lst (xs.set j v)))) ∨ ((∃ ks ds, c' = .dic ks ds) ∧ ∃ H', DPut H2 a' w v H' ∧ D.nx σ H')) := fun v F1 H1 s1 ev1 r1 => by
              obtain ⟨ov, g1, a, g2, g3, g4⟩ := s1.slot i _ hs'
              subst g2
              refine ⟨a, g1, fun w F2 H2 s2 ev2 r2 => ?_⟩
              exact store_ok s2 (r1.ev ev2) r2 (OutS.from (r := storeV i xv kv ρ2) q (ev1.trans ev2))
            cases hc : ρ2[i]? with
            | none =>
              exfalso
              dsimp only [R.bindS] at q
              unfold storeV at q
              rw [hc] at q
              split at q <;> first | exact q | (rename_i h4; cases h4)
            | some sl2 =>
              cases sl2 with
              | un =>
                exfalso
                dsimp only [R.bindS] at q
                unfold storeV at q
                rw [hc] at q
                split at q <;> first | exact q | (rename_i h4; cases h4)
              | d z =>
                exfalso
                dsimp only [R.bindS] at q
                unfold storeV at q
                rw [hc] at q
                split at q <;> first | exact q | (rename_i h4; cases h4)
              | ow c2 m2 =>
                cases c2 with
                | lst ds =>
                  refine .inl ⟨F, ρ, sr, ?_⟩
                  rw [hf]
                  intro v F1 H1 s1 ev1 r1
                  obtain ⟨a, g1, g2⟩ := run v F1 H1 s1 ev1 r1
                  refine ⟨.ref a, g1, F1, ρ1, s1, ?_⟩
                  rw [hk]
                  intro w F2 H2 s2 ev2 r2
                  obtain ⟨a', c', m', e1, e2, h⟩ := g2 w F2 H2 s2 ev2 r2
                  rw [g1] at e2; cases e2
                  rcases h with ⟨xs, n, j, _, h1, h2, h3, h4⟩ | ⟨⟨ks, ds', e3⟩, _⟩
                  · exact ⟨a, xs, n, j, rfl, h2, h1, h3, h4⟩
                  · rw [hc] at e1; cases e1; cases e3
                | dic ks ds =>
                  refine .inr ⟨F, ρ, sr, ?_⟩
                  rw [hf]
                  intro v F1 H1 s1 ev1 r1
                  obtain ⟨a, g1, g2⟩ := run v F1 H1 s1 ev1 r1
                  refine ⟨.ref a, g1, F1, ρ1, s1, ?_⟩
                  rw [hk]
                  intro w F2 H2 s2 ev2 r2
                  obtain ⟨a', c', m', e1, e2, h⟩ := g2 w F2 H2 s2 ev2 r2
                  rw [g1] at e2; cases e2
                  rcases h with ⟨xs, n, j, ⟨ds', e3⟩, _⟩ | ⟨_, H', h1, h2⟩
                  · rw [hc] at e1; cases e1; cases e3
                  · exact ⟨a, H', rfl, h1, h2⟩
end
end DL
/-! DL12: defs and their calls. -/
namespace DL
open PySem PySem.Spec PyProof.Rows L2
variable [TabT]
inductive RF where
  | ret (x : Val) (as : DEnv) | ex (x : Ex) (as : DEnv) | bad
abbrev FM := DEnv → RF
/-- what a def hands back -/
def VRF (K : PySem.W.Frag) (σ : L2.St) (as as' : DEnv) (H F' H' : Hp) (v : V) : Val → Prop
  | .d x => Rep K F' v x
  | .fr c => ∃ p, v = .ref p ∧ (H p = none ∨ ∃ (j : Nat) (c0 : Cont), as[j]? = some (.ow c0 .own) ∧ σ[j]? = some (some (.ref p))) ∧ F' p = none ∧ CRep K F' H' p c ∧ ¬ Ow σ as' p
  | .sl _ => False
def OutF (K : PySem.W.Frag) (mg : Str → Option Value) (E : XK) (σ : L2.St) (as : DEnv) (F H : Hp) (r : RF) (Q : VK) : Prop :=
  match r with
  | .ret x as' => ∀ v F' H', SR K F' H' σ as' → Ev σ as F H σ as' F' H' → VRF K σ as as' H F' H' v x → Q v H'
  | .ex x as' => ∀ cls dd F' H', SR K F' H' σ as' → Ev σ as F H σ as' F' H' → XR K mg F' x cls dd → E cls dd H'
  | .bad => False
def spD (K : PySem.W.Frag) (mg : Str → Option Value) (n : Nat) (Fm : FM) : Sp := fun vs H Q E => ∃ F as, SR K F H (vs.map some) as ∧ as.length = n ∧ OutF K mg E (vs.map some) as F H (Fm as) Q
/-! ### the arguments' slots -/
def backSlot (s : Slot) (t : Option Slot) : Slot := match s with
  | .ow _ .own => .un
  | .ow c m => match t with
    | some t => t
    | none => .ow c m
  | s => s
def argsBack (as ρ : DEnv) : DEnv := match as, ρ with
  | s :: as, t :: ρ => backSlot s (some t) :: argsBack as ρ
  | s :: as, [] => backSlot s none :: argsBack as []
  | [], _ => []
theorem argsBack_len : ∀ (as ρ : DEnv), (argsBack as ρ).length = as.length
  | [], ρ => by unfold argsBack; rfl
  | s :: as, [] => by unfold argsBack; rw [List.length_cons, argsBack_len as [], List.length_cons]
  | s :: as, t :: ρ => by unfold argsBack; rw [List.length_cons, argsBack_len as ρ, List.length_cons]
theorem argsBack_get : ∀ {as ρ : DEnv} {i : Nat}, (argsBack as ρ)[i]? = (as[i]?).map fun s => backSlot s ρ[i]?
  | [], ρ, i => by unfold argsBack; simp
  | s :: as, [], 0 => by unfold argsBack; simp
  | s :: as, [], i + 1 => by
    unfold argsBack
    rw [List.getElem?_cons_succ, List.getElem?_cons_succ, argsBack_get]
    simp
  | s :: as, t :: ρ, 0 => by unfold argsBack; simp
  | s :: as, t :: ρ, i + 1 => by
    unfold argsBack
    rw [List.getElem?_cons_succ, List.getElem?_cons_succ, List.getElem?_cons_succ, argsBack_get]
def finish (x : Val) (as ρ : DEnv) : RF := match x with
  | .d d => .ret (.d d) (argsBack as ρ)
  | .fr c => .ret (.fr c) (argsBack as ρ)
  | .sl i => match ρ[i]? with
    | some (.d d) => .ret (.d d) (argsBack as ρ)
    | some (.ow c .own) => .ret (.fr c) (argsBack as ρ)
    | _ => .bad
/-- a def with np parameters and nl further names -/
def fnD (np nl : Nat) (body : SM) : FM := fun as => if as.length = np then (match body (as ++ List.replicate nl .un) with
  | .nx ρ => finish (.d .non) as ρ
  | .rt x ρ => finish x as ρ
  | .ex x ρ => .ex x (argsBack as ρ)
  | _ => .bad) else .bad
section
variable {K : PySem.W.Frag} {σ0 σ' : L2.St} {as ρ0 ρ' : DEnv} {F H F' H' : Hp} {vs : List V}
theorem start_map {N : List Str} {i : Nat} (h : i < vs.length) : (L2.start N vs)[i]? = (vs.map some)[i]? := by
  unfold L2.start
  rw [List.getElem?_append_left (by rw [List.length_map]; exact h)]
theorem sr_start {N : List Str} {nl : Nat} (sr : SR K F H (vs.map some) as) (hN : N.length = vs.length + nl) : SR K F H (L2.start N vs) (as ++ List.replicate nl .un) := by
  have hl : vs.length = as.length := by have := sr.len; rw [List.length_map] at this; exact this
  have low : ∀ {i : Nat} {s : Slot}, (as ++ List.replicate nl .un)[i]? = some s → (i < vs.length ∧ as[i]? = some s) ∨ (vs.length ≤ i ∧ s = .un ∧ i < vs.length + nl) := fun {i s} e => by
    by_cases hi : i < as.length
    · rw [List.getElem?_append_left hi] at e
      exact .inl ⟨by omega, e⟩
    · rw [List.getElem?_append_right (by omega)] at e
      have h2 := (List.getElem?_eq_some_iff.mp e).1
      rw [List.length_replicate] at h2
      rw [List.getElem?_replicate] at e
      rw [if_pos h2] at e
      cases e
      exact .inr ⟨by omega, rfl, by omega⟩
  refine ⟨?_, sr.sub, fun i s e => ?_, fun i j c m c' m' a e1 e2 e3 e4 => ?_, sr.tab⟩
  · unfold L2.start
    rw [List.length_append, List.length_append, List.length_map, List.length_replicate, List.length_replicate]
    omega
  · rcases low e with ⟨h1, h2⟩ | ⟨h1, rfl, h3⟩
    · obtain ⟨ov, g1, g2⟩ := sr.slot i s h2
      exact ⟨ov, by rw [start_map h1]; exact g1, g2⟩
    · refine ⟨none, ?_, trivial⟩
      unfold L2.start
      rw [List.getElem?_append_right (by rw [List.length_map]; exact h1), List.length_map, List.getElem?_replicate, if_pos (by omega)]
  · rcases low e1 with ⟨h1, h2⟩ | ⟨h1, z, h3⟩
    · rcases low e2 with ⟨h4, h5⟩ | ⟨_, z, _⟩
      · rw [start_map h1] at e3
        rw [start_map h4] at e4
        exact sr.dist i j c m c' m' a h2 h5 e3 e4
      · cases z
    · cases z
theorem ow_start {N : List Str} {nl : Nat} {a : Addr} (hl : vs.length = as.length) (h : Ow (L2.start N vs) (as ++ List.replicate nl .un) a) : Ow (vs.map some) as a := by
  obtain ⟨i, c, m, e1, e2⟩ := h
  by_cases hi : i < as.length
  · rw [List.getElem?_append_left hi] at e1
    rw [start_map (by omega)] at e2
    exact ⟨i, c, m, e1, e2⟩
  · rw [List.getElem?_append_right (by omega), List.getElem?_replicate] at e1
    split at e1 <;> cases e1
theorem mt_start {N : List Str} {nl : Nat} {a : Addr} (hl : vs.length = as.length) (h : Mt (L2.start N vs) (as ++ List.replicate nl .un) a) : Mt (vs.map some) as a := by
  obtain ⟨i, c, m, e1, n, e2⟩ := h
  by_cases hi : i < as.length
  · rw [List.getElem?_append_left hi] at e1
    rw [start_map (by omega)] at e2
    exact ⟨i, c, m, e1, n, e2⟩
  · rw [List.getElem?_append_right (by omega), List.getElem?_replicate] at e1
    split at e1 <;> cases e1
theorem finish_ok {N : List Str} {nl : Nat} (sr0 : SR K F H (vs.map some) as) (s' : SR K F' H' σ' ρ') (ev : Ev (L2.start N vs) (as ++ List.replicate nl .un) F H σ' ρ' F' H') :
    SR K F' H' (vs.map some) (argsBack as ρ') ∧ Ev (vs.map some) as F H (vs.map some) (argsBack as ρ') F' H' := by
  have hl : vs.length = as.length := by have := sr0.len; rw [List.length_map] at this; exact this
  -- a lent slot behind the body
  have lent : ∀ {i : Nat} {c : Cont} {m : Md}, as[i]? = some (.ow c m) → m ≠ .own → σ'[i]? = (vs.map some)[i]? ∧ ∃ c', ρ'[i]? = some (.ow c' m) ∧ (m = .lck → c' = c) ∧ (argsBack as ρ')[i]? = some (.ow c' m) := fun {i c m} e n => by
    have hi : i < as.length := (List.getElem?_eq_some_iff.mp e).1
    obtain ⟨b1, c', b2, b3⟩ := ev.bor i c m (by rw [List.getElem?_append_left hi]; exact e) n
    rw [start_map (by omega)] at b1
    refine ⟨b1, c', b2, b3, ?_⟩
    rw [argsBack_get, e, b2]
    cases m with
    | own => exact absurd rfl n
    | bor => rfl
    | lck => rfl
  have inv : ∀ {i : Nat} {s : Slot}, (argsBack as ρ')[i]? = some s → (∃ c m, s = .ow c m ∧ m ≠ .own ∧ (∃ c0, as[i]? = some (.ow c0 m)) ∧ ρ'[i]? = some (.ow c m)) ∨ (∃ x, s = .d x ∧ as[i]? = some (.d x)) ∨ s = .un := fun {i s} e => by
    rw [argsBack_get] at e
    cases q : as[i]? with
    | none => rw [q] at e; cases e
    | some t =>
      rw [q] at e
      cases t with
      | un => cases e; exact .inr (.inr rfl)
      | d x => cases e; exact .inr (.inl ⟨x, rfl, rfl⟩)
      | ow c0 m =>
        by_cases hm : m = .own
        · subst hm; cases e; exact .inr (.inr rfl)
        · obtain ⟨_, c', b2, _, b4⟩ := lent q hm
          have e' : (argsBack as ρ')[i]? = some s := by rw [argsBack_get, q]; exact e
          rw [b4] at e'
          cases e'
          exact .inl ⟨c', m, rfl, hm, ⟨c0, rfl⟩, b2⟩
  refine ⟨⟨by rw [argsBack_len, List.length_map]; exact hl, s'.sub, fun i s e => ?_, fun i j c m c' m' a e1 e2 e3 e4 => ?_, s'.tab⟩, ⟨ev.ext, fun a o e n nt => ev.keep a o e (fun z => n (mt_start hl z)) nt, fun a e n => (ev.newF a e n).imp id (ow_start hl), ev.dom, fun i c m e n => ?_, fun a ⟨i, c, m, e1, e2⟩ => ?_, fun a ⟨i, c, m, e1, n, e2⟩ => ?_⟩⟩
  · rcases inv e with ⟨c, m, rfl, hm, ⟨c0, h0⟩, h1⟩ | ⟨x, rfl, h0⟩ | rfl
    · obtain ⟨b1, _⟩ := lent h0 hm
      obtain ⟨ov, g1, g2⟩ := s'.slot i _ h1
      exact ⟨ov, by rw [← b1]; exact g1, g2⟩
    · obtain ⟨ov, g1, v, g2, g3⟩ := sr0.slot i _ h0
      exact ⟨ov, g1, v, g2, g3.mono (.of ev.ext)⟩
    · have hi : i < (vs.map some).length := by
        have := (List.getElem?_eq_some_iff.mp e).1
        rw [argsBack_len] at this
        rw [List.length_map]; omega
      exact ⟨_, List.getElem?_eq_getElem hi, trivial⟩
  · rcases inv e1 with ⟨c1, m1, z, hm1, ⟨c01, h01⟩, h1⟩ | ⟨x, z, _⟩ | z
    · rcases inv e2 with ⟨c2, m2, z', hm2, ⟨c02, h02⟩, h2⟩ | ⟨x, z', _⟩ | z'
      · exact s'.dist i j c1 m1 c2 m2 a h1 h2 (by rw [(lent h01 hm1).1]; exact e3) (by rw [(lent h02 hm2).1]; exact e4)
      · cases z'
      · cases z'
    · cases z
    · cases z
  · obtain ⟨_, c', _, b3, b4⟩ := lent e n
    exact ⟨rfl, c', b4, b3⟩
  · rcases inv e1 with ⟨c1, m1, z, hm1, ⟨c01, h01⟩, h1⟩ | ⟨x, z, _⟩ | z
    · cases z; exact .inr ⟨i, c01, m, h01, e2⟩
    · cases z
    · cases z
  · rcases inv e1 with ⟨c1, m1, z, hm1, ⟨c01, h01⟩, h1⟩ | ⟨x, z, _⟩ | z
    · cases z; exact .inr ⟨i, c01, m, h01, n, e2⟩
    · cases z
    · cases z
/-- the value that leaves the def -/
theorem leave_ok {mg : Str → Option Value} {E : XK} {Q : VK} {N : List Str} {nl : Nat} {x : Val} {v : V} (sr0 : SR K F H (vs.map some) as) (s' : SR K F' H' σ' ρ') (ev : Ev (L2.start N vs) (as ++ List.replicate nl .un) F H σ' ρ' F' H') (r : VR K σ' H F' H' ρ' v x)
    (h : OutF K mg E (vs.map some) as F H (finish x as ρ') Q) : Q v H' := by
  have hl : vs.length = as.length := by have := sr0.len; rw [List.length_map] at this; exact this
  obtain ⟨s2, ev2⟩ := finish_ok sr0 s' ev
  have back : ∀ {a : Addr}, Ow (vs.map some) (argsBack as ρ') a → ∃ (i : Nat) (c : Cont) (m : Md), m ≠ Md.own ∧ ρ'[i]? = some (Slot.ow c m) ∧ σ'[i]? = some (some (V.ref a)) := fun {a} ⟨i, c, m, e1, e2⟩ => by
    rw [argsBack_get] at e1
    cases q : as[i]? with
    | none => rw [q] at e1; cases e1
    | some t =>
      have hi : i < as.length := (List.getElem?_eq_some_iff.mp q).1
      rw [q] at e1
      cases t with
      | un => cases e1
      | d x => cases e1
      | ow c0 m0 =>
        by_cases hm : m0 = .own
        · subst hm; cases e1
        · obtain ⟨b1, c', b2, b3⟩ := ev.bor i c0 m0 (by rw [List.getElem?_append_left hi]; exact q) hm
          rw [start_map (by omega)] at b1
          exact ⟨i, c', m0, hm, b2, by rw [b1]; exact e2⟩
  cases x with
  | d d => exact h v F' H' s2 ev2 r
  | fr c =>
    obtain ⟨p, rfl, nb, nF, cr, no⟩ := r
    refine h (.ref p) F' H' s2 ev2 ⟨p, rfl, .inl nb, nF, cr, fun z => ?_⟩
    obtain ⟨i, c', m, _, q1, q2⟩ := back z
    exact no ⟨i, c', m, q1, q2⟩
  | sl i =>
    have r : σ'[i]? = some (some v) := r
    unfold finish at h
    dsimp only at h
    cases hs : ρ'[i]? with
    | none => rw [hs] at h; exact h.elim
    | some sl =>
      rw [hs] at h
      obtain ⟨ov, g1, g2⟩ := s'.slot i _ hs
      rw [r] at g1; cases g1
      cases sl with
      | un => exact h.elim
      | d d =>
        obtain ⟨u, z, g3⟩ := g2
        cases z
        exact h v F' H' s2 ev2 g3
      | ow c m =>
        cases m with
        | bor => exact h.elim
        | lck => exact h.elim
        | own =>
          obtain ⟨p, z, nF, cr⟩ := g2
          cases z
          have no : ∀ {j : Nat} {c' : Cont} {m' : Md}, m' ≠ .own → ρ'[j]? = some (.ow c' m') → σ'[j]? = some (some (.ref p)) → False := fun {j c' m'} n q1 q2 => by
            have := s'.dist i j c .own c' m' p hs q1 r q2
            subst this
            rw [hs] at q1; cases q1
            exact n rfl
          refine h (.ref p) F' H' s2 ev2 ⟨p, rfl, ?_, nF, cr, fun z => ?_⟩
          · rcases ev.own' p ⟨i, c, .own, hs, r⟩ with z | z
            · exact .inl z
            · obtain ⟨j, c0, m0, q1, q2⟩ := z
              have hj : j < as.length := by
                by_cases hj : j < as.length
                · exact hj
                · rw [List.getElem?_append_right (by omega), List.getElem?_replicate] at q1
                  split at q1 <;> cases q1
              by_cases hm : m0 = .own
              · subst hm
                rw [List.getElem?_append_left hj] at q1
                rw [start_map (by omega)] at q2
                exact .inr ⟨j, c0, q1, q2⟩
              · obtain ⟨b1, c', b2, b3⟩ := ev.bor j c0 m0 q1 hm
                exact (no hm b2 (by rw [b1]; exact q2)).elim
          · obtain ⟨j, c', m', hm, q1, q2⟩ := back z
            exact no hm q1 q2
end
/-! ### a def keeps its promise -/
structure GFnG (Γ : Around → Prop) (P : Program) (w : World) (K : PySem.W.Frag) (mg : Str → Option Value) (base : Heap) (k : Nat) (f : Addr) (fd : FuncData) (ps : List Str) (Fm : FM) : Prop where
  run : ∀ (A : Around) (outer : List Env) (s : Shared) (H : Hp) (args : Args) (us : List Value) (vs : List V) (Q : VK) (E : XK), Room k A → Γ A → Env0 P w K mg base A outer s H → BindsTo s fd args (ps.zip us) → Vals vs us →
    spD K mg ps.length Fm vs H Q E → codeAny (model P w) A (.call (.ref f) args) (CR (L2.CX P w) outer P w H s Q E) s
/-- no repr is under way -/
abbrev NoGd : Around → Prop := fun A => A.guards = some []
abbrev GFn := GFnG NoGd
theorem GFnG.mono {Γ : Around → Prop} {P : Program} {w : World} {K : PySem.W.Frag} {mg : Str → Option Value} {base : Heap} {j k : Nat} {f : Addr} {fd : FuncData} {ps : List Str} {Fm : FM} (G : GFnG Γ P w K mg base j f fd ps Fm) (h : j ≤ k) : GFnG Γ P w K mg base k f fd ps Fm :=
  ⟨fun A outer s H args us vs Q E hr => G.run A outer s H args us vs Q E (hr.mono h)⟩
theorem sp_len {K : PySem.W.Frag} {mg : Str → Option Value} {n : Nat} {Fm : FM} {vs : List V} {H : Hp} {Q : VK} {E : XK} (h : spD K mg n Fm vs H Q E) : vs.length = n := by
  obtain ⟨F, as, sr, hl, _⟩ := h
  have := sr.len
  rw [List.length_map] at this
  omega
/-- THE RULE for a def: its body, read by a function of the slots -/
theorem gfn_of {Γ : Around → Prop} {P : Program} {w : World} {K : PySem.W.Frag} {mg : Str → Option Value} {base : Heap} {k : Nat} {x qual : Str} {st : Stmt} {f : Addr} {fd : FuncData} {N ps : List Str} {g : SM} (Fu : Fun K x qual st f fd) (S : FnScope N ps (defScope st)) (nl : Nat) (hNl : N.length = ps.length + nl)
    (hbody : ∀ (cdv : Value) (A : Around) (outer : List Env) (s : Shared) (H : Hp) (E : XK), Room k (A.deeper (envOfC qual (defScope st) s.heap.objs.size f cdv)) → Γ (A.deeper (envOfC qual (defScope st) s.heap.objs.size f cdv)) →
      DSs (cxOf (L2.CX P w) P w K mg base N qual (defScope st) f cdv A outer s H E) (fun c d _ H' => E c d H') (defBody st) g) (hΓ : ∀ A env, Γ A → Γ (A.deeper env) := by intro A env h; exact h) : GFnG Γ P w K mg base (k + 1) f fd ps (fnD ps.length nl g) := by
  obtain ⟨oc, od, kV, doc, pm, an, cdv, ct, osl, rfl, lk, hcd⟩ := Fu.ex
  refine ⟨fun A outer s H args us vs Q E hr hG e0 hb r hsp => ?_⟩
  have hl : vs.length = ps.length := sp_len hsp
  obtain ⟨F, as, sr, hla, out⟩ := hsp
  have KX : K.In s.heap := e0.mod.kin.keeps fun b o e => (e0.bs b o e).1
  have lim : s.heap.NoLimit := e0.mod.nolimit.keeps fun b o e => (e0.bs b o e).1
  have hkind : ∀ y ∈ ps.zip us, (defScope st).names.lookup y.1 = some .local ∨ ((defScope st).names.lookup y.1 = some .cell ∧ ((cellsFrom (s.heap.objs.size + 1) (defScope st).names []).lookup y.1).isSome = true) := fun ⟨n, v⟩ hy => (S.par n (List.of_mem_zip hy).1).imp id fun q => ⟨q, PySem.W.cellsFrom_some _ _ _ (.inl q)⟩
  refine codeAny_call_function hr.depth (KX _ _ lk) rfl S.co S.gen rfl (PySem.W.codeRec_of KX hcd) (hb _ _ _ _ (wpAny_newFunctionEnv_cells S.kind hkind fun env he s1 y => ?_))
  subst he
  refine ⟨lim.keeps y.toInCall.keep, codeAny_func ?_⟩
  have I : Inv (cxOf (L2.CX P w) P w K mg base N qual (defScope st) f cdv A outer s H E) [] (L2.start N vs) H s1 := inv_start S hr.hd e0 hl r y
  have hN' : N.length = vs.length + nl := by rw [hl]; exact hNl
  have sr' : SR K F H (L2.start N vs) (as ++ List.replicate nl .un) := sr_start sr hN'
  have reading : tS K mg (fun c d _ H' => E c d H') g { nx := fun _ H' => Q .non H', rt := Q } (L2.start N vs) H := by
    refine ⟨F, _, sr', ?_⟩
    unfold fnD at out
    rw [if_pos hla] at out
    cases hg : g (as ++ List.replicate nl .un) with
    | nx ρ' => rw [hg] at out; exact fun σ' F' H' s' ev => leave_ok sr s' ev (x := .d .non) (v := .non) Rep.non out
    | rt x ρ' => rw [hg] at out; exact fun v σ' F' H' s' ev rv => leave_ok sr s' ev rv out
    | ex x ρ' =>
      rw [hg] at out
      exact fun c d σ' F' H' s' ev rv => let ⟨s2, ev2⟩ := finish_ok sr s' ev; out c d F' H' s2 ev2 rv
    | bk ρ' => rw [hg] at out; exact out.elim
    | ct ρ' => rw [hg] at out; exact out.elim
    | bad => rw [hg] at out; exact out.elim
  refine wpAny_mono ((hbody cdv A outer s H E (hr.deeper _) (hΓ _ _ hG)).run [] s1 _ H _ I reading) (fun fl s' hs => ?_) fun e s' hs => hs
  have fin : ∀ {σ' : L2.St} {H' : Hp} {v : V} {u : Value}, Inv (cxOf (L2.CX P w) P w K mg base N qual (defScope st) f cdv A outer s H E) [] σ' H' s' → RelV v u → Q v H' → CE outer P w H s Q u s' := fun {σ' H' v u} J rv q => ⟨v, H', J.os, J.bare, J.base, J.hok, rv, q⟩
  cases fl with
  | ret u => obtain ⟨v, σ', H', J, rv, q⟩ := hs; exact fin J rv q
  | next => obtain ⟨σ', H', J, q⟩ := hs; exact fin (v := V.non) (u := Value.none) J rfl q
  | brk => obtain ⟨_, _, _, q⟩ := hs; exact q.elim
  | cont => obtain ⟨_, _, _, q⟩ := hs; exact q.elim
/-! ### calls -/
def argSlot (ρ : DEnv) : Val → Option Slot
  | .d d => some (.d d)
  | .fr c => some (.ow c .own)
  | .sl i => match ρ[i]? with
    | some (.d d) => some (.d d)
    | some (.ow c .own) => some (.ow c .bor)
    | some (.ow c m) => some (.ow c m)
    | _ => none
def argSlots (ρ : DEnv) : List Val → Option DEnv
  | [] => some []
  | x :: xs => match argSlot ρ x, argSlots ρ xs with
    | some s, some ss => some (s :: ss)
    | _, _ => none
/-- no slot's object is lent twice -/
def lentOnce : List Val → Bool
  | [] => true
  | .sl i :: xs => !(xs.any fun y => match y with | .sl j => decide (i = j) | _ => false) && lentOnce xs
  | _ :: xs => lentOnce xs
def putBack (ρ : DEnv) : List Val → DEnv → DEnv
  | .sl i :: xs, s :: ss => match ρ[i]?, s with
    | some (.ow _ m), .ow c' _ => (putBack ρ xs ss).set i (.ow c' m)
    | _, _ => putBack ρ xs ss
  | _ :: xs, _ :: ss => putBack ρ xs ss
  | _, _ => ρ
def callF (Fm : FM) (xs : List Val) : EM := fun ρ => match argSlots ρ xs with
  | some as => if lentOnce xs = true then (match Fm as with
    | .ret x as' => .ok x (putBack ρ xs as')
    | .ex x as' => .ex x (putBack ρ xs as')
    | .bad => .bad) else .bad
  | none => .bad
def eCall (Fm : FM) (g : M (List Val)) : EM := fun ρ => (g ρ).bind fun xs ρ1 => callF Fm xs ρ1
theorem putBack_len (ρ : DEnv) : ∀ (xs : List Val) (ss : DEnv), (putBack ρ xs ss).length = ρ.length
  | [], _ => by unfold putBack; rfl
  | .sl i :: xs, [] => by unfold putBack; rfl
  | .d x :: xs, [] => by unfold putBack; rfl
  | .fr x :: xs, [] => by unfold putBack; rfl
  | .d x :: xs, s :: ss => by unfold putBack; exact putBack_len ρ xs ss
  | .fr x :: xs, s :: ss => by unfold putBack; exact putBack_len ρ xs ss
  | .sl i :: xs, s :: ss => by
    unfold putBack
    split
    · rw [List.length_set, putBack_len ρ xs ss]
    · exact putBack_len ρ xs ss
/-- what stands at a slot behind a call -/
theorem putBack_get {ρ : DEnv} {i : Nat} : ∀ {xs : List Val} {ss : DEnv}, lentOnce xs = true → (putBack ρ xs ss)[i]? = ρ[i]? ∧ (∀ j : Nat, xs[j]? = some (.sl i) → ∀ c m c' m', ρ[i]? = some (.ow c m) → ss[j]? = some (.ow c' m') → False) ∨
    ∃ (j : Nat) (c : Cont) (m : Md) (c' : Cont) (m' : Md), xs[j]? = some (.sl i) ∧ ρ[i]? = some (.ow c m) ∧ ss[j]? = some (.ow c' m') ∧ (putBack ρ xs ss)[i]? = some (.ow c' m)
  | [], ss, _ => .inl ⟨by unfold putBack; rfl, fun j h => by simp at h⟩
  | x :: xs, [], _ => .inl ⟨by unfold putBack; cases x <;> rfl, fun j _ _ _ _ _ _ h => by simp at h⟩
  | .d x :: xs, s :: ss, h => by
    have ih := putBack_get (ρ := ρ) (i := i) (xs := xs) (ss := ss) h
    unfold putBack
    rcases ih with ⟨h1, h2⟩ | ⟨j, c, m, c', m', h1, h2⟩
    · exact .inl ⟨h1, fun j hj => by cases j with
        | zero => cases hj
        | succ j => exact fun c m c' m' q1 q2 => h2 j (by simpa using hj) c m c' m' q1 (by simpa using q2)⟩
    · exact .inr ⟨j + 1, c, m, c', m', by simpa using h1, by simpa using h2⟩
  | .fr x :: xs, s :: ss, h => by
    have ih := putBack_get (ρ := ρ) (i := i) (xs := xs) (ss := ss) h
    unfold putBack
    rcases ih with ⟨h1, h2⟩ | ⟨j, c, m, c', m', h1, h2⟩
    · exact .inl ⟨h1, fun j hj => by cases j with
        | zero => cases hj
        | succ j => exact fun c m c' m' q1 q2 => h2 j (by simpa using hj) c m c' m' q1 (by simpa using q2)⟩
    · exact .inr ⟨j + 1, c, m, c', m', by simpa using h1, by simpa using h2⟩
  | .sl k :: xs, s :: ss, h => by
    have h' : (xs.any fun y => match y with | .sl j => decide (k = j) | _ => false) = false ∧ lentOnce xs = true := by
      unfold lentOnce at h
      rw [Bool.and_eq_true] at h
      exact ⟨by have := h.1; rw [Bool.not_eq_true'] at this; exact this, h.2⟩
    have ih := putBack_get (ρ := ρ) (i := i) (xs := xs) (ss := ss) h'.2
    have nok : ∀ j : Nat, xs[j]? ≠ some (.sl k) := fun j hj => by
      have hm := List.mem_of_getElem? hj
      have := List.any_eq_false.mp h'.1 _ hm
      simp at this
    by_cases hk : k = i
    · subst hk
      have ih' : (putBack ρ xs ss)[k]? = ρ[k]? := by
        rcases ih with ⟨h1, _⟩ | ⟨j, c, m, c', m', h1, _⟩
        · exact h1
        · exact absurd h1 (nok j)
      have skip : (putBack ρ (.sl k :: xs) (s :: ss) = putBack ρ xs ss) → (∀ c m c' m', ρ[k]? = some (.ow c m) → s = .ow c' m' → False) → (putBack ρ (.sl k :: xs) (s :: ss))[k]? = ρ[k]? ∧ (∀ j : Nat, (Val.sl k :: xs)[j]? = some (.sl k) → ∀ c m c' m', ρ[k]? = some (.ow c m) → (s :: ss)[j]? = some (.ow c' m') → False) := fun e n => by
        rw [e]
        refine ⟨ih', fun j hj c m c' m' q1 q2 => ?_⟩
        cases j with
        | succ j => exact nok j (by simpa using hj)
        | zero => exact n c m c' m' q1 (by simpa using q2)
      cases hr : ρ[k]? with
      | none => rw [← hr]; exact .inl (skip (by simp only [putBack, hr]) fun c m c' m' z => by rw [hr] at z; cases z)
      | some sl =>
        cases sl with
        | un => rw [← hr]; exact .inl (skip (by simp only [putBack, hr]) fun c m c' m' z => by rw [hr] at z; cases z)
        | d x => rw [← hr]; exact .inl (skip (by simp only [putBack, hr]) fun c m c' m' z => by rw [hr] at z; cases z)
        | ow c m =>
          cases s with
          | un => rw [← hr]; exact .inl (skip (by simp only [putBack, hr]) fun c m c' m' _ z => by cases z)
          | d x => rw [← hr]; exact .inl (skip (by simp only [putBack, hr]) fun c m c' m' _ z => by cases z)
          | ow c' m' =>
            right
            have hl : k < ρ.length := (List.getElem?_eq_some_iff.mp hr).1
            exact ⟨0, c, m, c', m', rfl, rfl, rfl, by simp only [putBack, hr]; exact List.getElem?_set_self (by rw [putBack_len]; exact hl)⟩
    · have same : (putBack ρ (.sl k :: xs) (s :: ss))[i]? = (putBack ρ xs ss)[i]? := by
        cases hr : ρ[k]? with
        | none => simp only [putBack, hr]
        | some sl =>
          cases sl with
          | un => simp only [putBack, hr]
          | d x => simp only [putBack, hr]
          | ow c m =>
            cases s with
            | un => simp only [putBack, hr]
            | d x => simp only [putBack, hr]
            | ow c' m' =>
              simp only [putBack, hr]
              exact List.getElem?_set_ne hk
      rw [same]
      rcases ih with ⟨h1, h2⟩ | ⟨j, c, m, c', m', h1, h2⟩
      · exact .inl ⟨h1, fun j hj => by cases j with
          | zero => exact absurd (Val.sl.inj (Option.some.inj hj)) hk
          | succ j => exact fun c m c' m' q1 q2 => h2 j (by simpa using hj) c m c' m' q1 (by simpa using q2)⟩
      · exact .inr ⟨j + 1, c, m, c', m', by simpa using h1, by simpa using h2⟩
end DL
/-! DL13: calls of defs. -/
namespace DL
open PySem PySem.Spec PyProof.Rows L2
variable [TabT]
section
variable {K : PySem.W.Frag} {σ : L2.St} {ρ ρ0 as as' : DEnv} {F0 H0 F H F' H' : Hp} {vs : List V} {xs : List Val}
theorem argSlots_len : ∀ {xs : List Val} {as : DEnv}, argSlots ρ xs = some as → as.length = xs.length
  | [], as, h => by cases h; rfl
  | x :: xs, as, h => by
    unfold argSlots at h
    cases h1 : argSlot ρ x with
    | none => rw [h1] at h; cases h
    | some s =>
      cases h2 : argSlots ρ xs with
      | none => rw [h1, h2] at h; cases h
      | some ss => rw [h1, h2] at h; cases h; rw [List.length_cons, List.length_cons, argSlots_len h2]
theorem argSlots_get : ∀ {xs : List Val} {as : DEnv} {j : Nat} {s : Slot}, argSlots ρ xs = some as → as[j]? = some s → ∃ x, xs[j]? = some x ∧ argSlot ρ x = some s
  | [], as, j, s, h, e => by cases h; simp at e
  | x :: xs, as, j, s, h, e => by
    unfold argSlots at h
    cases h1 : argSlot ρ x with
    | none => rw [h1] at h; cases h
    | some t =>
      cases h2 : argSlots ρ xs with
      | none => rw [h1, h2] at h; cases h
      | some ss =>
        rw [h1, h2] at h; cases h
        cases j with
        | zero => exact ⟨x, rfl, by rw [h1]; simpa using e⟩
        | succ j =>
          obtain ⟨y, h3, h4⟩ := argSlots_get (j := j) h2 (by simpa using e)
          exact ⟨y, by simpa using h3, h4⟩
theorem argSlots_at {j : Nat} {x : Val} (h : argSlots ρ xs = some as) (e : xs[j]? = some x) : ∃ s, as[j]? = some s ∧ argSlot ρ x = some s := by
  have hj : j < as.length := by rw [argSlots_len h]; exact (List.getElem?_eq_some_iff.mp e).1
  obtain ⟨y, h1, h2⟩ := argSlots_get h (List.getElem?_eq_getElem hj)
  rw [e] at h1; cases h1
  exact ⟨_, List.getElem?_eq_getElem hj, h2⟩
/-- an argument's slot that owns -/
theorem argSlot_ow {x : Val} {c : Cont} {m : Md} (h : argSlot ρ x = some (.ow c m)) : (x = .fr c ∧ m = .own) ∨ ∃ i m0, x = .sl i ∧ ρ[i]? = some (.ow c m0) ∧ ((m0 = .own ∧ m = .bor) ∨ (m0 = m ∧ m ≠ .own)) := by
  cases x with
  | d d => cases h
  | fr c' => cases h; exact .inl ⟨rfl, rfl⟩
  | sl i =>
    unfold argSlot at h
    dsimp only at h
    cases hr : ρ[i]? with
    | none => rw [hr] at h; cases h
    | some s =>
      rw [hr] at h
      cases s with
      | un => cases h
      | d x => cases h
      | ow c' m' =>
        cases m' with
        | own => cases h; exact .inr ⟨i, .own, rfl, hr, .inl ⟨rfl, rfl⟩⟩
        | bor => cases h; exact .inr ⟨i, .bor, rfl, hr, .inr ⟨rfl, by decide⟩⟩
        | lck => cases h; exact .inr ⟨i, .lck, rfl, hr, .inr ⟨rfl, by decide⟩⟩
theorem lent_inj : ∀ {xs : List Val} {j k i : Nat}, lentOnce xs = true → xs[j]? = some (.sl i) → xs[k]? = some (.sl i) → j = k
  | [], j, k, i, _, e, _ => by simp at e
  | .d x :: xs, j, k, i, h, e1, e2 => by
    cases j with
    | zero => cases e1
    | succ j => cases k with
      | zero => cases e2
      | succ k => exact congrArg (· + 1) (lent_inj (xs := xs) h (by simpa using e1) (by simpa using e2))
  | .fr x :: xs, j, k, i, h, e1, e2 => by
    cases j with
    | zero => cases e1
    | succ j => cases k with
      | zero => cases e2
      | succ k => exact congrArg (· + 1) (lent_inj (xs := xs) h (by simpa using e1) (by simpa using e2))
  | .sl l :: xs, j, k, i, h, e1, e2 => by
    unfold lentOnce at h
    rw [Bool.and_eq_true, Bool.not_eq_true'] at h
    have no : ∀ n : Nat, xs[n]? = some (.sl l) → False := fun n hn => by
      have := List.any_eq_false.mp h.1 _ (List.mem_of_getElem? hn)
      simp at this
    cases j with
    | zero =>
      cases e1
      cases k with
      | zero => rfl
      | succ k => exact (no k (by simpa using e2)).elim
    | succ j =>
      cases k with
      | zero => cases e2; exact (no j (by simpa using e1)).elim
      | succ k => exact congrArg (· + 1) (lent_inj (xs := xs) h.2 (by simpa using e1) (by simpa using e2))
theorem paired_at {α β : Type} {G : α → β → Prop} : ∀ {l : List α} {m : List β} {i : Nat} {y : β}, Paired G l m → m[i]? = some y → ∃ x, l[i]? = some x ∧ G x y
  | _, _, _, _, .nil, e => by simp at e
  | _, _, 0, _, .cons a b, e => by simp at e; subst e; exact ⟨_, rfl, a⟩
  | _, _, i + 1, _, .cons a b, e => by
    obtain ⟨x, h1, h2⟩ := paired_at (i := i) b (by simpa using e)
    exact ⟨x, by simpa using h1, h2⟩
/-- who owns an argument's object -/
theorem arg_owner {j : Nat} {c : Cont} {m : Md} {a : Addr} (rl : VRL K σ H0 F H ρ vs xs) (h : argSlots ρ xs = some as) (e1 : as[j]? = some (.ow c m)) (e2 : (vs.map some)[j]? = some (some (.ref a))) :
    (xs[j]? = some (.fr c) ∧ vs[j]? = some (.ref a) ∧ m = .own ∧ H0 a = none ∧ F a = none ∧ CRep K F H a c ∧ ¬ Ow σ ρ a) ∨ ∃ i m0, xs[j]? = some (.sl i) ∧ ρ[i]? = some (.ow c m0) ∧ σ[i]? = some (some (.ref a)) ∧ ((m0 = .own ∧ m = .bor) ∨ (m0 = m ∧ m ≠ .own)) := by
  obtain ⟨x, h1, h2⟩ := argSlots_get h e1
  obtain ⟨v, h3, h4⟩ := paired_at rl.all h1
  rw [List.getElem?_map, h3] at e2
  have e2 : v = .ref a := by cases e2; rfl
  subst e2
  rcases argSlot_ow h2 with ⟨rfl, hm⟩ | ⟨i, m0, rfl, h5, h6⟩
  · obtain ⟨p, z, nb, nF, cr, no⟩ := h4
    cases z
    exact .inl ⟨h1, h3, hm, nb, nF, cr, no⟩
  · exact .inr ⟨i, m0, h1, h5, h4, h6⟩
theorem args_sr (sr : SR K F H σ ρ) (rl : VRL K σ H0 F H ρ vs xs) (h : argSlots ρ xs = some as) (hl : lentOnce xs = true) : SR K F H (vs.map some) as := by
  have len : vs.length = as.length := by rw [argSlots_len h]; exact rl.all.length
  refine ⟨by rw [List.length_map]; exact len, sr.sub, fun j s e => ?_, fun j k c m c' m' a e1 e2 e3 e4 => ?_, sr.tab⟩
  · obtain ⟨x, h1, h2⟩ := argSlots_get h e
    obtain ⟨v, h3, h4⟩ := paired_at rl.all h1
    refine ⟨some v, by rw [List.getElem?_map, h3]; rfl, ?_⟩
    cases x with
    | d d => cases h2; exact ⟨v, rfl, h4⟩
    | fr c =>
      cases h2
      obtain ⟨p, rfl, _, nF, cr, _⟩ := h4
      exact ⟨p, rfl, nF, cr⟩
    | sl i =>
      have h4 : σ[i]? = some (some v) := h4
      unfold argSlot at h2
      dsimp only at h2
      cases hr : ρ[i]? with
      | none => rw [hr] at h2; cases h2
      | some t =>
        rw [hr] at h2
        obtain ⟨ov, g1, g2⟩ := sr.slot i t hr
        rw [h4] at g1; cases g1
        cases t with
        | un => cases h2
        | d d => cases h2; exact g2
        | ow c m => cases m <;> (cases h2; exact g2)
  · rcases arg_owner rl h e1 e3 with ⟨q1, q2, _, _, _, _, q3⟩ | ⟨i, m0, q1, q2, q3, _⟩ <;> rcases arg_owner rl h e2 e4 with ⟨r1, r2, _, _, _, _, r3⟩ | ⟨i', m1, r1, r2, r3, _⟩
    · exact rl.frs j k c c' a q1 r1 q2 r2
    · exact absurd ⟨i', _, _, r2, r3⟩ q3
    · exact absurd ⟨i, _, _, q2, q3⟩ r3
    · have := sr.dist i i' _ _ _ _ a q2 r2 q3 r3
      subst this
      exact lent_inj hl q1 r1
/-- behind the call -/
theorem back_ok (sr : SR K F H σ ρ) (ev : Ev σ ρ0 F0 H0 σ ρ F H) (rl : VRL K σ H0 F H ρ vs xs) (h : argSlots ρ xs = some as) (hl : lentOnce xs = true) (s' : SR K F' H' (vs.map some) as') (ev' : Ev (vs.map some) as F H (vs.map some) as' F' H') :
    SR K F' H' σ (putBack ρ xs as') ∧ Ev σ ρ0 F0 H0 σ (putBack ρ xs as') F' H' := by
  -- a lent slot i, behind the call
  have lent : ∀ {j i : Nat} {c : Cont} {m : Md}, xs[j]? = some (.sl i) → ρ[i]? = some (.ow c m) → ∃ c' m', as'[j]? = some (.ow c' m') ∧ (m = .lck → c' = c) := fun {j i c m} h1 h2 => by
    obtain ⟨s, h3, h4⟩ := argSlots_at h h1
    unfold argSlot at h4
    dsimp only at h4
    rw [h2] at h4
    cases m with
    | own => cases h4; obtain ⟨_, c', b, _⟩ := ev'.bor j c .bor h3 (by decide); exact ⟨c', _, b, fun z => by cases z⟩
    | bor => cases h4; obtain ⟨_, c', b, _⟩ := ev'.bor j c .bor h3 (by decide); exact ⟨c', _, b, fun z => by cases z⟩
    | lck => cases h4; obtain ⟨_, c', b, b2⟩ := ev'.bor j c .lck h3 (by decide); exact ⟨c', _, b, b2⟩
  have look : ∀ (i : Nat), ((putBack ρ xs as')[i]? = ρ[i]? ∧ ∀ (j : Nat) (c : Cont) (m : Md), xs[j]? = some (.sl i) → ρ[i]? = some (.ow c m) → False) ∨ ∃ (j : Nat) (c : Cont) (m : Md) (c' : Cont) (m' : Md), xs[j]? = some (.sl i) ∧ ρ[i]? = some (.ow c m) ∧ as'[j]? = some (.ow c' m') ∧ (putBack ρ xs as')[i]? = some (.ow c' m) := fun i => by
    rcases putBack_get (ρ := ρ) (i := i) (xs := xs) (ss := as') hl with ⟨h1, h2⟩ | h1
    · left
      refine ⟨h1, fun j c m q1 q2 => ?_⟩
      obtain ⟨c', m', b, _⟩ := lent q1 q2
      exact h2 j q1 c m c' m' q2 b
    · exact .inr h1
  have vj : ∀ {j i : Nat} {a : Addr}, xs[j]? = some (.sl i) → σ[i]? = some (some (.ref a)) → (vs.map some)[j]? = some (some (.ref a)) := fun {j i a} h1 h2 => by
    obtain ⟨v, h3, h4⟩ := paired_at rl.all h1
    have h4 : σ[i]? = some (some v) := h4
    rw [h2] at h4; cases h4
    rw [List.getElem?_map, h3]; rfl
  have owB : ∀ {a : Addr}, Ow σ (putBack ρ xs as') a → Ow σ ρ a := fun {a} ⟨i, c, m, e1, e2⟩ => by
    rcases look i with ⟨h1, _⟩ | ⟨j, c1, m1, c', m', h1, h2, h3, h4⟩
    · rw [h1] at e1; exact ⟨i, c, m, e1, e2⟩
    · exact ⟨i, c1, m1, h2, e2⟩
  have mtB : ∀ {a : Addr}, Mt σ (putBack ρ xs as') a → Mt σ ρ a := fun {a} ⟨i, c, m, e1, n, e2⟩ => by
    rcases look i with ⟨h1, _⟩ | ⟨j, c1, m1, c', m', h1, h2, h3, h4⟩
    · rw [h1] at e1; exact ⟨i, c, m, e1, n, e2⟩
    · rw [h4] at e1; cases e1; exact ⟨i, c1, m, h2, n, e2⟩
  -- an object that no argument lends is as it was
  have stay : ∀ {i : Nat} {c : Cont} {m : Md} {a : Addr}, ρ[i]? = some (.ow c m) → σ[i]? = some (some (.ref a)) → (∀ (j : Nat), xs[j]? = some (.sl i) → False) → F a = none → CRep K F H a c → F' a = none ∧ CRep K F' H' a c := fun {i c m a} e1 e2 no nF cr => by
    obtain ⟨o, ho⟩ := cr.some
    have nOw : ¬ Ow (vs.map some) as a := fun ⟨j, c1, m1, q1, q2⟩ => by
      rcases arg_owner rl h q1 q2 with ⟨_, _, _, _, _, _, z⟩ | ⟨i', m0, z1, z2, z3, _⟩
      · exact z ⟨i, c, m, e1, e2⟩
      · have := sr.dist i i' _ _ _ _ a e1 z2 e2 z3
        subst this
        exact no j z1
    refine ⟨?_, cr.mono (.of ev'.ext) ((ev'.keep a o ho (fun z => nOw z.ow) (CRep.nt ho cr)).trans ho.symm)⟩
    cases hF : F' a with
    | none => rfl
    | some u =>
      rcases ev'.newF a nF (by rw [hF]; simp) with z | z
      · rw [ho] at z; cases z
      · exact absurd z nOw
  refine ⟨⟨by rw [putBack_len]; exact sr.len, s'.sub, fun i s e => ?_, fun i j c m c' m' a e1 e2 e3 e4 => ?_, s'.tab⟩, ⟨ev.ext.trans ev'.ext, fun a o e n nt => ?_, fun a e n => ?_, fun a e => ev'.dom a (ev.dom a e), fun i c m e n => ?_, fun a z => ev.own' a (owB z), fun a z => ev.mt' a (mtB z)⟩⟩
  · rcases look i with ⟨h1, h2⟩ | ⟨j, c1, m1, c', m', h1, h2, h3, h4⟩
    · rw [h1] at e
      obtain ⟨ov, g1, g2⟩ := sr.slot i s e
      refine ⟨ov, g1, ?_⟩
      cases s with
      | un => trivial
      | d x => obtain ⟨v, q, r⟩ := g2; exact ⟨v, q, r.mono (.of ev'.ext)⟩
      | ow c m =>
        obtain ⟨a, q, nF, cr⟩ := g2
        subst q
        obtain ⟨z1, z2⟩ := stay e g1 (fun j hj => h2 j c m hj e) nF cr
        exact ⟨a, rfl, z1, z2⟩
    · rw [h4] at e
      cases e
      obtain ⟨ov, g1, a, g2, _⟩ := sr.slot i _ h2
      subst g2
      obtain ⟨ov', w1, a', w2, w3, w4⟩ := s'.slot j _ h3
      subst w2
      rw [vj h1 g1] at w1
      cases w1
      exact ⟨_, g1, a, rfl, w3, w4⟩
  · have o1 : ∀ {i : Nat} {c : Cont} {m : Md}, (putBack ρ xs as')[i]? = some (.ow c m) → ∃ c1 m1, ρ[i]? = some (.ow c1 m1) := fun {i c m} e => by
      rcases look i with ⟨h1, _⟩ | ⟨j, c1, m1, c', m', h1, h2, h3, h4⟩
      · rw [h1] at e; exact ⟨c, m, e⟩
      · exact ⟨c1, m1, h2⟩
    obtain ⟨c1, m1, q1⟩ := o1 e1
    obtain ⟨c2, m2, q2⟩ := o1 e2
    exact sr.dist i j c1 m1 c2 m2 a q1 q2 e3 e4
  · refine ev'.keep a o (ev.keep a o e n nt) (fun ⟨j, c, m, q1, nm, q2⟩ => ?_) nt
    rcases arg_owner rl h q1 q2 with ⟨_, _, _, z, _⟩ | ⟨i, m0, z1, z2, z3, z4⟩
    · rw [e] at z; cases z
    · have hm : m0 ≠ .lck := by
        rcases z4 with ⟨rfl, _⟩ | ⟨rfl, _⟩
        · decide
        · exact nm
      rcases ev.mt' a ⟨i, c, m0, z2, hm, z3⟩ with z | z
      · rw [e] at z; cases z
      · exact n z
  · by_cases hF : F a = none
    · rcases ev'.newF a hF n with z | ⟨j, c, m, q1, q2⟩
      · cases hH : H0 a with
        | none => exact .inl rfl
        | some o => exact absurd z (ev.dom a (by rw [hH]; simp))
      · rcases arg_owner rl h q1 q2 with ⟨_, _, _, z, _⟩ | ⟨i, m0, z1, z2, z3, z4⟩
        · exact .inl z
        · exact ev.own' a ⟨i, c, m0, z2, z3⟩
    · exact ev.newF a e hF
  · obtain ⟨b1, c1, b2, b3⟩ := ev.bor i c m e n
    refine ⟨rfl, ?_⟩
    rcases look i with ⟨h1, _⟩ | ⟨j, c2, m2, c', m', h1, h2, h3, h4⟩
    · exact ⟨c1, by rw [h1]; exact b2, b3⟩
    · rw [b2] at h2
      cases h2
      obtain ⟨c3, m3, q1, q2⟩ := lent h1 b2
      rw [h3] at q1
      cases q1
      exact ⟨c', h4, fun z => (q2 z).trans (b3 z)⟩
end
section
variable {Γ : Around → Prop} {X : Cx} {W : WX} {e : Expr} {es : List Expr} {g : M (List Val)} {pos p : Pos} {x : Str} {k : Nat} {f : Addr} {fd : FuncData} {ps : List Str} {Fm : FM}
/-- the callee's promise, at a state of the caller -/
theorem call_ok {σ : L2.St} {ρ0 : DEnv} {F0 H0 F H : Hp} {ρ : DEnv} {vs : List V} {xs : List Val} {Q : VK} {E : XK} (sr : SR X.K F H σ ρ) (ev : Ev σ ρ0 F0 H0 σ ρ F H) (rl : VRL X.K σ H0 F H ρ vs xs) (hn : xs.length = ps.length)
    (h : Out X.K X.mg E (relV X.K σ) σ ρ0 F0 H0 (callF Fm xs ρ) Q) : spD X.K X.mg ps.length Fm vs H Q E := by
  unfold callF at h
  cases ha : argSlots ρ xs with
  | none => rw [ha] at h; exact h.elim
  | some as =>
    rw [ha] at h
    dsimp only at h
    split at h
    · rename_i hl
      refine ⟨F, as, args_sr sr rl ha hl, by rw [argSlots_len ha]; exact hn, ?_⟩
      cases hf : Fm as with
      | bad => rw [hf] at h; exact h.elim
      | ex x as' =>
        rw [hf] at h
        exact fun c d F' H' s' ev' r => let ⟨s2, ev2⟩ := back_ok sr ev rl ha hl s' ev'; h c d F' H' s2 ev2 r
      | ret x as' =>
        rw [hf] at h
        refine fun v F' H' s' ev' r => let ⟨s2, ev2⟩ := back_ok sr ev rl ha hl s' ev'; h v F' H' s2 ev2 ?_
        cases x with
        | d d => exact r
        | sl i => exact r.elim
        | fr c =>
          obtain ⟨q, rfl, hnew, nF, cr, no⟩ := r
          have new : H0 q = none ∧ ¬ Ow σ ρ q := by
            rcases hnew with z | ⟨j, c0, z1, z2⟩
            · refine ⟨?_, fun ⟨i, c', m', w1, w2⟩ => ?_⟩
              · cases hH : H0 q with
                | none => rfl
                | some o => exact absurd z (ev.dom q (by rw [hH]; simp))
              · obtain ⟨ov, g1, a, g2, _, g4⟩ := sr.slot i _ w1
                rw [w2] at g1; cases g1; cases g2
                obtain ⟨o, ho⟩ := g4.some
                rw [z] at ho; cases ho
            · rcases arg_owner rl ha z1 z2 with ⟨_, _, _, w, _, _, w2⟩ | ⟨i, m0, _, _, _, w | w⟩
              · exact ⟨w, w2⟩
              · cases w.2
              · exact absurd rfl w.2
          refine ⟨q, rfl, new.1, nF, cr, fun ⟨i, c', m', w1, w2⟩ => new.2 ?_⟩
          rcases putBack_get (ρ := ρ) (i := i) (xs := xs) (ss := as') hl with ⟨h1, _⟩ | ⟨j, c1, m1, c2, m2, h1, h2, h3, h4⟩
          · rw [h1] at w1; exact ⟨i, c', m', w1, w2⟩
          · exact ⟨i, c1, m1, h2, w2⟩
    · exact h.elim
theorem run_gfn {pins : List (Addr × Obj)} {σ : L2.St} {H : Hp} {s : Shared} {Q : VK} {args : Args} {us : List Value} {vs : List V} {E : XK} (G : GFnG Γ X.prog X.w X.K X.mg X.base k f fd ps Fm) (hr : Room k X.A) (hG : Γ X.A) (tk : Takes X W) (hW : ∀ cls d H, E cls d H → W cls d σ H) (I : Inv X pins σ H s) (hb : BindsTo s fd args (ps.zip us)) (r : Vals vs us) (h : spD X.K X.mg ps.length Fm vs H Q E) :
    codeAny (model X.prog X.w) X.A (.call (.ref f) args) (fun r s' => match r with | .ok (.ret u) => EP X pins σ Q u s' | .ok _ => False | .error e => X.xe e s') s := by
  refine codeAny_mono (G.run X.A X.stack s H args us vs Q E hr hG I.env0 hb r h) fun r s' hq => ?_
  cases r with
  | error e => exact tk e s' (XE.of_call I (fun cls d H' h => hW cls d H' h) hq)
  | ok fl =>
    cases fl with
    | ret u => exact I.after hq
    | next => exact hq
    | brk => exact hq
    | cont => exact hq
/-- f(e, ..), every parameter given by its place -/
theorem de_call (G : GFnG Γ X.prog X.w X.K X.mg X.base k f fd ps Fm) (hr : Room k X.A) (hG : Γ X.A) (tk : Takes X W) (hg : Gl X x) (hm : X.mg x = some (.ref f)) (hk : PySem.W.keepIn X.K (.ref f) = true) (hb : Binds X.K fd ps []) (ha : DA X W (e :: es) g) (hn : ∀ ρ xs ρ', g ρ = .ok xs ρ' → xs.length = ps.length)
    (hdb : (x == ("__debug__" : Str)) = false := by decide) (he : starEach (e :: es) X.env = (false, eval e X.env) :: starEach es X.env := by rfl) (hpl : (backTo pos (starEach es X.env)).any (·.1) = false := by rfl) : DE X W (.Call (.Name x p) (e :: es) [] pos) (eCall Fm g) := by
  refine ⟨fun pins s σ H Q I hq => ?_⟩
  obtain ⟨F, ρ, sr, q⟩ := hq
  refine wpAny_Call_Name_kw (ld_glob I hg hm (PySem.W.callWith_K (h₀ := X.base) I.ok.mod.kin hk (thn (ha.run pos pins s σ H _ I ⟨F, ρ, sr, Out.bind (rel := relL X.K σ) q⟩) fun us s1 ⟨vs, H1, I1, r, xs, F1, ρ1, e1, s2, ev1, r1, o1⟩ => ⟨I1.kIn, wpAny_call ?_⟩) he hpl) hdb)
  have hl : xs.length = ps.length := hn _ _ _ e1
  have hu : us.length = ps.length := by rw [← r.length, r1.all.length, hl]
  have hb' : BindsTo s1 fd ⟨us, []⟩ (ps.zip us) := by
    have := hb s1 us I1.kIn (by rw [List.append_nil]; exact hu)
    rw [List.append_nil] at this
    exact this
  exact run_gfn G hr hG tk (fun _ _ _ h => h) I1 hb' r (call_ok s2 ev1 r1 hl o1)
/-! ### keywords -/
def DK (X : Cx) (W : WX) (kws : List Keyword) (g : M (List Val)) : Prop := PK X kws (tA X.K X.mg W g)
theorem pk_conseq {kws : List Keyword} {t t' : TA} (h : PK X kws t) (c : ∀ σ H Q, t' σ H Q → t σ H Q) : PK X kws t' := ⟨fun pos pins s σ H Q I q => h.run pos pins s σ H Q I (c _ _ _ q)⟩
theorem dk_nil : DK X W [] aNil := pk_conseq pk_nil fun σ H Q hq => by
  obtain ⟨F, ρ, sr, q⟩ := hq
  exact q [] F H sr .refl ⟨.nil, fun i j c c' p h => by simp at h⟩
theorem dk_cons {f : EM} {nm : Option Str} {kpos : Pos} {kws : List Keyword} (ha : DE X W e f) (hb : DK X W kws g) : DK X W (⟨nm, e, kpos⟩ :: kws) (aCons f g) := pk_conseq (pk_cons ha hb) fun σ H Q hq => aCons_read hq
/-- the values by the parameters' places -/
def selL {α : Type} (idx : List Nat) (xs : List α) : Option (List α) := match idx with
  | [] => some []
  | i :: is => match xs[i]?, selL is xs with
    | some x, some ys => some (x :: ys)
    | _, _ => none
theorem selL_paired {α β : Type} {G : α → β → Prop} : ∀ {idx : List Nat} {l : List α} {m : List β} {ys : List β}, Paired G l m → selL idx m = some ys → ∃ zs, selL idx l = some zs ∧ Paired G zs ys
  | [], l, m, ys, p, h => by cases h; exact ⟨[], rfl, .nil⟩
  | i :: is, l, m, ys, p, h => by
    unfold selL at h
    cases h1 : m[i]? with
    | none => rw [h1] at h; cases h
    | some x =>
      cases h2 : selL is m with
      | none => rw [h1, h2] at h; cases h
      | some ws =>
        rw [h1, h2] at h; cases h
        obtain ⟨a, h3, h4⟩ := paired_at p h1
        obtain ⟨zs, h5, h6⟩ := selL_paired p h2
        exact ⟨a :: zs, by unfold selL; rw [h3, h5], .cons h4 h6⟩
def eCallK (idx : List Nat) (Fm : FM) (g gk : M (List Val)) : EM := fun ρ => (g ρ).bind fun xs ρ1 => (gk ρ1).bind fun ys ρ2 => match selL idx (xs ++ ys) with
  | some zs => callF Fm zs ρ2
  | none => .bad
end
end DL
/-! DL14: the law's end. -/
namespace DL
open PySem PySem.Spec PyProof.Rows L2
end DL
/-! DL15: repr of data, sorted(set(..)), len(set(..)), list(range(..)). -/
namespace DL
open PySem PySem.Spec PyProof.Rows L2
end DL
/-! DL16: repr of data, sorted(set(..)), len(set(..)), list(range(..)), names of rules. -/
namespace DL
open PySem PySem.Spec PyProof.Rows L2
variable [TabT]
theorem hu1_of {k : Nat} {A : Around} (r : Room k A) : A.units + 1 < cLine := by have := r.un; omega
section
variable {X : Cx}
theorem CR_len : CallR X (.builtin "len") (fun xs H Q => (∃ p ys, xs = [.ref p] ∧ (SqL X.K H p ys ∨ SqT X.K H p ys) ∧ Q (.int ys.length) H) ∨ ∃ x n, xs = [x] ∧ LenV X.K x H n ∧ Q (.int n) H) := callr_or call_len_seq call_len
theorem CR_max (hc : X.calm = true := by rfl) : CallR X (.builtin "max") (fun xs H Q => (∃ i j, xs = [.int i, .int j] ∧ Q (.int (if j > i then j else i)) H) ∨ rMax X.K xs H Q) := callr_or (call_max2 hc) (cr_max hc)
theorem CR_min (hc : X.calm = true := by rfl) : CallR X (.builtin "min") (fun xs H Q => (∃ i j, xs = [.int i, .int j] ∧ Q (.int (if j < i then j else i)) H) ∨ rMin X.K xs H Q) := callr_or (call_min2 hc) (cr_min hc)
end
/-! ### repr -/
def reprD1 (a : D) : Option Val := match a.toPy with
  | some p => if p.showable = true ∧ p.hasDict = false ∧ p.depth ≤ 60 ∧ p.shown.length ≤ sizeLine then some (.d (.str p.shown)) else none
  | none => none
def reprD : List D → Option Val
  | [.tup xs] => reprD1 (.tup xs)
  | [.lst xs] => reprD1 (.lst xs)
  | [.int i] => if i.natAbs.log2 < 1920 then some (.d (.str (toString i))) else none
  | _ => none
def rReprD (K : PySem.W.Frag) : List V → Hp → VK → Prop := fun xs H Q => ∃ a p, xs = [.ref a] ∧ Dp K H (.ref a) p ∧ p.showable = true ∧ p.hasDict = false ∧ p.depth ≤ 60 ∧ p.shown.length ≤ sizeLine ∧ Q (.str p.shown) H
section
variable {X : Cx}
theorem call_repr_data (hG : X.A.guards = some []) (hu : X.A.units + 64 < cLine) : CallR X (.builtin "repr") (rReprD X.K) := by
  intro pins s σ H xs us Q I r h
  obtain ⟨a, p, rfl, dp, h1, h2, h3, h4, q⟩ := h
  rw [Vals.ref1 r]
  obtain ⟨as, rd⟩ := Dp.reads I p _ _ dp rfl
  exact PySem.repr_of_reads' rd h1 (fun e => by rw [h2] at e; cases e) hG (by omega) (fun _ _ e => e) (fun h' u tk k => ⟨.str p.shown, H, I.kept k, ⟨u, rfl⟩, q⟩) h4
theorem CR_repr (hG : X.A.guards = some []) (hu : X.A.units + 64 < cLine) : CallR X (.builtin "repr") (fun xs H Q => rReprD X.K xs H Q ∨ ∃ i, xs = [.int i] ∧ i.natAbs.log2 < 1920 ∧ Q (.str (toString i)) H) := callr_or (call_repr_data hG hu) SkE.call_repr_int
end
section
variable {K : PySem.W.Frag}
theorem reprD1_ok {F H : Hp} {v : V} {a : D} {z : Val} {Q : VK} (s : Same F H) (r : RepT K F H v a) (hv : ∃ p, v = .ref p) (e : reprD1 a = some z) (q : ∀ u F' H', Gr F H F' H' → VN K H F' H' u z → Q u H') : rReprD K [v] H Q := by
  unfold reprD1 at e
  split at e
  · rename_i p hp
    split at e
    · rename_i c
      cases e
      obtain ⟨a, rfl⟩ := hv
      exact ⟨a, p, rfl, (r.rep (toPy_nd hp) s).dp hp, c.1, c.2.1, c.2.2.1, c.2.2.2, vn_str s q⟩
    · cases e
  · cases e
theorem cs_repr : CallS K (fun xs H Q => rReprD K xs H Q ∨ ∃ i, xs = [.int i] ∧ i.natAbs.log2 < 1920 ∧ Q (.str (toString i)) H) reprD := by
  intro F H vs as z Q s ra e q
  unfold reprD at e
  split at e
  · obtain ⟨v, rfl, r⟩ := rep1 ra
    obtain ⟨p, xs, rfl, _⟩ := r.tup s
    exact .inl (reprD1_ok s r ⟨p, rfl⟩ e q)
  · obtain ⟨v, rfl, r⟩ := rep1 ra
    obtain ⟨p, xs, rfl, _⟩ := r.lst
    exact .inl (reprD1_ok s r ⟨p, rfl⟩ e q)
  · obtain ⟨v, rfl, r⟩ := rep1 ra
    obtain rfl := r.int
    split at e
    · rename_i h
      cases e
      exact .inr ⟨_, rfl, h, vn_str s q⟩
    · cases e
  · cases e
end
/-! ### sorted(set(..)) -/
/-- the ints, ascending, each once -/
def insI (k : Int) : List Int → List Int
  | [] => [k]
  | x :: xs => if k < x then k :: x :: xs else if k = x then x :: xs else x :: insI k xs
def sortSetI : List Int → List Int
  | [] => []
  | k :: ks => insI k (sortSetI ks)
theorem mem_insI {k y : Int} : ∀ {xs : List Int}, y ∈ insI k xs ↔ y = k ∨ y ∈ xs
  | [] => by simp [insI]
  | x :: xs => by
    unfold insI
    split
    · simp
    · split
      · rename_i h; subst h; simp
      · rw [List.mem_cons, mem_insI, List.mem_cons]
        constructor
        · rintro (h | h | h)
          · exact .inr (.inl h)
          · exact .inl h
          · exact .inr (.inr h)
        · rintro (h | h | h)
          · exact .inr (.inl h)
          · exact .inl h
          · exact .inr (.inr h)
theorem mem_sortSetI {y : Int} : ∀ {xs : List Int}, y ∈ sortSetI xs ↔ y ∈ xs
  | [] => by simp [sortSetI]
  | x :: xs => by unfold sortSetI; rw [mem_insI, mem_sortSetI, List.mem_cons]
theorem insI_pw {k : Int} : ∀ {xs : List Int}, xs.Pairwise (· < ·) → (insI k xs).Pairwise (· < ·)
  | [], _ => List.pairwise_singleton _ _
  | x :: xs, h => by
    obtain ⟨h1, h2⟩ := List.pairwise_cons.mp h
    unfold insI
    split
    · rename_i hk
      refine List.pairwise_cons.mpr ⟨fun y hy => ?_, h⟩
      rcases List.mem_cons.mp hy with rfl | z
      · exact hk
      · have := h1 y z; omega
    · split
      · exact h
      · refine List.pairwise_cons.mpr ⟨fun y hy => ?_, insI_pw h2⟩
        rcases mem_insI.mp hy with rfl | z
        · omega
        · exact h1 y z
theorem sortSetI_pw : ∀ (xs : List Int), (sortSetI xs).Pairwise (· < ·)
  | [] => .nil
  | x :: xs => insI_pw (sortSetI_pw xs)
section
variable {X : Cx}
variable {E : WX} {a : Expr} {f : EM} {pos p p2 q : Pos}
def setI (x : D) : Option (List Int) := match x with
  | .lst ds => match intsD ds with
    | some ns => if ns.length < 4000 then some ns else none
    | none => none
  | _ => none
def eSortSet (f : EM) : EM := eUn (fun x => (setI x).map fun ns => .fr (.lst ((sortSetI ns).map D.int))) f
/-! ### len(set(..)) -/
def eLenSet (f : EM) : EM := eUn (fun x => (setI x).map fun ns => .d (.int ((sortSetI ns).length : Nat))) f
/-! ### list(range(..)), tuple(range(..)) -/
def rgL (i j : Int) : List D := (List.range (j - i).toNat).map fun k => D.int (i + (k : Nat))
def rgIn (i j : Int) : Bool := decide (-1000000000000000000 ≤ i ∧ i ≤ 1000000000000000000 ∧ -1000000000000000000 ≤ j ∧ j ≤ 1000000000000000000 ∧ (j - i).toNat ≤ 10000000)
def lrgD : D → D → Option Val
  | .int i, .int j => if rgIn i j = true then some (.fr (.lst (rgL i j))) else none
  | _, _ => none
def trgD : D → D → Option Val
  | .int i, .int j => if rgIn i j = true then some (.d (.tup (rgL i j))) else none
  | _, _ => none
variable {b : Expr} {g : EM}
end
end DL
/-! DL17: reading the semantic functions: what they give, step by step. -/
namespace DL
open PySem PySem.Spec PyProof.Rows L2
/-- no tables: for facts in which they play no part -/
instance (priority := low) tabNone : TabT := { mg := fun _ => none, T := [], FB := fun _ => none }
section
variable {α β : Type}
def R.wp (r : R α) (Q : α → DEnv → Prop) (X : Ex → DEnv → Prop) : Prop := match r with
  | .ok a ρ => Q a ρ
  | .ex x ρ => X x ρ
  | .bad => False
structure Po where
  nx : DEnv → Prop
  rt : Val → DEnv → Prop
  bk : DEnv → Prop := fun _ => False
  ct : DEnv → Prop := fun _ => False
  ex : Ex → DEnv → Prop := fun _ _ => False
def RS.wp (r : RS) (P : Po) : Prop := match r with
  | .nx ρ => P.nx ρ
  | .rt x ρ => P.rt x ρ
  | .bk ρ => P.bk ρ
  | .ct ρ => P.ct ρ
  | .ex x ρ => P.ex x ρ
  | .bad => False
def RF.wp (r : RF) (Q : Val → DEnv → Prop) (X : Ex → DEnv → Prop) : Prop := match r with
  | .ret x as => Q x as
  | .ex x as => X x as
  | .bad => False
theorem RF.wp_ret {r : RF} {Q : Val → DEnv → Prop} (h : r.wp Q fun _ _ => False) : ∃ x as, r = .ret x as ∧ Q x as := by
  cases r with
  | ret x as => exact ⟨x, as, rfl, h⟩
  | ex x as => exact h.elim
  | bad => exact h.elim
theorem RF.wp_mono {r : RF} {Q Q' : Val → DEnv → Prop} {X X' : Ex → DEnv → Prop} (h : r.wp Q X) (hq : ∀ x as, Q x as → Q' x as) (hx : ∀ x as, X x as → X' x as) : r.wp Q' X' := by
  cases r with
  | ret x as => exact hq _ _ h
  | ex x as => exact hx _ _ h
  | bad => exact h.elim
theorem R.wp_mono {r : R α} {Q Q' : α → DEnv → Prop} {X X' : Ex → DEnv → Prop} (h : r.wp Q X) (hq : ∀ x as, Q x as → Q' x as) (hx : ∀ x as, X x as → X' x as) : r.wp Q' X' := by
  cases r with
  | ok x as => exact hq _ _ h
  | ex x as => exact hx _ _ h
  | bad => exact h.elim
theorem b_bind {r : R α} {g : α → DEnv → R β} {Q : β → DEnv → Prop} {X : Ex → DEnv → Prop} (h : r.wp (fun a ρ => (g a ρ).wp Q X) X) : (r.bind g).wp Q X := by cases r <;> exact h
theorem b_bindS {r : R α} {g : α → DEnv → RS} {P : Po} (h : r.wp (fun a ρ => (g a ρ).wp P) P.ex) : (r.bindS g).wp P := by cases r <;> exact h
theorem b_ok {a : α} {ρ : DEnv} {Q : α → DEnv → Prop} {X : Ex → DEnv → Prop} (h : Q a ρ) : (R.ok a ρ).wp Q X := h
end
section
variable {ρ ρ' as : DEnv} {i : Nat} {x y : Val} {d a b : D} {c : Cont} {m : Md} {f g h : EM} {t u : M Bool} {op : D → D → Option Val} {Q : Val → DEnv → Prop} {QB : Bool → DEnv → Prop} {QL : List Val → DEnv → Prop} {X : Ex → DEnv → Prop} {P : Po} {s : SM} {gl : M (List Val)}
theorem b_var_d (e : ρ[i]? = some (.d d)) (q : Q (.d d) ρ) : (eVar i ρ).wp Q X := by unfold eVar; rw [e]; exact q
theorem b_var_o (e : ρ[i]? = some (.ow c m)) (q : Q (.sl i) ρ) : (eVar i ρ).wp Q X := by unfold eVar; rw [e]; exact q
theorem b_C (q : Q (.d d) ρ) : (eC d ρ).wp Q X := q
theorem b_op (q : (f ρ).wp (fun x ρ1 => (g ρ1).wp (fun y ρ2 => (opV op x y ρ2).wp Q X) X) X) : (eOp op f g ρ).wp Q X := b_bind (R.wp_mono q (fun _ _ h => b_bind h) fun _ _ h => h)
theorem b_un {op : D → Option Val} (q : (f ρ).wp (fun x ρ1 => (unV op x ρ1).wp Q X) X) : (eUn op f ρ).wp Q X := b_bind q
theorem b_cb {op : List D → Option Val} (q : (gl ρ).wp (fun x ρ1 => (callV op x ρ1).wp Q X) X) : (eCallB op gl ρ).wp Q X := b_bind q
theorem b_opV {z : Val} (h1 : x.peek ρ = some a) (h2 : y.peek ρ = some b) (e : op a b = some z) (q : Q z ρ) : (opV op x y ρ).wp Q X := by
  unfold opV
  rw [h1, h2]
  show (ret1 (op a b) ρ).wp Q X
  rw [e]
  exact q
theorem b_unV {op : D → Option Val} {z : Val} (h1 : x.peek ρ = some a) (e : op a = some z) (q : Q z ρ) : (unV op x ρ).wp Q X := by
  unfold unV
  rw [h1]
  show (ret1 (op a) ρ).wp Q X
  rw [e]
  exact q
theorem b_callV {op : List D → Option Val} {z : Val} {xs : List Val} {ds : List D} (h1 : peekL ρ xs = some ds) (e : op ds = some z) (q : Q z ρ) : (callV op xs ρ).wp Q X := by
  unfold callV
  rw [h1]
  show (ret1 (op ds) ρ).wp Q X
  rw [e]
  exact q
theorem b_nil (q : QL [] ρ) : (aNil ρ).wp QL X := q
theorem b_cons (q : (f ρ).wp (fun x ρ1 => (gl ρ1).wp (fun xs ρ2 => QL (x :: xs) ρ2) X) X) : (aCons f gl ρ).wp QL X := b_bind (R.wp_mono q (fun _ _ h => b_bind (R.wp_mono h (fun _ _ h => h) fun _ _ h => h)) fun _ _ h => h)
theorem b_fz (q : (f ρ).wp (fun x ρ1 => (x.fzA ρ1).wp Q X) X) : (DL.fz f ρ).wp Q X := b_bind q
def nslV (x : Val) : EM := fun ρ => match x with
  | .sl i => (Val.sl i).fz ρ
  | x => .ok x ρ
theorem b_nsl (q : (f ρ).wp (fun x ρ1 => (nslV x ρ1).wp Q X) X) : (DL.nsl f ρ).wp Q X := by
  refine b_bind (R.wp_mono q (fun x ρ1 h => ?_) fun _ _ h => h)
  cases x <;> exact h
theorem b_nslD (q : Q (.d d) ρ) : (nslV (.d d) ρ).wp Q X := q
theorem b_nslF (q : Q (.fr c) ρ) : (nslV (.fr c) ρ).wp Q X := q
theorem b_nslS (q : ((Val.sl i).fz ρ).wp Q X) : (nslV (.sl i) ρ).wp Q X := q
theorem b_tup (q : (gl ρ).wp (fun x ρ1 => (mkTup x ρ1).wp Q X) X) : (eTup gl ρ).wp Q X := b_bind q
theorem b_lst (q : (gl ρ).wp (fun x ρ1 => (mkLst x ρ1).wp Q X) X) : (eLst gl ρ).wp Q X := b_bind q
theorem b_mkTup {xs : List Val} {ds : List D} (e : dsL xs = some ds) (hl : ds.length ≤ 16777216) (q : Q (.d (.tup ds)) ρ) : (mkTup xs ρ).wp Q X := by
  unfold mkTup
  rw [e]
  first | exact q | (dsimp only; rw [if_pos hl]; exact q)
theorem b_mkLst {xs : List Val} {ds : List D} (e : dsL xs = some ds) (hl : ds.length ≤ 16777216) (q : Q (.fr (.lst ds)) ρ) : (mkLst xs ρ).wp Q X := by
  unfold mkLst
  rw [e]
  first | exact q | (dsimp only; rw [if_pos hl]; exact q)
theorem b_call {Fm : FM} (q : (gl ρ).wp (fun x ρ1 => (callF Fm x ρ1).wp Q X) X) : (eCall Fm gl ρ).wp Q X := b_bind q
theorem b_callF {Fm : FM} {xs : List Val} (h1 : argSlots ρ xs = some as) (h2 : lentOnce xs = true) (q : (Fm as).wp (fun x as' => Q x (putBack ρ xs as')) (fun x as' => X x (putBack ρ xs as'))) : (callF Fm xs ρ).wp Q X := by
  unfold callF
  rw [h1]
  dsimp only
  rw [if_pos h2]
  cases hh : Fm as <;> rw [hh] at q <;> exact q
theorem b_tst (q : (f ρ).wp (fun x ρ1 => (bT x ρ1).wp QB X) X) : (tst f ρ).wp QB X := b_bind q
theorem b_bT {k : Bool} (q : QB k ρ) : (bT (.d (.bl k)) ρ).wp QB X := q
theorem b_and (q : (t ρ).wp (fun k ρ1 => (k = true → (u ρ1).wp QB X) ∧ (k = false → QB false ρ1)) X) : (tAndM t u ρ).wp QB X := by
  refine b_bind (R.wp_mono q (fun k ρ1 h => ?_) fun _ _ h => h)
  cases k
  · exact h.2 rfl
  · exact h.1 rfl
theorem b_or (q : (t ρ).wp (fun k ρ1 => (k = true → QB true ρ1) ∧ (k = false → (u ρ1).wp QB X)) X) : (tOrM t u ρ).wp QB X := by
  refine b_bind (R.wp_mono q (fun k ρ1 h => ?_) fun _ _ h => h)
  cases k
  · exact h.2 rfl
  · exact h.1 rfl
theorem b_not (q : (t ρ).wp (fun k ρ1 => QB (!k) ρ1) X) : (tNotM t ρ).wp QB X := b_bind q
theorem b_eIf (q : (t ρ).wp (fun k ρ1 => (k = true → (f ρ1).wp Q X) ∧ (k = false → (g ρ1).wp Q X)) X) : (eIf t f g ρ).wp Q X := by
  refine b_bind (R.wp_mono q (fun k ρ1 h => ?_) fun _ _ h => h)
  cases k
  · exact h.2 rfl
  · exact h.1 rfl
theorem b_eAnd (q : (f ρ).wp (fun x ρ1 => ∃ k, x = .d (.bl k) ∧ (k = true → (g ρ1).wp Q X) ∧ (k = false → Q (.d (.bl false)) ρ1)) X) : (eAnd f g ρ).wp Q X := by
  refine b_bind (R.wp_mono q (fun x ρ1 h => ?_) fun _ _ h => h)
  obtain ⟨k, rfl, h1, h2⟩ := h
  cases k
  · exact h2 rfl
  · exact h1 rfl
theorem b_eOr (q : (f ρ).wp (fun x ρ1 => ∃ k, x = .d (.bl k) ∧ (k = true → Q (.d (.bl true)) ρ1) ∧ (k = false → (g ρ1).wp Q X)) X) : (eOr f g ρ).wp Q X := by
  refine b_bind (R.wp_mono q (fun x ρ1 h => ?_) fun _ _ h => h)
  obtain ⟨k, rfl, h1, h2⟩ := h
  cases k
  · exact h2 rfl
  · exact h1 rfl
theorem b_eNot (q : (f ρ).wp (fun x ρ1 => ∃ k, x = .d (.bl k) ∧ Q (.d (.bl !k)) ρ1) X) : (eNot f ρ).wp Q X := by
  refine b_bind (R.wp_mono q (fun x ρ1 h => ?_) fun _ _ h => h)
  obtain ⟨k, rfl, h1⟩ := h
  exact h1
def AndK (QB : Bool → DEnv → Prop) (k : Bool) (ρ1 : DEnv) : Bool → DEnv → Prop := fun k2 ρ2 => ρ2 = ρ1 ∧ QB (k && k2) ρ1
def OrK (QB : Bool → DEnv → Prop) (k : Bool) (ρ1 : DEnv) : Bool → DEnv → Prop := fun k2 ρ2 => ρ2 = ρ1 ∧ QB (k || k2) ρ1
theorem b_andK {k k2 : Bool} (q : QB (k && k2) ρ) : AndK QB k ρ k2 ρ := ⟨rfl, q⟩
theorem b_orK {k k2 : Bool} (q : QB (k || k2) ρ) : OrK QB k ρ k2 ρ := ⟨rfl, q⟩
theorem b_and2 (q : (t ρ).wp (fun k ρ1 => (u ρ1).wp (AndK QB k ρ1) fun _ _ => False) X) : (tAndM t u ρ).wp QB X := by
  refine b_bind (R.wp_mono q (fun k ρ1 h => ?_) fun _ _ h => h)
  cases e : u ρ1 with
  | ok k2 ρ2 =>
    rw [e] at h
    obtain ⟨rfl, h⟩ := h
    cases k
    · exact h
    · exact h
  | ex x ρ2 => rw [e] at h; exact h.elim
  | bad => rw [e] at h; exact h.elim
theorem b_or2 (q : (t ρ).wp (fun k ρ1 => (u ρ1).wp (OrK QB k ρ1) fun _ _ => False) X) : (tOrM t u ρ).wp QB X := by
  refine b_bind (R.wp_mono q (fun k ρ1 h => ?_) fun _ _ h => h)
  cases e : u ρ1 with
  | ok k2 ρ2 =>
    rw [e] at h
    obtain ⟨rfl, h⟩ := h
    cases k
    · exact h
    · exact h
  | ex x ρ2 => rw [e] at h; exact h.elim
  | bad => rw [e] at h; exact h.elim
theorem rng_at {n j : Nat} {f : Nat → D} {dd : D} (h : ((List.range n).map f)[j]? = some dd) : j < n ∧ dd = f j := by
  rw [List.getElem?_map] at h
  have hj : j < n := by
    rcases Nat.lt_or_ge j n with z | z
    · exact z
    · rw [List.getElem?_eq_none (by simpa using z)] at h; cases h
  rw [List.getElem?_range hj] at h
  exact ⟨hj, by simpa using h.symm⟩
/-! statements -/
theorem s_seq {s1 s2 : SM} (q : (s1 ρ).wp { P with nx := fun ρ1 => (s2 ρ1).wp P }) : (sSeq s1 s2 ρ).wp P := by
  unfold sSeq
  cases e : s1 ρ <;> rw [e] at q <;> exact q
theorem s_seqN {s1 s2 : SM} (e : ρ = ρ') (q : (s1 ρ').wp { P with nx := fun ρ1 => (s2 ρ1).wp P }) : (sSeq s1 s2 ρ).wp P := by subst e; exact s_seq q
theorem s_skip (q : P.nx ρ) : (sSkip ρ).wp P := q
theorem s_drop (q : (f ρ).wp (fun _ ρ1 => P.nx ρ1) P.ex) : (sDrop f ρ).wp P := b_bindS q
theorem s_ret (q : (f ρ).wp (fun x ρ1 => P.rt x ρ1) P.ex) : (sRet f ρ).wp P := b_bindS q
theorem s_retN (q : P.rt (.d .non) ρ) : (sRetN ρ).wp P := q
theorem s_break (q : P.bk ρ) : (sBreak ρ).wp P := q
theorem s_cont (q : P.ct ρ) : (sCont ρ).wp P := q
theorem s_if {s1 s2 : SM} (q : (t ρ).wp (fun k ρ1 => (k = true → (s1 ρ1).wp P) ∧ (k = false → (s2 ρ1).wp P)) P.ex) : (sIf t s1 s2 ρ).wp P := by
  refine b_bindS (R.wp_mono q (fun k ρ1 h => ?_) fun _ _ h => h)
  cases k
  · exact h.2 rfl
  · exact h.1 rfl
theorem s_asg (q : (f ρ).wp (fun x ρ1 => (asgV i x ρ1).wp P) P.ex) : (sAsg i f ρ).wp P := b_bindS q
theorem s_asgV (e : asgV i x ρ = .nx ρ') (q : P.nx ρ') : (asgV i x ρ).wp P := by rw [e]; exact q
theorem s_par {is : List Nat} (q : (gl ρ).wp (fun xs ρ1 => (asgs is xs ρ1).wp P) P.ex) : (sPar is gl ρ).wp P := b_bindS q
theorem s_asgs {is : List Nat} {xs : List Val} (e : asgs is xs ρ = .nx ρ') (q : P.nx ρ') : (asgs is xs ρ).wp P := by rw [e]; exact q
theorem s_tgt {G : Val → SM} (q : (f ρ).wp (fun x ρ1 => (G x ρ1).wp P) P.ex) : (sTgt f G ρ).wp P := b_bindS q
/-! defs -/
theorem f_fn {np nl : Nat} {body : SM} (hl : as.length = np) (q : (body (as ++ List.replicate nl .un)).wp { nx := fun ρ => (finish (.d .non) as ρ).wp Q X, rt := fun x ρ => (finish x as ρ).wp Q X, ex := fun x ρ => X x (argsBack as ρ) }) : (fnD np nl body as).wp Q X := by
  unfold fnD
  rw [if_pos hl]
  cases e : body (as ++ List.replicate nl .un) <;> rw [e] at q <;> first | exact q | exact q.elim
theorem f_d (q : Q (.d d) (argsBack as ρ)) : (finish (.d d) as ρ).wp Q X := q
theorem f_fr (q : Q (.fr c) (argsBack as ρ)) : (finish (.fr c) as ρ).wp Q X := q
theorem f_sl (e : ρ[i]? = some (.ow c .own)) (q : Q (.fr c) (argsBack as ρ)) : (finish (.sl i) as ρ).wp Q X := by
  unfold finish
  dsimp only
  rw [e]
  exact q
theorem f_sld (e : ρ[i]? = some (.d d)) (q : Q (.d d) (argsBack as ρ)) : (finish (.sl i) as ρ).wp Q X := by
  unfold finish
  dsimp only
  rw [e]
  exact q
/-! loops -/
theorem loop_inv {tg : Val → SM} {body : SM} (I : Nat → DEnv → Prop) : ∀ (ds : List D) (k : Nat) (ρ : DEnv), I k ρ → (∀ j dd ρ, ds[j]? = some dd → I (k + j) ρ → (tg (.d dd) ρ).wp { nx := fun ρ1 => (body ρ1).wp { P with nx := I (k + j + 1), ct := I (k + j + 1), bk := P.nx }, rt := fun _ _ => False }) → (∀ ρ, I (k + ds.length) ρ → P.nx ρ) → (loopD tg body ds ρ).wp P
  | [], k, ρ, h0, hs, he => he ρ h0
  | dd :: ds, k, ρ, h0, hs, he => by
    unfold loopD
    have h1 := hs 0 dd ρ rfl h0
    cases e1 : tg (.d dd) ρ with
    | nx ρ1 =>
      rw [e1] at h1
      have h1 : (body ρ1).wp _ := h1
      have rest : ∀ ρ2, I (k + 0 + 1) ρ2 → (loopD tg body ds ρ2).wp P := fun ρ2 h2 => loop_inv I ds (k + 1) ρ2 h2 (fun j d ρ e h => by
        have := hs (j + 1) d ρ (by simpa using e) (by rw [show k + (j + 1) = k + 1 + j by omega]; exact h)
        rw [show k + (j + 1) = k + 1 + j by omega] at this
        exact this) fun ρ h => he ρ (by rw [List.length_cons, show k + (ds.length + 1) = k + 1 + ds.length by omega]; exact h)
      dsimp only
      cases e2 : body ρ1 with
      | nx ρ2 => rw [e2] at h1; exact rest ρ2 h1
      | ct ρ2 => rw [e2] at h1; exact rest ρ2 h1
      | bk ρ2 => rw [e2] at h1; exact h1
      | rt x ρ2 => rw [e2] at h1; exact h1
      | ex x ρ2 => rw [e2] at h1; exact h1
      | bad => rw [e2] at h1; exact h1.elim
    | rt x ρ1 => rw [e1] at h1; exact h1.elim
    | bk ρ1 => rw [e1] at h1; exact h1.elim
    | ct ρ1 => rw [e1] at h1; exact h1.elim
    | ex x ρ1 => rw [e1] at h1; exact h1.elim
    | bad => rw [e1] at h1; exact h1.elim
theorem s_for {fi : IM} {tg : Val → SM} {body : SM} (q : (fi ρ).wp (fun src ρ1 => (unlkS src.2 ρ1 (loopD tg body src.1 (lockS src.2 ρ1))).wp P) P.ex) : (sFor fi tg body ρ).wp P := b_bindS q
theorem s_loop {tg : Val → SM} {body : SM} {ds : List D} (q : (loopD tg body ds ρ).wp P) : (unlkS none ρ' (loopD tg body ds ρ)).wp P := by
  cases e : loopD tg body ds ρ <;> rw [e] at q <;> exact q
def rngV : List Val → DEnv → R Src := fun xs ρ1 => match xs with
  | [.d (.int j)] => if -(2 ^ 62) ≤ j ∧ j < 2 ^ 62 then .ok ((List.range j.toNat).map fun k : Nat => D.int (0 + (k : Int)), none) ρ1 else .bad
  | [.d (.int i), .d (.int j)] => if -(2 ^ 62) ≤ i ∧ i < 2 ^ 62 ∧ -(2 ^ 62) ≤ j ∧ j < 2 ^ 62 then .ok ((List.range (j - i).toNat).map fun k : Nat => D.int (i + (k : Int)), none) ρ1 else .bad
  | _ => .bad
theorem b_rng {QI : Src → DEnv → Prop} (q : (gl ρ).wp (fun xs ρ1 => (rngV xs ρ1).wp QI X) X) : (iRng gl ρ).wp QI X := b_bind q
theorem b_rng1 {n : Int} {QI : Src → DEnv → Prop} (hn : -(2 ^ 62) ≤ n ∧ n < 2 ^ 62) (q : QI ((List.range n.toNat).map fun k : Nat => D.int (0 + (k : Int)), none) ρ) : (rngV [.d (.int n)] ρ).wp QI X := by
  unfold rngV
  dsimp only
  rw [if_pos hn]
  exact q
theorem b_rng2 {n k : Int} {QI : Src → DEnv → Prop} (hn : -(2 ^ 62) ≤ k ∧ k < 2 ^ 62 ∧ -(2 ^ 62) ≤ n ∧ n < 2 ^ 62) (q : QI ((List.range (n - k).toNat).map fun i : Nat => D.int (k + (i : Int)), none) ρ) : (rngV [.d (.int k), .d (.int n)] ρ).wp QI X := by
  unfold rngV
  dsimp only
  rw [if_pos hn]
  exact q
/-! comprehensions -/
theorem comp_inv {own : List Nat} {tg : Val → SM} {tt : M Bool} {el : EM} {QD : List D → DEnv → Prop} {XD : Ex → DEnv → Prop} (I : Nat → List D → DEnv → Prop) : ∀ (ds : List D) (k : Nat) (acc : List D) (ρ : DEnv), I k acc ρ →
    (∀ j dd acc ρ, ds[j]? = some dd → I (k + j) acc ρ → (tg (.d dd) ρ).wp { nx := fun ρ1 => (tt ρ1).wp (fun b ρ2 => (b = false → I (k + j + 1) acc (wipeD ρ2 own)) ∧ (b = true → (el ρ2).wp (fun y ρ3 => ∃ yd, y = .d yd ∧ I (k + j + 1) (acc ++ [yd]) (wipeD ρ3 own)) fun _ _ => False)) fun _ _ => False, rt := fun _ _ => False }) →
    (∀ acc ρ, I (k + ds.length) acc ρ → QD acc ρ) → (compD own tg tt el ds acc ρ).wp QD XD
  | [], k, acc, ρ, h0, hs, he => he acc ρ h0
  | dd :: ds, k, acc, ρ, h0, hs, he => by
    have h1 := hs 0 dd acc ρ rfl h0
    have rest : ∀ acc ρ2, I (k + 0 + 1) acc ρ2 → (compD own tg tt el ds acc ρ2).wp QD XD := fun acc ρ2 h2 => comp_inv I ds (k + 1) acc ρ2 h2 (fun j d acc ρ e h => by
        have := hs (j + 1) d acc ρ (by simpa using e) (by rw [show k + (j + 1) = k + 1 + j by omega]; exact h)
        rw [show k + (j + 1) = k + 1 + j by omega] at this
        exact this) fun acc ρ h => he acc ρ (by rw [List.length_cons, show k + (ds.length + 1) = k + 1 + ds.length by omega]; exact h)
    unfold compD
    cases e1 : tg (.d dd) ρ with
    | nx ρ1 =>
      rw [e1] at h1
      have h1 : (tt ρ1).wp _ _ := h1
      dsimp only
      cases e2 : tt ρ1 with
      | ok b ρ2 =>
        rw [e2] at h1
        have h1 : _ ∧ _ := h1
        dsimp only
        cases b with
        | false => rw [if_neg (by decide)]; exact rest _ _ (h1.1 rfl)
        | true =>
          rw [if_pos rfl]
          have h2 := h1.2 rfl
          cases e3 : el ρ2 with
          | ok y ρ3 =>
            rw [e3] at h2
            obtain ⟨yd, rfl, h3⟩ := h2
            exact rest _ _ h3
          | ex x ρ3 => rw [e3] at h2; exact h2.elim
          | bad => rw [e3] at h2; exact h2.elim
      | ex x ρ2 => rw [e2] at h1; exact h1.elim
      | bad => rw [e2] at h1; exact h1.elim
    | rt x ρ1 => rw [e1] at h1; exact h1.elim
    | bk ρ1 => rw [e1] at h1; exact h1.elim
    | ct ρ1 => rw [e1] at h1; exact h1.elim
    | ex x ρ1 => rw [e1] at h1; exact h1.elim
    | bad => rw [e1] at h1; exact h1.elim
theorem b_lc {own : List Nat} {fi : IM} {tg : Val → SM} {tt : M Bool} {el : EM} (q : (fi ρ).wp (fun src ρ1 => inB own ρ1 = true ∧ src.1.length < 16777216 ∧ (compD own tg tt el src.1 [] (wipeD (lockS src.2 ρ1) own)).wp (fun ys ρ2 => Q (.fr (.lst ys)) (unlk src.2 ρ1 (backD (lockS src.2 ρ1) ρ2 own))) fun _ _ => False) X) : (eLc own fi tg tt el ρ).wp Q X := by
  refine b_bind (R.wp_mono q (fun src ρ1 h => ?_) fun _ _ h => h)
  obtain ⟨h1, h2, h3⟩ := h
  rw [if_pos ⟨h1, h2⟩]
  cases e : compD own tg tt el src.1 [] (wipeD (lockS src.2 ρ1) own) with
  | ok ys ρ2 => rw [e] at h3; exact h3
  | ex x ρ2 => rw [e] at h3; exact h3.elim
  | bad => rw [e] at h3; exact h3.elim
theorem b_iseq {QI : Src → DEnv → Prop} (q : (f ρ).wp (fun x ρ1 => (seqSrc x ρ1).wp QI X) X) : (iSeq f ρ).wp QI X := b_bind q
theorem b_yes (q : QB true ρ) : (tYesD ρ).wp QB X := q
def StoreK (i : Nat) (k : EM) (P : Po) (x : Val) (ρ1 : DEnv) : Prop := ∃ c m, ρ1[i]? = some (.ow c m) ∧ (k ρ1).wp (fun y ρ2 => (storeV i x y ρ2).wp P) P.ex
theorem s_storeK {k : EM} (e : ρ[i]? = some (.ow c m)) (q : (k ρ).wp (fun y ρ2 => (storeV i x y ρ2).wp P) P.ex) : StoreK i k P x ρ := ⟨c, m, e, q⟩
theorem s_store {k : EM} (q : (f ρ).wp (StoreK i k P) P.ex) : (sStore i k f ρ).wp P := by
  refine b_bindS (R.wp_mono q (fun x ρ1 h => ?_) fun _ _ h => h)
  obtain ⟨c, m, e, h⟩ := h
  rw [e]
  exact b_bindS h
theorem s_storeV {k : Val} (e : storeV i x k ρ = .nx ρ') (q : P.nx ρ') : (storeV i x k ρ).wp P := by rw [e]; exact q
/-! methods -/
theorem b_methL {op : Cont → List D → Option (Cont × D)} {ds : List D} (e : ρ[i]? = some (.ow (.lst ds) m)) (q : (gl ρ).wp (fun xs ρ1 => (methV i op xs ρ1).wp Q X) X) : (eMethL i op gl ρ).wp Q X := by
  unfold eMethL
  rw [e]
  exact b_bind q
theorem b_methV {op : Cont → List D → Option (Cont × D)} {xs : List Val} {r : Val} (e : methV i op xs ρ = .ok r ρ') (q : Q r ρ') : (methV i op xs ρ).wp Q X := by rw [e]; exact q
theorem b_fzv {r : Val} (e : x.fz ρ = .ok r ρ') (q : Q r ρ') : (x.fz ρ).wp Q X := by rw [e]; exact q
theorem b_fzvA {r : Val} (e : x.fzA ρ = .ok r ρ') (q : Q r ρ') : (x.fzA ρ).wp Q X := by rw [e]; exact q
/-! operations -/
theorem x_mul {i j : Int} (h1 : x.peek ρ = some (.int i)) (h2 : y.peek ρ = some (.int j)) (h : ((-18446744073709551616 : Int) < i ∧ i < 18446744073709551616) ∨ ((-18446744073709551616 : Int) < j ∧ j < 18446744073709551616)) (q : Q (.d (.int (i * j))) ρ) : (opV mulD x y ρ).wp Q X :=
  b_opV h1 h2 (by
    show (match intV mulI (.int i) (.int j) with | some z => some z | none => repL _ _) = some _
    rw [show intV mulI (.int i) (.int j) = some (.d (.int (i * j))) from by
      show (mulI i j).map _ = _
      unfold mulI
      rw [if_pos (by
        rcases h with h | h
        · exact .inl (by simpa using h)
        · exact .inr (.inl (by simpa using h)))]
      rfl]) q
theorem x_mod {i j : Int} (h1 : x.peek ρ = some (.int i)) (h2 : y.peek ρ = some (.int j)) (h : 0 < j) (q : Q (.d (.int (i % j))) ρ) : (opV modD x y ρ).wp Q X :=
  b_opV h1 h2 (by
    show (modI i j).map _ = _
    unfold modI
    rw [if_pos h]
    rfl) q
theorem x_div {i j : Int} (h1 : x.peek ρ = some (.int i)) (h2 : y.peek ρ = some (.int j)) (h : 0 < j ∧ j < 18446744073709551616) (q : Q (.d (.int (i / j))) ρ) : (opV divD x y ρ).wp Q X :=
  b_opV h1 h2 (by
    show (divI i j).map _ = _
    unfold divI
    have h3 : j.natAbs < 2 ^ 64 := by have := h.2; omega
    have h4 : j.natAbs ≠ 0 := by have := h.1; omega
    have h5 := (Nat.log2_lt h4).mpr h3
    rw [if_pos ⟨h.1, by omega⟩]
    rfl) q
theorem x_pow {i j : Int} (h1 : x.peek ρ = some (.int i)) (h2 : y.peek ρ = some (.int j)) (hp : powI i j = some (i ^ j.toNat)) (q : Q (.d (.int (i ^ j.toNat))) ρ) : (opV powD x y ρ).wp Q X :=
  b_opV h1 h2 (by
    show (powI i j).map _ = _
    rw [hp]
    rfl) q
theorem x_modG {i j : Int} (h1 : x.peek ρ = some (.int i)) (h2 : y.peek ρ = some (.int j)) (h : 0 < j) (q : ∀ r, 0 ≤ r → r < j → r = i % j → Q (.d (.int r)) ρ) : (opV modD x y ρ).wp Q X :=
  x_mod h1 h2 h (q _ (Int.emod_nonneg _ (by omega)) (Int.emod_lt_of_pos _ h) rfl)
theorem x_idx {xs : List D} {i : Int} (h1 : x.peek ρ = some (.lst xs)) (h2 : y.peek ρ = some (.int i)) (e : atI xs i = some d) (q : Q (.d d) ρ) : (opV idxD x y ρ).wp Q X :=
  b_opV h1 h2 (by
    show (match (match (atI xs i).map Val.d with | some z => some z | none => idxD3 _ _) with | some z => some z | none => idxD2 _ _) = some _
    rw [e]
    rfl) q
theorem x_idxT {xs : List D} {i : Int} (h1 : x.peek ρ = some (.tup xs)) (h2 : y.peek ρ = some (.int i)) (e : atI xs i = some d) (q : Q (.d d) ρ) : (opV idxD x y ρ).wp Q X :=
  b_opV h1 h2 (by
    show (match (match (atI xs i).map Val.d with | some z => some z | none => idxD3 _ _) with | some z => some z | none => idxD2 _ _) = some _
    rw [e]
    rfl) q
theorem x_idxS {xs : List Int} {i j : Int} (h1 : x.peek ρ = some (.scr xs)) (h2 : y.peek ρ = some (.int i)) (e : atI xs i = some j) (q : Q (.d (.int j)) ρ) : (opV idxD x y ρ).wp Q X :=
  b_opV h1 h2 (by
    show (match (match (atI xs i).map (fun k => Val.d (.int k)) with | some z => some z | none => idxD3 _ _) with | some z => some z | none => idxD2 _ _) = some _
    rw [e]
    rfl) q
theorem x_ne {k : Bool} (h1 : x.peek ρ = some a) (h2 : y.peek ρ = some b) (e : eqD a b = some k) (q : Q (.d (.bl !k)) ρ) : (opV neV' x y ρ).wp Q X :=
  b_opV h1 h2 (by show bV ((eqD a b).map _) = _; rw [e]; rfl) q
theorem x_eq {k : Bool} (h1 : x.peek ρ = some a) (h2 : y.peek ρ = some b) (e : eqD a b = some k) (q : Q (.d (.bl k)) ρ) : (opV eqV' x y ρ).wp Q X :=
  b_opV h1 h2 (by show bV (eqD a b) = _; rw [e]; rfl) q
/-! slots that may be stored in -/
def Fr (s : Slot) : Prop := s = .un ∨ (∃ d, s = .d d) ∨ ∃ c, s = .ow c .own
theorem Fr.un : Fr .un := .inl rfl
theorem Fr.dat {d : D} : Fr (.d d) := .inr (.inl ⟨d, rfl⟩)
theorem Fr.own {c : Cont} : Fr (.ow c .own) := .inr (.inr ⟨c, rfl⟩)
theorem put_fr {s s0 : Slot} (e : ρ[i]? = some s0) (hf : Fr s0) : put i s ρ = .nx (ρ.set i s) := by
  unfold put
  rw [e]
  rcases hf with rfl | ⟨d, rfl⟩ | ⟨c, rfl⟩ <;> rfl
theorem s_asgF {s0 : Slot} (e : ρ[i]? = some s0) (hf : Fr s0) (q : P.nx (ρ.set i (.d d))) : (asgV i (.d d) ρ).wp P := by
  unfold asgV
  show (put i (.d d) ρ).wp P
  rw [put_fr e hf]
  exact q
theorem s_asgFO {s0 : Slot} (e : ρ[i]? = some s0) (hf : Fr s0) (q : P.nx (ρ.set i (.ow c .own))) : (asgV i (.fr c) ρ).wp P := by
  unfold asgV
  show (put i (.ow c .own) ρ).wp P
  rw [put_fr e hf]
  exact q
theorem s_asgsN (q : P.nx ρ) : (asgs [] [] ρ).wp P := by unfold asgs; exact q
theorem s_asgsD {is : List Nat} {xs : List Val} {s0 : Slot} (e : ρ[i]? = some s0) (hf : Fr s0) (q : (asgs is xs (ρ.set i (.d d))).wp P) : (asgs (i :: is) (.d d :: xs) ρ).wp P := by
  show ((put i (.d d) ρ).thenS (asgs is xs)).wp P
  rw [put_fr e hf]
  exact q
theorem s_asgsO {is : List Nat} {xs : List Val} {s0 : Slot} (e : ρ[i]? = some s0) (hf : Fr s0) (q : (asgs is xs (ρ.set i (.ow c .own))).wp P) : (asgs (i :: is) (.fr c :: xs) ρ).wp P := by
  show ((put i (.ow c .own) ρ).thenS (asgs is xs)).wp P
  rw [put_fr e hf]
  exact q
end
end DL
/-! DL18: data that can be compared and shown. -/
namespace DL
open PySem PySem.Spec PyProof.Rows L2
mutual
def D.good : D → Bool
  | .non => true
  | .bl _ => true
  | .int _ => true
  | .str x => PyData.strOk x
  | .tup xs => goodL xs
  | .lst xs => goodL xs
  | _ => false
def goodL : List D → Bool
  | [] => true
  | x :: xs => x.good && goodL xs
end
mutual
def D.dep : D → Nat
  | .tup xs => depL xs + 1
  | .lst xs => depL xs + 1
  | _ => 0
def depL : List D → Nat
  | [] => 0
  | x :: xs => max x.dep (depL xs)
end
mutual
def D.cnt : D → Nat
  | .tup xs => cntL xs + 1
  | .lst xs => cntL xs + 1
  | _ => 1
def cntL : List D → Nat
  | [] => 0
  | x :: xs => x.cnt + cntL xs
end
mutual
def D.short : D → Bool
  | .int i => decide (i.natAbs < 2 ^ 200)
  | .str x => decide (x.length ≤ 50)
  | .tup xs => shortL xs
  | .lst xs => shortL xs
  | _ => true
def shortL : List D → Bool
  | [] => true
  | x :: xs => x.short && shortL xs
end
theorem strOk_lt {x : Str} (h : PyData.strOk x = true) : ∀ c ∈ x.cps.toList, c < 16 ^ 8 := fun c hc => by
  unfold PyData.strOk at h
  rw [Array.all_eq_true'] at h
  have := h c (by simpa using hc)
  have h2 : c < 1114112 := by simpa using this
  omega
theorem int_short {i : Int} (h : i.natAbs < 2 ^ 200) : (PyData.int i).showable = true ∧ (PyData.int i).shown.length ≤ 1921 := by
  have h2 : i.natAbs.log2 < 200 := by
    by_cases h0 : i.natAbs = 0
    · rw [h0]; decide
    · exact (Nat.log2_lt h0).mpr h
  refine ⟨?_, ?_⟩
  · unfold PyData.showable
    exact decide_eq_true (by omega)
  · unfold PyData.shown
    have := int_text_len_1921 (i := i) (by omega)
    exact this
mutual
theorem good_py : ∀ (d : D), d.good = true → ∃ p, d.toPy = some p ∧ p.canLay0 = true ∧ p.depth = d.dep ∧ p.hasDict = false ∧ (d.short = true → p.showable = true ∧ p.shown.length + 2 ≤ 2000 * d.cnt)
  | .non, _ => ⟨.none, rfl, rfl, rfl, by simp only [PyData.hasDict], fun _ => ⟨by simp only [PyData.showable], by simp only [PyData.shown]; decide⟩⟩
  | .bl b, _ => ⟨.bool b, rfl, rfl, rfl, by simp only [PyData.hasDict], fun _ => ⟨by simp only [PyData.showable], by simp only [PyData.shown]; cases b <;> decide⟩⟩
  | .int i, _ => ⟨.int i, rfl, rfl, rfl, by simp only [PyData.hasDict], fun h => by
      have := int_short (i := i) (by simpa [D.short] using h)
      exact ⟨this.1, by have := this.2; simp only [D.cnt]; omega⟩⟩
  | .str x, h => ⟨.str x, rfl, by simpa [PyData.canLay0, D.good] using h, rfl, by simp only [PyData.hasDict], fun hs => ⟨by simp only [PyData.showable], by
      simp only [PyData.shown]
      have h1 := StrLaws.reprText_len x (strOk_lt (by simpa [D.good] using h))
      have h2 : x.length ≤ 50 := by simpa [D.short] using hs
      simp only [D.cnt]
      omega⟩⟩
  | .tup xs, h => by
    obtain ⟨ps, h1, h2, h3, h4, h5, h6⟩ := goodL_py xs (by simpa [D.good] using h)
    refine ⟨.tuple ps, by simp [D.toPy, h1], by simpa [PyData.canLay0] using h2, by simp [PyData.depth, D.dep, h3], by simpa [PyData.hasDict] using h4, fun hs => ?_⟩
    obtain ⟨g1, g2⟩ := h6 (by simpa [D.short] using hs)
    refine ⟨by simpa [PyData.showable] using g1, ?_⟩
    have := tupleText_len_le (PyData.shownAll ps)
    simp only [PyData.shown, D.cnt]
    rw [h5] at this
    omega
  | .lst xs, h => by
    obtain ⟨ps, h1, h2, h3, h4, h5, h6⟩ := goodL_py xs (by simpa [D.good] using h)
    refine ⟨.list ps, by simp [D.toPy, h1], by simpa [PyData.canLay0] using h2, by simp [PyData.depth, D.dep, h3], by simpa [PyData.hasDict] using h4, fun hs => ?_⟩
    obtain ⟨g1, g2⟩ := h6 (by simpa [D.short] using hs)
    refine ⟨by simpa [PyData.showable] using g1, ?_⟩
    have := listText_len_le (PyData.shownAll ps)
    simp only [PyData.shown, D.cnt]
    rw [h5] at this
    omega
  | .dic _ _, h => by simp [D.good] at h
  | .set _, h => by simp [D.good] at h
  | .scr _, h => by simp [D.good] at h
  | .ty _, h => by simp [D.good] at h
  | .obj _ _ _, h => by simp [D.good] at h
  | .ins _ _ _, h => by simp [D.good] at h
theorem goodL_py : ∀ (ds : List D), goodL ds = true → ∃ ps, toPyL ds = some ps ∧ PyData.canLayAll0 ps = true ∧ PyData.depthAll ps = depL ds ∧ PyData.hasDictAll ps = false ∧ (PyData.shownAll ps).length = ds.length ∧ (shortL ds = true → PyData.showableAll ps = true ∧ ((PyData.shownAll ps).map (·.length)).sum + 2 * ds.length ≤ 2000 * cntL ds)
  | [], _ => ⟨[], rfl, rfl, rfl, by simp only [PyData.hasDictAll], by simp [PyData.shownAll], fun _ => ⟨by simp only [PyData.showableAll], by simp [PyData.shownAll, cntL]⟩⟩
  | d :: ds, h => by
    have h : d.good = true ∧ goodL ds = true := by simpa [goodL] using h
    obtain ⟨p, a1, a2, a3, a4, a5⟩ := good_py d h.1
    obtain ⟨ps, b1, b2, b3, b4, b5, b6⟩ := goodL_py ds h.2
    refine ⟨p :: ps, by simp [toPyL, a1, b1], by simp [PyData.canLayAll0, a2, b2], by simp [PyData.depthAll, depL, a3, b3], by simp [PyData.hasDictAll, a4, b4], by simp [PyData.shownAll, b5], fun hs => ?_⟩
    have hs : d.short = true ∧ shortL ds = true := by simpa [shortL] using hs
    obtain ⟨c1, c2⟩ := a5 hs.1
    obtain ⟨e1, e2⟩ := b6 hs.2
    refine ⟨by simp [PyData.showableAll, c1, e1], ?_⟩
    have hc : 1 ≤ d.cnt := by cases d <;> simp [D.cnt]
    simp only [PyData.shownAll, List.map_cons, List.sum_cons, List.length_cons, cntL]
    omega
end
/-! ### == -/
def eqG (a b : D) : Bool := match a.toPy, b.toPy with
  | some p, some q => PyData.eqv p q
  | _, _ => false
theorem good_shaped {d : D} (h : d.good = true) (hd : d.dep ≤ 64) : ∃ p, d.toPy = some p ∧ SeqAt.shaped p = true := by
  obtain ⟨p, h1, h2, h3, _⟩ := good_py d h
  exact ⟨p, h1, by unfold SeqAt.shaped; rw [h2, decide_eq_true (by omega)]; rfl⟩
theorem eqD_good {a b : D} (ha : a.good = true) (hb : b.good = true) (da : a.dep ≤ 64) (db : b.dep ≤ 64) : eqD a b = some (eqG a b) := by
  obtain ⟨p, h1, h2⟩ := good_shaped ha da
  obtain ⟨q, h3, h4⟩ := good_shaped hb db
  have gen : (match a.toPy, b.toPy with | some p, some q => if SeqAt.shaped p = true ∧ SeqAt.shaped q = true then some (PyData.eqv p q) else none | _, _ => none) = some (eqG a b) := by
    unfold eqG
    rw [h1, h3]
    dsimp only
    rw [if_pos ⟨h2, h4⟩]
  unfold eqD
  split
  · unfold eqG; simp [D.toPy, PyData.eqv]; rfl
  · unfold eqG; simp [D.toPy, PyData.eqv]; rfl
  · unfold eqG; simp [D.toPy, PyData.eqv]
  · unfold eqG; simp [D.toPy, PyData.eqv]
  · unfold eqG; simp [D.toPy, PyData.eqv]
  · unfold eqG; simp [D.toPy, PyData.eqv]
  · unfold eqG; simp [D.toPy, PyData.eqv]
  · unfold eqG; simp [D.toPy, PyData.eqv]
  · unfold eqG; simp [D.toPy, PyData.eqv]
  · unfold eqG; simp [D.toPy, PyData.eqv]
  · exact gen
theorem eqG_refl {a : D} (h : a.good = true) : eqG a a = true := by
  obtain ⟨p, h1, h2, _⟩ := good_py a h
  unfold eqG
  rw [h1]
  exact PySem.SeqAt.eqv_refl p h2
/-! ### lists of data -/
theorem goodL_iff {ds : List D} : goodL ds = true ↔ ∀ x ∈ ds, x.good = true := by
  induction ds with
  | nil => simp [goodL]
  | cons x xs ih => simp [goodL, ih]
theorem shortL_iff {ds : List D} : shortL ds = true ↔ ∀ x ∈ ds, x.short = true := by
  induction ds with
  | nil => simp [shortL]
  | cons x xs ih => simp [shortL, ih]
theorem depL_le {ds : List D} {n : Nat} : depL ds ≤ n ↔ ∀ x ∈ ds, x.dep ≤ n := by
  induction ds with
  | nil => simp [depL]
  | cons x xs ih => simp [depL, Nat.max_le, ih]
theorem cntL_le {ds : List D} {n : Nat} (h : ∀ x ∈ ds, x.cnt ≤ n) : cntL ds ≤ n * ds.length := by
  induction ds with
  | nil => simp [cntL]
  | cons x xs ih =>
    have h1 := h x List.mem_cons_self
    have h2 := ih fun y hy => h y (List.mem_cons_of_mem _ hy)
    simp only [cntL, List.length_cons, Nat.mul_add]
    omega
/-- data that can be compared and shown, no deeper than k, of at most n parts -/
structure Gd (k n : Nat) (d : D) : Prop where
  good : d.good = true
  short : d.short = true
  dep : d.dep ≤ k
  cnt : d.cnt ≤ n
theorem Gd.mono {k n k' n' : Nat} {d : D} (h : Gd k n d) (hk : k ≤ k') (hn : n ≤ n') : Gd k' n' d := ⟨h.good, h.short, Nat.le_trans h.dep hk, Nat.le_trans h.cnt hn⟩
theorem Gd.tup {k n : Nat} {ds : List D} (h : ∀ x ∈ ds, Gd k n x) : Gd (k + 1) (n * ds.length + 1) (.tup ds) :=
  ⟨by simpa [D.good] using goodL_iff.mpr fun x hx => (h x hx).good, by simpa [D.short] using shortL_iff.mpr fun x hx => (h x hx).short, by simpa [D.dep] using depL_le.mpr fun x hx => (h x hx).dep, by have := cntL_le (n := n) fun x hx => (h x hx).cnt; simp only [D.cnt]; omega⟩
theorem Gd.lst {k n : Nat} {ds : List D} (h : ∀ x ∈ ds, Gd k n x) : Gd (k + 1) (n * ds.length + 1) (.lst ds) :=
  ⟨by simpa [D.good] using goodL_iff.mpr fun x hx => (h x hx).good, by simpa [D.short] using shortL_iff.mpr fun x hx => (h x hx).short, by simpa [D.dep] using depL_le.mpr fun x hx => (h x hx).dep, by have := cntL_le (n := n) fun x hx => (h x hx).cnt; simp only [D.cnt]; omega⟩
theorem Gd.int {i : Int} (h : i.natAbs < 2 ^ 200) : Gd 0 1 (.int i) := ⟨rfl, by simpa [D.short] using h, Nat.le_refl _, Nat.le_refl _⟩
theorem Gd.eq {a b : D} {k n k' n' : Nat} (ha : Gd k n a) (hb : Gd k' n' b) (hk : k ≤ 64) (hk' : k' ≤ 64) : eqD a b = some (eqG a b) := eqD_good ha.good hb.good (Nat.le_trans ha.dep hk) (Nat.le_trans hb.dep hk')
/-! ### repr -/
/-! ### more rules of reading -/
section
variable {ρ ρ' as : DEnv} {i : Nat} {x y : Val} {d a b : D} {c : Cont} {m : Md} {Q : Val → DEnv → Prop} {X : Ex → DEnv → Prop} {P : Po}
theorem inS_int {v : Int} : ∀ {ws : List Int}, inS (.int v) (ws.map D.int) = decide (v ∈ ws)
  | [] => by simp [inS]
  | w :: ws => by
    have ih := inS_int (v := v) (ws := ws)
    unfold inS at ih ⊢
    rw [List.map_cons, List.any_cons, ih]
    show (w == v || decide (v ∈ ws)) = _
    by_cases h : w = v
    · subst h; simp
    · simp [h, show ¬ v = w from fun z => h z.symm]
theorem flat_ints : ∀ {ws : List Int}, (ws.map D.int).all flatD = true
  | [] => rfl
  | w :: ws => by rw [List.map_cons, List.all_cons, flat_ints]; rfl
theorem x_ninI {v : Int} {ws : List Int} (h1 : x.peek ρ = some (.int v)) (h2 : y.peek ρ = some (.lst (ws.map D.int))) (q : Q (.d (.bl (!decide (v ∈ ws)))) ρ) : (opV ninD x y ρ).wp Q X :=
  b_opV (z := .d (.bl (!decide (v ∈ ws)))) h1 h2 (by
    have e : inSeqD true (.int v) (.lst (ws.map D.int)) = some (.d (.bl (!decide (v ∈ ws)))) := by
      unfold inSeqD
      dsimp only
      rw [if_pos ⟨rfl, flat_ints⟩, inS_int]
      rfl
    unfold ninD orOp
    rw [e]) q
theorem x_inI {v : Int} {ws : List Int} (h1 : x.peek ρ = some (.int v)) (h2 : y.peek ρ = some (.lst (ws.map D.int))) (q : Q (.d (.bl (decide (v ∈ ws)))) ρ) : (opV inD x y ρ).wp Q X :=
  b_opV (z := .d (.bl (decide (v ∈ ws)))) h1 h2 (by
    have e : inSeqD false (.int v) (.lst (ws.map D.int)) = some (.d (.bl (decide (v ∈ ws)))) := by
      unfold inSeqD
      dsimp only
      rw [if_pos ⟨rfl, flat_ints⟩, inS_int]
      rfl
    unfold inD orOp
    rw [e]) q
theorem x_ninIT {v : Int} {ws : List Int} (h1 : x.peek ρ = some (.int v)) (h2 : y.peek ρ = some (.tup (ws.map D.int))) (q : Q (.d (.bl (!decide (v ∈ ws)))) ρ) : (opV ninD x y ρ).wp Q X :=
  b_opV (z := .d (.bl (!decide (v ∈ ws)))) h1 h2 (by
    have e : inSeqD true (.int v) (.tup (ws.map D.int)) = some (.d (.bl (!decide (v ∈ ws)))) := by
      unfold inSeqD
      dsimp only
      rw [if_pos ⟨rfl, flat_ints⟩, inS_int]
      rfl
    unfold ninD orOp
    rw [e]) q
theorem x_inIT {v : Int} {ws : List Int} (h1 : x.peek ρ = some (.int v)) (h2 : y.peek ρ = some (.tup (ws.map D.int))) (q : Q (.d (.bl (decide (v ∈ ws)))) ρ) : (opV inD x y ρ).wp Q X :=
  b_opV (z := .d (.bl (decide (v ∈ ws)))) h1 h2 (by
    have e : inSeqD false (.int v) (.tup (ws.map D.int)) = some (.d (.bl (decide (v ∈ ws)))) := by
      unfold inSeqD
      dsimp only
      rw [if_pos ⟨rfl, flat_ints⟩, inS_int]
      rfl
    unfold inD orOp
    rw [e]) q
theorem x_addL {xs ys : List D} (h1 : x.peek ρ = some (.lst xs)) (h2 : y.peek ρ = some (.lst ys)) (hl : xs.length + ys.length ≤ 16777216) (q : Q (.fr (.lst (xs ++ ys))) ρ) : (opV addD x y ρ).wp Q X :=
  b_opV h1 h2 (by
    show (match (if xs.length + ys.length ≤ sizeLine then some (Val.fr (.lst (xs ++ ys))) else none) with | some z => some z | none => addT _ _) = _
    rw [if_pos (show xs.length + ys.length ≤ sizeLine by unfold sizeLine; omega)]) q
theorem x_addT {xs ys : List D} (h1 : x.peek ρ = some (.tup xs)) (h2 : y.peek ρ = some (.tup ys)) (hl : xs.length + ys.length ≤ 16777216) (q : Q (.d (.tup (xs ++ ys))) ρ) : (opV addD x y ρ).wp Q X :=
  b_opV h1 h2 (by
    show (if xs.length + ys.length ≤ sizeLine then some (Val.d (.tup (xs ++ ys))) else none) = _
    rw [if_pos (show xs.length + ys.length ≤ sizeLine by unfold sizeLine; omega)]) q
theorem x_repL {xs : List D} {k : Int} (h1 : x.peek ρ = some (.lst xs)) (h2 : y.peek ρ = some (.int k)) (hk : -1000000000 ≤ k ∧ k < 1000000000) (hl : xs.length * k.toNat ≤ 16777216) (q : Q (.fr (.lst (List.replicate k.toNat xs).flatten)) ρ) : (opV mulD x y ρ).wp Q X :=
  b_opV h1 h2 (by
    show (if -(2 ^ 63) ≤ k ∧ k < 2 ^ 63 ∧ xs.length * k.toNat ≤ sizeLine then some (Val.fr (.lst (List.replicate k.toNat xs).flatten)) else none) = _
    rw [if_pos ⟨by omega, by omega, by unfold sizeLine; omega⟩]) q
end
end DL
set_option maxHeartbeats 2000000
/-! DL19: type names, isinstance, set comprehensions of ints, dict comprehensions. -/
namespace DL
open PySem PySem.Spec PyProof.Rows L2
variable [TabT]
section
variable {X : Cx} {W : WX} {pos : Pos}
theorem de_bty {x : Str} {n : String} (hg : Gl X x) (hm : X.mg x = none) (hv : bootBuiltins x = some (.type n)) (hn : x ≠ "__name__" := by decide) (hd : (x == ("__debug__" : Str)) = false := by decide) : DE X W (.Name x pos) (eC (.ty n)) :=
  de_const (t := tC .non) (pe_bltn (v := .ty n) hg hm hv rfl hn hd) fun _ => .ty n
end
/-! ### isinstance -/
def tyN : D → Option String
  | .non => some "NoneType"
  | .bl _ => some "bool"
  | .int _ => some "int"
  | .str _ => some "str"
  | .tup _ => some "tuple"
  | .lst _ => some "list"
  | .dic _ _ => some "dict"
  | _ => none
/-- the answer, for the types that the texts ask for -/
def isB (t n : String) : Option Bool :=
  if n = "int" then some (t == "int" || t == "bool") else if n = "bool" ∨ n = "str" ∨ n = "tuple" ∨ n = "list" ∨ n = "dict" then some (t == n) else none
def isiD : List D → Option Val
  | [a, .ty n] => match tyN a with
    | some t => (isB t n).map fun b => .d (.bl b)
    | none => none
  | _ => none
theorem isB_ok {a : D} {t n : String} {b : Bool} (e : tyN a = some t) (h : isB t n = some b) : kitB t n = some b := by
  have ht : t = "NoneType" ∨ t = "bool" ∨ t = "int" ∨ t = "str" ∨ t = "tuple" ∨ t = "list" ∨ t = "dict" := by
    cases a <;> simp_all [tyN]
  have hn : n = "int" ∨ n = "bool" ∨ n = "str" ∨ n = "tuple" ∨ n = "list" ∨ n = "dict" := by
    unfold isB at h
    split at h
    · rename_i z; exact .inl z
    · split at h
      · rename_i z; exact .inr z
      · cases h
  rcases ht with rfl | rfl | rfl | rfl | rfl | rfl | rfl <;> rcases hn with rfl | rfl | rfl | rfl | rfl | rfl <;> (revert h; revert b; decide +kernel)
theorem tyX_of {K : PySem.W.Frag} {F H : Hp} {v : V} {a : D} {t : String} (s : Same F H) (r : RepT K F H v a) (e : tyN a = some t) : TyX K H v (.type t) := by
  cases a with
  | non => cases e; obtain rfl := r.non; exact .base .non
  | bl b => cases e; obtain rfl := r.bl; exact .base (.bl b)
  | int i => cases e; obtain rfl := r.int; exact .base (.int i)
  | str x => cases e; obtain rfl := r.str; exact .base (.str x)
  | tup ds =>
    cases e
    obtain ⟨p, xs, rfl, q, _⟩ := r.tup s
    rcases q with (q | ⟨o, q⟩) | ⟨o, its, n, q, c, _⟩
    · exact .base (.tup q)
    · exact .fTuple q
    · exact .kTuple q c
  | lst ds => cases e; obtain ⟨p, xs, rfl, q, _⟩ := r.lst; exact .base (.lst q)
  | dic ks ds =>
    cases e
    obtain ⟨p, xs, rfl, q, _⟩ := r.dic
    rcases q with q | ⟨o, q⟩
    · exact .base (.dK q)
    · exact .fDict q
  | _ => cases e
theorem cs_isi {K : PySem.W.Frag} : CallS K (rIsi K) isiD := by
  intro F H vs as z Q s ra e q
  unfold isiD at e
  split at e
  · rename_i a n
    obtain ⟨v, w, rfl, r1, r2⟩ := rep2 ra
    have hw : w = .ty n := by cases (show Rep K F w (.ty n) from r2); rfl
    subst hw
    split at e
    · rename_i t ht
      cases hb : isB t n with
      | none => rw [hb] at e; cases e
      | some b =>
        rw [hb] at e; cases e
        exact ⟨v, .ty n, .type t, .type n, b, rfl, .ty n, tyX_of s r1 ht, kit_ty (isB_ok ht hb), vn_bl s q⟩
    · cases e
  · cases e
/-! ### set comprehensions of ints -/
/-! ### comprehensions, whatever they fill -/
def compA {α : Type} (own : List Nat) (tg : Val → SM) (tt : M Bool) (step : α → M α) : List D → α → M α
  | [], acc, ρ => .ok acc ρ
  | d :: ds, acc, ρ => match tg (.d d) ρ with
    | .nx ρ1 => match tt ρ1 with
      | .ok b ρ2 => if b = true then (match step acc ρ2 with
        | .ok acc' ρ3 => compA own tg tt step ds acc' (wipeD ρ3 own)
        | _ => .bad) else compA own tg tt step ds acc (wipeD ρ2 own)
      | _ => .bad
    | _ => .bad
def eGc {α : Type} (own : List Nat) (f : IM) (tg : Val → SM) (tt : M Bool) (step : α → M α) (a0 : α) : M α := fun ρ => (f ρ).bind fun src ρ1 =>
  if inB own ρ1 = true ∧ src.1.length < 16777216 then
    (match compA own tg tt step src.1 a0 (wipeD (lockS src.2 ρ1) own) with
    | .ok ys ρ2 => .ok ys (unlk src.2 ρ1 (backD (lockS src.2 ρ1) ρ2 own))
    | _ => .bad)
  else .bad
/-! ### dict comprehensions -/
def dcStep (kx vx : EM) (acc : List Key × List D) : M (List Key × List D) := fun ρ => (kx ρ).bind fun y ρ1 => (vx ρ1).bind fun z ρ2 => match y, z with
  | .d y, .d z => match keyD y with
    | some k => if acc.1.any (fun j => decide (j = k)) = true then .ok (acc.1, dSet acc.1 acc.2 k z) ρ2 else .ok (acc.1 ++ [k], acc.2 ++ [z]) ρ2
    | none => .bad
  | _, _ => .bad
def eDc (own : List Nat) (f : IM) (tg : Val → SM) (tt : M Bool) (kx vx : EM) : EM := fun ρ => (eGc own f tg tt (dcStep kx vx) ([], []) ρ).bind fun a ρ' => .ok (.fr (.dic a.1 a.2)) ρ'
/-! ### set comprehensions -/
def scStep (el : EM) (acc : List Int) : M (List Int) := fun ρ => (el ρ).bind fun y ρ1 => match y with
  | .d (.int k) => if acc.length + 1 < 4096 then .ok (acc ++ [k]) ρ1 else .bad
  | _ => .bad
def eSc (own : List Nat) (f : IM) (tg : Val → SM) (tt : M Bool) (el : EM) : M (List Int) := eGc own f tg tt (scStep el) []
/-- sorted({..}), len({..}) -/
def eSortSc (own : List Nat) (f : IM) (tg : Val → SM) (tt : M Bool) (el : EM) : EM := fun ρ => (eSc own f tg tt el ρ).bind fun ns ρ' => .ok (.fr (.lst ((sortSetI ns).map D.int))) ρ'
end DL
set_option maxHeartbeats 2000000
namespace PySem
open Sem (wp)
open AutoSeq1 (wpAny_loadPart')
set_option maxHeartbeats 1000000 in
theorem enumNew {v : Value} {o : Obj} {H : Heap → Prop} (B : Begins v o H) :
    Meets (Builtin.«enumerate.__new__» ⟨[.type "enumerate", v], []⟩) (fun _ R s => H s.heap ∧
      R (.ok (.ret (.ref (s.heap.push o).objs.size))) { s with heap := (s.heap.push o).push { cls := .type "enumerate", data := .fields #[.none, .bool false, .ref s.heap.objs.size, rawInt 0, .none, .none] } }) :=
  .of_wp fun prog w A R s h => by
    obtain ⟨hp, gs, dr, tk, os⟩ := s; obtain ⟨hH, hR⟩ := h
    have sub := sub_enumerate
    have begin : ∀ {A2 : Around} {E : Value → Shared → Prop} {Q : Value → Shared → Prop}, Q (.ref hp.objs.size) ⟨hp.push o, gs, dr, tk, os⟩ → wpAny (model prog w) A2 (pyIter v) Q E ⟨hp, gs, dr, tk, os⟩ :=
      fun q => B.iter prog w _ _ ⟨hp, gs, dr, tk, os⟩ _ hH q
    wp_walk using begin
    refine wpAny_stack_any fun st => wpAny_pure ?_
    split
    · rename_i c _ _ _ _ _
      cases (c == Value.type "enumerate")
      · wp_walk using begin
        exact ⟨_, rfl, hR⟩
      · wp_walk using begin
        exact ⟨_, rfl, hR⟩
    · wp_walk using begin
      exact ⟨_, rfl, hR⟩
theorem enumCall {prog : Program} {w : World} {A : Around} {E : Value → Shared → Prop} {s : Shared} {v : Value} {o : Obj} {H : Heap → Prop} {Q : Value → Shared → Prop} (B : Begins v o H) (hH : H s.heap)
    (k : ∀ h2, IsEnum h2 (s.heap.objs.size + 1) s.heap.objs.size 0 .none → h2.get? s.heap.objs.size = some o → (∀ b u, s.heap.get? b = some u → h2.get? b = some u) → Q (.ref (s.heap.objs.size + 1)) { s with heap := h2 }) :
    wpAny (model prog w) A (call (.type "enumerate") [v]) Q E s := by
  refine callType_new F.called_enumerate (by decide) (F.typeCall_enumerate_1 _) (F.newCall_enumerate_1 _) (fun obj => F.args_object_init_2 obj _) F.entry_enumerate_new (enumNew B) ⟨hH, ?_⟩
  have sz : (s.heap.push o).objs.size = s.heap.objs.size + 1 := Heap.size_push ..
  show _ ∧ _
  rw [sz]
  have new := Heap.get?_push_size (s.heap.push o) (o := { cls := .type "enumerate", data := .fields #[.none, .bool false, .ref s.heap.objs.size, rawInt 0, .none, .none] }) rfl
  rw [sz] at new
  exact ⟨⟨_, new, rfl⟩, k _ new (Heap.get?_push_of_some _ (Heap.get?_push_size _ B.free)) fun b u x => Heap.get?_push_of_some _ (Heap.get?_push_of_some _ x)⟩
theorem enumEndT {prog : Program} {w : World} {A : Around} {E : Value → Shared → Prop} {s : Shared} {e it t : Addr} {i : Nat} {c : Int} {items : Array Value} {old : Value} {Q : Option Value → Shared → Prop} (hA : A.in1.handled = none)
    (en : IsEnum s.heap e it c old) (ti : s.heap.IsTupleIter it t i) (tu : s.heap.IsTuple t items) (no : items[i]? = none) (q : ∀ h2, Heap.ExtBut it s.heap h2 → Q none { s with heap := h2 }) : wpAny (model prog w) A (pyNext (.ref e)) Q E s := by
  have ty : s.TypeIs (.ref e) "enumerate" := ⟨_, en, rfl⟩
  unfold pyNext
  refine wpAny_bind (wpAny_attempt (wpAny_callSpecial?_slot (name := Str.ofString "__next__") ty F.slot_enumerate_next (wpAny_call_entry F.slot_enumerate_next ty F.entry_enumerate_next ?_ (F.args_enumerate_next_1 _))))
  show wpAny _ _ (field (.ref e) 2 >>= _) _ _ _
  refine wpAny_bind (wpAny_field en rfl (x := .ref it) rfl (wpAny_bind (wpAny_nextOf_tuple_end hA ti tu no fun h2 x eb ⟨o, ho, cls⟩ => ?_)))
  exact wpAny_bind (wpAny_isInstance (T := "StopIteration") (b := true) ⟨o, ho, cls⟩ isSubtype_stop (wpAny_pure (q _ eb)))
end PySem
/-! DL20: enumerate, zip, what is walked in a dict. -/
namespace DL
open PySem PySem.Spec PyProof.Rows L2
variable [TabT]
/-- the tuple at a, each item in a new pair -/
def IteT (K : PySem.W.Frag) (a : Addr) : It :=
  ⟨fun i H => ∃ (xs : List V) (x : V), SqT K H a xs ∧ xs[i]? = some x, fun i H v H' => ∃ T x, v = .ref T ∧ H T = none ∧ H' = upd H T (.tup [.int (i : Nat), x]) ∧ ∀ xs, SqT K H a xs → xs[i]? = some x, fun i H => ∃ xs : List V, SqT K H a xs ∧ xs.length ≤ i⟩
theorem turn_enumT {P : Program} {w : World} {K : PySem.W.Frag} {elts : List Expr} {kk : Nat} {tpos : Pos} (a e it : Addr) (n1 : e ≠ it) (n2 : e ≠ a) (n3 : a ≠ it) :
    Turn P w K (.Tuple elts kk tpos) (IteT K a) [e, it] e (fun i h => (∃ old, IsEnum h e it ((i : Nat) : Int) old) ∧ h.IsTupleIter it a i) where
  mem := by simp
  obj := fun i h st b hb => by
    obtain ⟨⟨old, q⟩, o, ho, hc, hd⟩ := st
    rcases List.mem_cons.mp hb with z | z
    · subst z; exact ⟨_, q, fun v r => nomatch r⟩
    · rw [List.mem_singleton] at z; subst z; exact ⟨o, ho, fun v r => by rw [hd] at r; cases r⟩
  keep := fun i h h' st k => ⟨let ⟨old, q⟩ := st.1; ⟨old, k e (by simp) _ q⟩, st.2.at fun o q => k it (by simp) o q⟩
  item := by
    intro X hP hw hK hc i pins s σ H E I hf st hg
    subst hP hw hK
    obtain ⟨⟨old, he⟩, hit⟩ := st
    obtain ⟨xs, x, sx, ex⟩ := hg
    obtain ⟨us, rv, tu, _⟩ := I.tuple sx
    obtain ⟨u, hu, ru⟩ := rv.get ex
    have le : e < s.heap.objs.size := Heap.lt_size he
    have li : it < s.heap.objs.size := let ⟨_, q, _⟩ := hit; Heap.lt_size q
    have hA : X.A.in1.handled = none := I.ok.hd hc
    have lt : i < us.toArray.size := by
      have := (List.getElem?_eq_some_iff.mp hu).1
      simpa using this
    refine wpAny_pyNext_enum_itemD (Draws.tuple hA it a n3 us.toArray) he ⟨hit, tu⟩ lt n1 (by simp [n1, n2]) fun u2 h2 tk px out st2 hT hsz hk => ?_
    obtain rfl : u2 = u := by
      have z : us[i]? = some u2 := by simpa using px
      rw [hu] at z; exact (Option.some.inj z).symm
    refine ⟨_, rfl, wpAny_letOwnedTupleGo_enum (s := { s with heap := h2, toks := tk + 1 }) out fun h3 he3 sb => ?_⟩
    have new : ObjOk X.prog X.w (upd H s.heap.objs.size (.tup [.int (i : Nat), x])) h3 s.heap.objs.size (.tup [.int (i : Nat), x]) :=
      ⟨by show 2 ≤ sizeLine; decide, [.int i tk, u2], .cons ⟨_, rfl⟩ (.cons ru .nil), ⟨_, (sb.2 _ (Nat.ne_of_gt le)).trans hT, rfl, _, rfl⟩⟩
    have I2 : Inv X pins σ (upd H s.heap.objs.size (.tup [.int (i : Nat), x])) { s with heap := h3, toks := tk + 1 } :=
      I.turnedNew (ch := [e, it]) (fun b ob hb q => (sb.2 b (fun z => hb (by simp [z]))).trans (hk b ob (fun z => hb (by simp [z])) (fun z => hb (by simp [z])) q)) hf (Nat.le_refl _) new
    refine ⟨.ref s.heap.objs.size, _, I2, rfl, ⟨_, x, rfl, I.hok.fresh (Nat.le_refl _), rfl, fun ys hy => by rw [I.tuple_inj hy sx]; exact ex⟩, ⟨⟨u2, ?_⟩, st2.1.at fun o q => (sb.2 it (Ne.symm n1)).trans q⟩, fun b hb => ?_⟩
    · rw [show ((i + 1 : Nat) : Int) = (i : Int) + 1 from by omega]; exact he3
    · have lb : b < s.heap.objs.size := by
        rcases List.mem_cons.mp hb with z | z
        · rw [z]; exact le
        · rw [List.mem_singleton.mp z]; exact li
      rw [upd_ne (Nat.ne_of_lt lb)]
      exact (hf b hb).1
  done := by
    intro X hP hw hK hc i pins s σ H E I hf st hg
    subst hP hw hK
    obtain ⟨⟨old, he⟩, hit⟩ := st
    obtain ⟨xs, sx, hx⟩ := hg
    obtain ⟨us, rv, tu, _⟩ := I.tuple sx
    have hA : X.A.in1.handled = none := I.ok.hd hc
    obtain ⟨f0, f1, f2, f3, f4, f5⟩ := hf it (by simp)
    have hl := rv.length
    have hs : us.toArray.size ≤ i := by simp; omega
    exact enumEndT hA he hit tu (by rw [Array.getElem?_eq_none_iff]; exact hs) fun h2 eb => ⟨rfl, I.turned (t' := s.toks) (fun b o hb q => eb b o hb q) f0 f1 f3 f4 f5⟩
  self := fun A i s Q E st h => let ⟨_, q⟩ := st.1; wpAny_pyIter_enum q h
/-- enumerate over a list or a tuple -/
def iEnumA (K : PySem.W.Frag) (ta : TE) : TI := fun σ H R => ta σ H fun v H1 => ∃ a xs, [v] = [.ref a] ∧ ((SqL K H1 a xs ∧ R (Ite K a) H1) ∨ (SqT K H1 a xs ∧ R (IteT K a) H1))
theorem pi_enumA {X : Cx} {e : Expr} {te : TE} {p pos tpos : Pos} {elts : List Expr} {kk : Nat} (hg : Gl X "enumerate") (hm : X.mg "enumerate" = none) (he : PE X e te) (sa : starEach [e] X.env = [(false, eval e X.env)] := by rfl) :
    PI X (.Tuple elts kk tpos) (.Call (.Name "enumerate" p) [e] [] pos) (iEnumA X.K te) := ⟨fun pins s σ H R I h => by
  have ha := pa_cons he (pa_nil (X := X)) sa
  refine Call_ (ld_blt I hg hm boot_enumerate (PyProof.Rows.callWith_type1 (thn (ha.run pos pins s σ H (fun vs H1 => ∃ a xs, vs = [.ref a] ∧ ((SqL X.K H1 a xs ∧ R (Ite X.K a) H1) ∨ (SqT X.K H1 a xs ∧ R (IteT X.K a) H1))) I ?_) fun us s1 ⟨vs, H1, I1, rv, a, xs, ex, q⟩ => ?_) sa rfl))
  · exact h
  subst ex
  rw [Vals.ref1 rv]
  have two : ∀ b ∈ [s1.heap.objs.size + 1, s1.heap.objs.size], FpOk X pins H1 b := fun b hb => by
    have le : s1.heap.objs.size ≤ b := by
      rcases List.mem_cons.mp hb with z | z
      · rw [z]; exact Nat.le_add_right _ _
      · rw [List.mem_singleton.mp z]; exact Nat.le_refl _
    exact I1.fpOk le (I1.hok.fresh le)
  rcases q with ⟨sl, q⟩ | ⟨st, q⟩
  · obtain ⟨its, _, pl, _⟩ := I1.list sl
    refine call_enumerate_list pl.isList fun h2 en li _ keep => wpAny_pyIter_enum en ?_
    exact ⟨_, _, _, _, H1, rfl, I1.kept (t' := s1.toks) keep, turn_enum a (s1.heap.objs.size + 1) s1.heap.objs.size, ⟨⟨.none, en⟩, li, Nat.succ_ne_self _⟩, two, q⟩
  · obtain ⟨its, _, pt, _⟩ := I1.tuple st
    refine enumCall (begins_tuple a its.toArray) pt fun h2 en ob keep => wpAny_pyIter_enum en ?_
    have la : a < s1.heap.objs.size := pt.lt
    have d2 : (s1.heap.objs.size + 1 : Nat) ≠ a := Nat.ne_of_gt (Nat.lt_succ_of_lt la)
    exact ⟨_, _, _, _, H1, rfl, I1.kept (t' := s1.toks) keep, turn_enumT a (s1.heap.objs.size + 1) s1.heap.objs.size (Nat.succ_ne_self _) d2 (Nat.ne_of_lt la), ⟨⟨.none, en⟩, ⟨_, ob, rfl, rfl⟩⟩, two, q⟩⟩
/-! ### the sources -/
def keyToD : Key → D
  | .inl i => .int i
  | .inr x => .str x
/-- a sequence as it is walked: its object, what stays -/
def relQ (K : PySem.W.Frag) (σ : L2.St) : RelT V Src := fun _ F H ρ v src => (∀ i, src.2 = some i → ∃ c m, ρ[i]? = some (.ow c m)) ∧ ∃ a xs, v = .ref a ∧ RepL K F xs src.1 ∧
  ((∀ F' H', Same F' H' → PreI σ src.2 F H F' H' → SqL K H' a xs) ∨ (∀ F' H', Same F' H' → PreI σ src.2 F H F' H' → SqT K H' a xs))
section
variable {X : Cx} {W : WX} {tg e e2 : Expr} {f f2 : EM} {es : List Expr} {g : M (List Val)} {p pos : Pos}
/-- what is known of a sequence's value -/
theorem seq_val {K : PySem.W.Frag} {mg : Str → Option Value} {E : XK} {σ : L2.St} {ρ ρ1 : DEnv} {F H F1 H1 Hb : Hp} {x : Val} {v : V} {R : V → Hp → Prop} (s1 : SR K F1 H1 σ ρ1) (ev : Ev σ ρ F H σ ρ1 F1 H1) (r : VR K σ H F1 H1 ρ1 v x) (q : Out K mg E (relQ K σ) σ ρ F H (seqSrc x ρ1) R) : R v H1 := by
  have lst : ∀ {ds : List D} {F2 : Hp} {ρ2 : DEnv}, SR K F2 H1 σ ρ2 → Rep K F2 v (.lst ds) → relQ K σ H F2 H1 ρ2 v (ds, none) := fun {ds F2 ρ2} s r => by
    cases r with
    | lst e r => exact ⟨(fun _ z => by cases z), _, _, rfl, r, .inl fun F' H' s p => .of (s _ _ (p.1 _ _ e))⟩
  have tup : ∀ {ds : List D} {F2 : Hp} {ρ2 : DEnv}, SR K F2 H1 σ ρ2 → Rep K F2 v (.tup ds) → relQ K σ H F2 H1 ρ2 v (ds, none) := fun {ds F2 ρ2} s r => by
    cases r with
    | tup e r => exact ⟨(fun _ z => by cases z), _, _, rfl, r, .inr fun F' H' s p => (RdLe.of s).sqT ((RdLe.of p.1).sqT e)⟩
  cases x with
  | d x =>
    cases x with
    | lst ds => exact q v F1 H1 s1 ev (lst s1 r)
    | tup ds => exact q v F1 H1 s1 ev (tup s1 r)
    | _ => exact q.elim
  | fr c =>
    cases c with
    | dic ks vs => exact q.elim
    | lst ds =>
      obtain ⟨F2, d, e2, s2, ev2, r2⟩ := fz_ok s1 ev r rfl
      cases e2
      exact q v F2 H1 s2 ev2 (lst s2 r2)
  | sl i =>
    unfold seqSrc at q
    dsimp only at q
    have r1 : σ[i]? = some (some v) := r
    split at q
    · rename_i ds hs
      obtain ⟨ov, g1, u, g2, g3⟩ := s1.slot i _ hs
      rw [r1] at g1; cases g1; cases g2
      exact q v F1 H1 s1 ev (lst s1 g3)
    · rename_i ds hs
      obtain ⟨ov, g1, u, g2, g3⟩ := s1.slot i _ hs
      rw [r1] at g1; cases g1; cases g2
      exact q v F1 H1 s1 ev (tup s1 g3)
    · rename_i ds m hs
      obtain ⟨ov, g1, a, g2, g3, xs, g4, g5⟩ := s1.slot i _ hs
      rw [r1] at g1; cases g1; cases g2
      exact q _ F1 H1 s1 ev ⟨fun j z => by cases z; exact ⟨_, _, hs⟩, a, xs, rfl, g5, .inl fun F' H' s p => .of (p.2 i rfl a _ r1 g4)⟩
    · exact q.elim
def enumL (ds : List D) : List D := ds.zipIdx.map fun p => .tup [.int (p.2 : Nat), p.1]
def iEnu (f : EM) : IM := fun ρ => (f ρ).bind fun x ρ1 => (seqSrc x ρ1).bind fun src ρ2 => .ok (enumL src.1, src.2) ρ2
theorem pair_yld {K : PySem.W.Frag} {F H : Hp} {T : Addr} {x y : V} {d d2 : D} (s : Same F H) (n : H T = none) (r : Rep K F x d) (r2 : Rep K F y d2) : ∃ F', Gr F H F' (upd H T (.tup [x, y])) ∧ Rep K F' (.ref T) (.tup [d, d2]) := by
  have gr := Gr.froz (o := .tup [x, y]) s n
  exact ⟨_, gr, .tup (.inl (.inl upd_same)) (.cons (r.mono (.of gr.ext)) (.cons (r2.mono (.of gr.ext)) .nil))⟩
theorem enum_get {ds : List D} {i : Nat} {d : D} (h : ds[i]? = some d) : (enumL ds)[i]? = some (.tup [.int (i : Nat), d]) := by
  unfold enumL
  rw [List.getElem?_map, List.getElem?_zipIdx, h]
  simp
theorem enumL_len {ds : List D} : (enumL ds).length = ds.length := by unfold enumL; rw [List.length_map, List.length_zipIdx]
theorem di_enum {elts : List Expr} {kk : Nat} {tpos : Pos} (hg : Gl X "enumerate") (hm : X.mg "enumerate" = none) (he : DE X W e f) (sa : starEach [e] X.env = [(false, eval e X.env)] := by rfl) :
    DI X W (.Tuple elts kk tpos) (.Call (.Name "enumerate" p) [e] [] pos) (iEnu f) := pi_conseq (pi_enumA hg hm he sa) fun σ H R ⟨F, ρ, sr, q⟩ => by
  refine ⟨F, ρ, sr, (Out.bind (rel := relV X.K σ) q).mono fun v H1 ⟨x, F1, ρ1, e1, s1, ev1, r1, o1⟩ => ?_⟩
  refine seq_val (mg := X.mg) (E := fun c d H => W c d σ H) (R := fun v H1 => ∃ a xs, [v] = [V.ref a] ∧ ((SqL X.K H1 a xs ∧ R (Ite X.K a) H1) ∨ (SqT X.K H1 a xs ∧ R (IteT X.K a) H1))) (Hb := H) s1 ev1 r1 ?_
  refine (Out.bind (rel := relQ X.K σ) o1).mono fun v H2 ⟨src, F2, ρ2, e2, s2, ev2, ⟨hk, a, xs, ea, rl, hq⟩, o2⟩ => ?_
  subst ea
  have pre0 : PreI σ src.2 F2 H2 F2 H2 := ⟨Same.refl _, fun _ _ _ _ _ h => h⟩
  refine ⟨a, xs, rfl, ?_⟩
  rcases hq with hq | hq
  · refine .inl ⟨hq F2 H2 s2.sub pre0, o2 _ F2 H2 s2 ev2 ⟨⟨fun i F3 H3 hi s p => ?_, fun i y F3 H3 H4 hi s p hy => ?_, fun i F3 H3 hi s p => ?_⟩, hk⟩⟩
    · have hl : i < xs.length := by rw [rl.length, ← enumL_len]; exact hi
      exact ⟨xs, xs[i], hq F3 H3 s p, List.getElem?_eq_getElem hl⟩
    · obtain ⟨T, x, rfl, nT, rfl, hx⟩ := hy
      obtain ⟨d, h1, h2⟩ := rl.getV (hx xs (hq F3 H3 s p))
      obtain ⟨F4, gr, rp⟩ := pair_yld s nT (.int (i : Nat)) (h2.mono (.of p.1))
      exact ⟨_, F4, enum_get h1, gr, rp⟩
    · exact ⟨xs, hq F3 H3 s p, by rw [rl.length, ← enumL_len]; exact hi⟩
  · refine .inr ⟨hq F2 H2 s2.sub pre0, o2 _ F2 H2 s2 ev2 ⟨⟨fun i F3 H3 hi s p => ?_, fun i y F3 H3 H4 hi s p hy => ?_, fun i F3 H3 hi s p => ?_⟩, hk⟩⟩
    · have hl : i < xs.length := by rw [rl.length, ← enumL_len]; exact hi
      exact ⟨xs, xs[i], hq F3 H3 s p, List.getElem?_eq_getElem hl⟩
    · obtain ⟨T, x, rfl, nT, rfl, hx⟩ := hy
      obtain ⟨d, h1, h2⟩ := rl.getV (hx xs (hq F3 H3 s p))
      obtain ⟨F4, gr, rp⟩ := pair_yld s nT (.int (i : Nat)) (h2.mono (.of p.1))
      exact ⟨_, F4, enum_get h1, gr, rp⟩
    · exact ⟨xs, hq F3 H3 s p, by rw [rl.length, ← enumL_len]; exact hi⟩
/-! ### a dict's keys; whatever is walked -/
def dicSrc (x : Val) (ρ : DEnv) : R Src := (x.fzA ρ).bind fun y ρ1 => match y with
  | .d (.dic ks _) => .ok (ks.map keyToD, none) ρ1
  | _ => .bad
def isDic (ρ : DEnv) (x : Val) : Bool := match x.peek ρ with
  | some (.dic _ _) => true
  | _ => false
def anySrc (x : Val) (ρ : DEnv) : R Src := if isDic ρ x = true then dicSrc x ρ else seqSrc x ρ
def iAny (f : EM) : IM := fun ρ => (f ρ).bind anySrc
end
end DL
set_option maxHeartbeats 2000000
/-! DL21: statements that are not reached; more rules to read by. -/
namespace DL
open PySem PySem.Spec PyProof.Rows L2
variable [TabT]
theorem CR_isi {X : Cx} : CallR X (.builtin "isinstance") (rIsi X.K) := call_isi
end DL
set_option maxHeartbeats 2000000
/-! DL22: reading dicts, sets, enumerate, slices, chains. -/
namespace DL
open PySem PySem.Spec PyProof.Rows L2
section
variable {ρ ρ' as : DEnv} {i : Nat} {x y : Val} {d a b : D} {c : Cont} {m : Md} {f g h : EM} {t u : M Bool} {l r : OM} {op op' : D → D → Option Val} {Q : Val → DEnv → Prop} {QB : Bool → DEnv → Prop} {QO : Option Int → DEnv → Prop} {QI : Src → DEnv → Prop} {X : Ex → DEnv → Prop} {P : Po}
/-! the slots written out anew behind a call, a comprehension -/
def PB (ρ : DEnv) (G : DEnv → Prop) : Prop := G ρ
theorem b_pb {G : DEnv → Prop} (e : ρ = ρ') (q : G ρ') : PB ρ G := by subst e; exact q
theorem b_callFP {Fm : FM} {xs : List Val} (h1 : argSlots ρ xs = some as) (h2 : lentOnce xs = true) (q : (Fm as).wp (fun x as' => PB (putBack ρ xs as') fun ρ1 => Q x ρ1) (fun x as' => X x (putBack ρ xs as'))) : (callF Fm xs ρ).wp Q X := b_callF h1 h2 q
/-! slices -/
theorem b_sl (q : (f ρ).wp (fun x ρ1 => (l ρ1).wp (fun lo ρ2 => (r ρ2).wp (fun hi ρ3 => (unV (fun d => sliceD d lo hi) x ρ3).wp Q X) X) X) X) : (eSl f l r ρ).wp Q X :=
  b_bind (R.wp_mono q (fun _ _ h => b_bind (R.wp_mono h (fun _ _ h => b_bind h) fun _ _ h => h)) fun _ _ h => h)
theorem b_oNone (q : QO none ρ) : (oNone ρ).wp QO X := q
def oV (x : Val) : OM := fun ρ1 => match x with
  | .d (.int k) => .ok (some k) ρ1
  | _ => .bad
theorem b_oSome (q : (f ρ).wp (fun x ρ1 => (oV x ρ1).wp QO X) X) : (oSome f ρ).wp QO X := b_bind (R.wp_mono q (fun x ρ1 h => by cases x <;> first | exact h | (rename_i d; cases d <;> exact h)) fun _ _ h => h)
theorem b_oV {k : Int} (q : QO (some k) ρ) : (oV (.d (.int k)) ρ).wp QO X := q
/-! is None -/
def isnV (x : Val) : EM := fun ρ1 => match x with
  | .sl _ => .bad
  | x => .ok (.d (.bl (isNonV x))) ρ1
def notnV (x : Val) : EM := fun ρ1 => match x with
  | .sl _ => .bad
  | x => .ok (.d (.bl (!isNonV x))) ρ1
theorem b_isN (q : (f ρ).wp (fun x ρ1 => (isnV x ρ1).wp Q X) X) : (eIsN f ρ).wp Q X := b_bind q
theorem b_notN (q : (f ρ).wp (fun x ρ1 => (notnV x ρ1).wp Q X) X) : (eNotN f ρ).wp Q X := b_bind q
theorem b_isnD (q : Q (.d (.bl (isNonV (.d d)))) ρ) : (isnV (.d d) ρ).wp Q X := q
theorem b_notnD (q : Q (.d (.bl !(isNonV (.d d)))) ρ) : (notnV (.d d) ρ).wp Q X := q
/-! chains -/
theorem b_chain (q : (f ρ).wp (fun x ρ1 => (g ρ1).wp (fun y ρ2 => (opV op x y ρ2).wp (fun z ρ3 => ∃ k, z = .d (.bl k) ∧ (k = true → (h ρ3).wp (fun w ρ4 => (opV op' y w ρ4).wp Q X) X) ∧ (k = false → Q (.d (.bl false)) ρ3)) X) X) X) : (eChain op op' f g h ρ).wp Q X :=
  b_bind (R.wp_mono q (fun x ρ1 h1 => b_bind (R.wp_mono h1 (fun y ρ2 h2 => b_bind (R.wp_mono h2 (fun z ρ3 h3 => by
    obtain ⟨k, rfl, h4, h5⟩ := h3
    cases k
    · exact h5 rfl
    · exact b_bind (h4 rfl)) fun _ _ h => h)) fun _ _ h => h)) fun _ _ h => h)
/-! dicts -/
def ikeys (ks : List Int) : List Key := ks.map Sum.inl
theorem dLook_map {v : Int} {g : Int → D} : ∀ {ks : List Int}, v ∈ ks → dLook (ikeys ks) (ks.map g) (.inl v) = some (g v)
  | [], hv => by simp at hv
  | k :: ks, hv => by
    show dLook (.inl k :: ikeys ks) (g k :: ks.map g) (.inl v) = _
    unfold dLook
    by_cases e : k = v
    · subst e; rw [if_pos rfl]
    · rw [if_neg (fun z => e (Sum.inl.inj z))]
      exact dLook_map (by
        rcases List.mem_cons.mp hv with z | z
        · exact absurd z.symm e
        · exact z)
theorem dLook_no {v : Int} {g : Int → D} : ∀ {ks : List Int}, v ∉ ks → dLook (ikeys ks) (ks.map g) (.inl v) = none
  | [], hv => rfl
  | k :: ks, hv => by
    show dLook (.inl k :: ikeys ks) (g k :: ks.map g) (.inl v) = _
    unfold dLook
    rw [if_neg (fun z => hv (by rw [Sum.inl.inj z]; exact List.mem_cons_self))]
    exact dLook_no fun z => hv (List.mem_cons_of_mem _ z)
theorem dSet_map {v : Int} {d : D} {g : Int → D} : ∀ {ks : List Int}, dSet (ikeys ks) (ks.map g) (.inl v) d = ks.map fun w => if w = v then d else g w
  | [] => rfl
  | k :: ks => by
    show dSet (.inl k :: ikeys ks) (g k :: ks.map g) (.inl v) d = _
    unfold dSet
    rw [dSet_map, List.map_cons]
    congr 1
    by_cases e : k = v
    · subst e; rw [if_pos rfl, if_pos rfl]
    · rw [if_neg (fun z => e (Sum.inl.inj z)), if_neg e]
theorem any_key {v : Int} {ks : List Int} : ((ikeys ks).any fun j => decide (j = (Sum.inl v : Key))) = decide (v ∈ ks) := by
  induction ks with
  | nil => simp [ikeys]
  | cons k ks ih =>
    show (decide ((Sum.inl k : Key) = Sum.inl v) || (ikeys ks).any _) = _
    rw [ih]
    by_cases e : k = v
    · subst e; simp
    · have e2 : ¬ (Sum.inl k : Key) = Sum.inl v := fun z => e (Sum.inl.inj z)
      have e3 : ¬ v = k := fun z => e z.symm
      simp [e2, e3]
theorem x_inD {v : Int} {ks : List Int} {g : Int → D} (h1 : x.peek ρ = some (.int v)) (h2 : y.peek ρ = some (.dic (ikeys ks) (ks.map g))) (q : Q (.d (.bl (decide (v ∈ ks)))) ρ) : (opV inD x y ρ).wp Q X :=
  b_opV (z := .d (.bl (decide (v ∈ ks)))) h1 h2 (by
    show some (Val.d (.bl (dLook (ikeys ks) (ks.map g) (.inl v)).isSome)) = _
    by_cases e : v ∈ ks
    · rw [dLook_map e]; simp [e]
    · rw [dLook_no e]; simp [e]) q
theorem x_ninD {v : Int} {ks : List Int} {g : Int → D} (h1 : x.peek ρ = some (.int v)) (h2 : y.peek ρ = some (.dic (ikeys ks) (ks.map g))) (q : Q (.d (.bl (!decide (v ∈ ks)))) ρ) : (opV ninD x y ρ).wp Q X :=
  b_opV (z := .d (.bl (!decide (v ∈ ks)))) h1 h2 (by
    show some (Val.d (.bl (!(dLook (ikeys ks) (ks.map g) (.inl v)).isSome))) = _
    by_cases e : v ∈ ks
    · rw [dLook_map e]; simp [e]
    · rw [dLook_no e]; simp [e]) q
theorem x_storeD {v : Int} {ks : List Int} {g : Int → D} (e : ρ[i]? = some (.ow (.dic (ikeys ks) (ks.map g)) m)) (hm : m = .own ∨ m = .bor) (h2 : y.peek ρ = some (.int v)) (hv : v ∈ ks) (hl : ks.length < 16777216)
    (q : P.nx (ρ.set i (.ow (.dic (ikeys ks) (ks.map fun w => if w = v then d else g w)) m))) : (storeV i (.d d) y ρ).wp P := by
  refine s_storeV ?_ q
  unfold storeV
  rw [h2, e]
  dsimp only
  have e2 : storeO (.dic (ikeys ks) (ks.map g)) (.int v) d = some (.dic (ikeys ks) (ks.map fun w => if w = v then d else g w)) := by
    unfold storeO
    show (if (ikeys ks).length < 16777216 then some (dPut (ikeys ks) (ks.map g) (.inl v) d) else none) = _
    rw [if_pos (by unfold ikeys; rw [List.length_map]; exact hl)]
    unfold dPut
    rw [any_key, if_pos (by simpa using hv), dSet_map]
  rw [e2]
  dsimp only
  unfold mutS
  rw [e]
  rcases hm with rfl | rfl <;> rfl
/-- a new key at the end -/
theorem x_storeDn {v : Int} {ks : List Int} {g : Int → D} (e : ρ[i]? = some (.ow (.dic (ikeys ks) (ks.map g)) m)) (hm : m = .own ∨ m = .bor) (h2 : y.peek ρ = some (.int v)) (hv : v ∉ ks) (hl : ks.length < 16777216)
    (q : P.nx (ρ.set i (.ow (.dic (ikeys (ks ++ [v])) (ks.map g ++ [d])) m))) : (storeV i (.d d) y ρ).wp P := by
  refine s_storeV ?_ q
  unfold storeV
  rw [h2, e]
  dsimp only
  have e2 : storeO (.dic (ikeys ks) (ks.map g)) (.int v) d = some (.dic (ikeys (ks ++ [v])) (ks.map g ++ [d])) := by
    unfold storeO
    show (if (ikeys ks).length < 16777216 then some (dPut (ikeys ks) (ks.map g) (.inl v) d) else none) = _
    rw [if_pos (by unfold ikeys; rw [List.length_map]; exact hl)]
    unfold dPut
    rw [any_key, if_neg (by simpa using hv)]
    unfold ikeys
    rw [List.map_append]
    rfl
  rw [e2]
  dsimp only
  unfold mutS
  rw [e]
  rcases hm with rfl | rfl <;> rfl
/-! what is walked -/
theorem b_ienu (q : (f ρ).wp (fun x ρ1 => (seqSrc x ρ1).wp (fun src ρ2 => QI (enumL src.1, src.2) ρ2) X) X) : (iEnu f ρ).wp QI X := b_bind (R.wp_mono q (fun _ _ h => b_bind h) fun _ _ h => h)
theorem b_iany (q : (f ρ).wp (fun x ρ1 => (anySrc x ρ1).wp QI X) X) : (iAny f ρ).wp QI X := b_bind q
theorem b_anyDic {ks : List Key} {vs : List D} (e : x.peek ρ = some (.dic ks vs)) (e2 : x.fzA ρ = .ok (.d (.dic ks vs)) ρ') (q : QI (ks.map keyToD, none) ρ') : (anySrc x ρ).wp QI X := by
  unfold anySrc isDic
  rw [e]
  dsimp only
  rw [if_pos rfl]
  unfold dicSrc
  rw [e2]
  exact q
theorem b_anySeq (e : isDic ρ x = false) (q : (seqSrc x ρ).wp QI X) : (anySrc x ρ).wp QI X := by
  unfold anySrc
  rw [e, if_neg (by decide)]
  exact q
theorem keys_ints {ks : List Int} : (ikeys ks).map keyToD = ks.map D.int := by unfold ikeys; rw [List.map_map]; rfl
theorem b_seqT {ds : List D} (q : QI (ds, none) ρ) : (seqSrc (.d (.tup ds)) ρ).wp QI X := q
theorem b_seqL {ds : List D} (q : QI (ds, none) ρ) : (seqSrc (.d (.lst ds)) ρ).wp QI X := q
theorem b_seqF {ds : List D} (q : QI (ds, none) ρ) : (seqSrc (.fr (.lst ds)) ρ).wp QI X := q
theorem b_seqO {ds : List D} (e : ρ[i]? = some (.ow (.lst ds) m)) (q : QI (ds, some i) ρ) : (seqSrc (.sl i) ρ).wp QI X := by
  unfold seqSrc
  dsimp only
  rw [e]
  exact q
theorem s_gsCons {g : Val → SM} {h : List D → SM} {ds : List D} (q : (g (.d d) ρ).wp { P with nx := fun ρ1 => (h ds ρ1).wp P }) : (gsCons g h (d :: ds) ρ).wp P := by
  show ((g (.d d) ρ).thenS (h ds)).wp P
  cases e : g (.d d) ρ <;> rw [e] at q <;> exact q
theorem s_gsNil (q : P.nx ρ) : (gsNil [] ρ).wp P := q
theorem s_tupG {n : Nat} {h : List D → SM} {ds : List D} (e : x.peek ρ = some (.tup ds)) (hl : ds.length = n) (q : (h ds ρ).wp P) : (tupG n h x ρ).wp P := by
  unfold tupG
  rw [e]
  dsimp only
  rw [if_pos hl]
  exact q
/-! comprehensions, whatever they fill -/
theorem b_gc {α : Type} {own : List Nat} {fi : IM} {tg : Val → SM} {tt : M Bool} {st : α → M α} {a0 : α} {QA : α → DEnv → Prop} (q : (fi ρ).wp (fun src ρ1 => inB own ρ1 = true ∧ src.1.length < 16777216 ∧ (compA own tg tt st src.1 a0 (wipeD (lockS src.2 ρ1) own)).wp (fun ys ρ2 => QA ys (unlk src.2 ρ1 (backD (lockS src.2 ρ1) ρ2 own))) fun _ _ => False) X) : (eGc own fi tg tt st a0 ρ).wp QA X := by
  refine b_bind (R.wp_mono q (fun src ρ1 h => ?_) fun _ _ h => h)
  obtain ⟨h1, h2, h3⟩ := h
  rw [if_pos ⟨h1, h2⟩]
  cases e : compA own tg tt st src.1 a0 (wipeD (lockS src.2 ρ1) own) with
  | ok ys ρ2 => rw [e] at h3; exact h3
  | ex x ρ2 => rw [e] at h3; exact h3.elim
  | bad => rw [e] at h3; exact h3.elim
/-- {int of d for d in ds}, sorted -/
theorem b_sortSc {own : List Nat} {fi : IM} {tg : Val → SM} {tt : M Bool} {el : EM} (q : (fi ρ).wp (fun src ρ1 => inB own ρ1 = true ∧ src.1.length < 16777216 ∧ (compA own tg tt (scStep el) src.1 [] (wipeD (lockS src.2 ρ1) own)).wp (fun ns ρ2 => Q (.fr (.lst ((sortSetI ns).map D.int))) (unlk src.2 ρ1 (backD (lockS src.2 ρ1) ρ2 own))) fun _ _ => False) X) : (eSortSc own fi tg tt el ρ).wp Q X := b_bind (b_gc q)
theorem b_dc {own : List Nat} {fi : IM} {tg : Val → SM} {tt : M Bool} {kx vx : EM} (q : (fi ρ).wp (fun src ρ1 => inB own ρ1 = true ∧ src.1.length < 16777216 ∧ (compA own tg tt (dcStep kx vx) src.1 ([], []) (wipeD (lockS src.2 ρ1) own)).wp (fun a ρ2 => Q (.fr (.dic a.1 a.2)) (unlk src.2 ρ1 (backD (lockS src.2 ρ1) ρ2 own))) fun _ _ => False) X) : (eDc own fi tg tt kx vx ρ).wp Q X := b_bind (b_gc q)
theorem b_dcStep {kx vx : EM} {acc : List Key × List D} {QA : List Key × List D → DEnv → Prop} (q : (kx ρ).wp (fun y ρ1 => ∃ k, y = .d (.int k) ∧ (vx ρ1).wp (fun z ρ2 => ∃ d, z = .d d ∧ QA (if acc.1.any (fun j => decide (j = (Sum.inl k : Key))) = true then (acc.1, dSet acc.1 acc.2 (.inl k) d) else (acc.1 ++ [.inl k], acc.2 ++ [d])) ρ2) X) X) : (dcStep kx vx acc ρ).wp QA X := b_bind (R.wp_mono q (fun y ρ1 h => by
  obtain ⟨k, rfl, h⟩ := h
  refine b_bind (R.wp_mono h (fun z ρ2 h => ?_) fun _ _ h => h)
  obtain ⟨d, rfl, h⟩ := h
  show R.wp (if _ then _ else _) QA X
  split
  · rename_i e; rw [if_pos e] at h; exact h
  · rename_i e; rw [if_neg e] at h; exact h) fun _ _ h => h)
/-- .. over what a typed list stands for -/
theorem comp_map {β : Type} {own : List Nat} {tg : Val → SM} {tt : M Bool} {el : EM} {QD : List D → DEnv → Prop} {XD : Ex → DEnv → Prop} {bs : List β} {dd : β → D} (p : β → Bool) (g : β → D)
    (h : ∀ b ∈ bs, (tg (.d (dd b)) ρ).wp { nx := fun ρ1 => (tt ρ1).wp (fun k ρ2 => k = p b ∧ (k = false → wipeD ρ2 own = ρ) ∧ (k = true → (el ρ2).wp (fun y ρ3 => y = .d (g b) ∧ wipeD ρ3 own = ρ) fun _ _ => False)) fun _ _ => False, rt := fun _ _ => False })
    (q : QD ((bs.filter p).map g) ρ) : (compD own tg tt el (bs.map dd) [] ρ).wp QD XD := by
  refine comp_inv (fun k acc ρ' => ρ' = ρ ∧ acc = ((bs.take k).filter p).map g) (bs.map dd) 0 [] ρ ⟨rfl, rfl⟩ (fun j d acc ρ' hj hI => ?_) fun acc ρ' hI => ?_
  · obtain ⟨rfl, rfl⟩ := hI
    rw [List.getElem?_map] at hj
    obtain ⟨b, hb, rfl⟩ := Option.map_eq_some_iff.mp hj
    have tk : bs.take (0 + j + 1) = bs.take (0 + j) ++ [b] := by rw [Nat.zero_add, List.take_add_one, hb]; rfl
    have h1 := h b (List.mem_of_getElem? hb)
    cases e1 : tg (.d (dd b)) ρ' with
    | nx ρ1 =>
      rw [e1] at h1
      refine R.wp_mono (Q' := _) h1 (fun b ρ2 h2 => ?_) fun _ _ h => h
      obtain ⟨hb, h3, h4⟩ := h2
      refine ⟨fun hf => ⟨h3 hf, ?_⟩, fun ht => R.wp_mono (h4 ht) (fun y ρ3 h5 => ?_) fun _ _ h => h⟩
      · rw [tk, List.filter_append]
        subst hf
        simp [hb.symm]
      · obtain ⟨rfl, e⟩ := h5
        refine ⟨_, rfl, e, ?_⟩
        rw [tk, List.filter_append]
        subst ht
        simp [hb.symm]
    | rt x ρ1 => rw [e1] at h1; exact h1.elim
    | bk ρ1 => rw [e1] at h1; exact h1.elim
    | ct ρ1 => rw [e1] at h1; exact h1.elim
    | ex x ρ1 => rw [e1] at h1; exact h1.elim
    | bad => rw [e1] at h1; exact h1.elim
  · obtain ⟨rfl, rfl⟩ := hI
    rw [Nat.zero_add, List.length_map, List.take_length]
    exact q
theorem bls_map : ∀ (bs : List Bool), blsD (bs.map D.bl) = some bs
  | [] => rfl
  | b :: bs => by
    show (blsD (bs.map D.bl)).map _ = _
    rw [bls_map bs]
    rfl
def SelK (idx : List Nat) (xs : List Val) (G : List Val → Prop) : Prop := ∃ zs, selL idx xs = some zs ∧ G zs
theorem b_selK {idx : List Nat} {xs zs : List Val} {G : List Val → Prop} (e : selL idx xs = some zs) (q : G zs) : SelK idx xs G := ⟨zs, e, q⟩
theorem b_callK {idx : List Nat} {Fm : FM} {gl gk : M (List Val)} (q : (gl ρ).wp (fun xs ρ1 => (gk ρ1).wp (fun ys ρ2 => SelK idx (xs ++ ys) fun zs => (callF Fm zs ρ2).wp Q X) X) X) : (eCallK idx Fm gl gk ρ).wp Q X := by
  refine b_bind (R.wp_mono q (fun xs ρ1 h => b_bind (R.wp_mono h (fun ys ρ2 h => ?_) fun _ _ h => h)) fun _ _ h => h)
  obtain ⟨zs, e, h⟩ := h
  rw [e]
  exact h
/-! truth values in the middle of something -/
def BlK (x : Val) (G : Bool → Prop) : Prop := ∃ k, x = .d (.bl k) ∧ G k
theorem b_blK {k : Bool} {G : Bool → Prop} (q : G k) : BlK (.d (.bl k)) G := ⟨k, rfl, q⟩
def DtK (x : Val) (G : D → Prop) : Prop := ∃ d, x = .d d ∧ G d
theorem b_dtK {d : D} {G : D → Prop} (q : G d) : DtK (.d d) G := ⟨d, rfl, q⟩
def IntK (x : Val) (G : Int → Prop) : Prop := ∃ k, x = .d (.int k) ∧ G k
theorem b_intK {k : Int} {G : Int → Prop} (q : G k) : IntK (.d (.int k)) G := ⟨k, rfl, q⟩
/-- the two ways of a test -/
def Way (k : Bool) (A B : Prop) : Prop := (k = true → A) ∧ (k = false → B)
theorem way_t {k : Bool} {A B : Prop} (e : k = true) (q : A) : Way k A B := ⟨fun _ => q, fun h => by rw [e] at h; cases h⟩
theorem way_f {k : Bool} {A B : Prop} (e : k = false) (q : B) : Way k A B := ⟨fun h => (by rw [e] at h; cases h), fun _ => q⟩
theorem b_eAndK (q : (f ρ).wp (fun x ρ1 => BlK x fun k => Way k ((g ρ1).wp Q X) (Q (.d (.bl false)) ρ1)) X) : (eAnd f g ρ).wp Q X := b_eAnd (R.wp_mono q (fun _ _ ⟨k, e, h⟩ => ⟨k, e, h.1, h.2⟩) fun _ _ h => h)
theorem b_eOrK (q : (f ρ).wp (fun x ρ1 => BlK x fun k => Way k (Q (.d (.bl true)) ρ1) ((g ρ1).wp Q X)) X) : (eOr f g ρ).wp Q X := b_eOr (R.wp_mono q (fun _ _ ⟨k, e, h⟩ => ⟨k, e, h.1, h.2⟩) fun _ _ h => h)
theorem b_eNotK (q : (f ρ).wp (fun x ρ1 => BlK x fun k => Q (.d (.bl !k)) ρ1) X) : (eNot f ρ).wp Q X := b_eNot q
theorem b_chainK (q : (f ρ).wp (fun x ρ1 => (g ρ1).wp (fun y ρ2 => (opV op x y ρ2).wp (fun z ρ3 => BlK z fun k => Way k ((h ρ3).wp (fun w ρ4 => (opV op' y w ρ4).wp Q X) X) (Q (.d (.bl false)) ρ3)) X) X) X) : (eChain op op' f g h ρ).wp Q X := by
  refine b_chain (R.wp_mono q (fun x ρ1 h1 => R.wp_mono h1 (fun y ρ2 h2 => R.wp_mono h2 (fun z ρ3 h3 => ?_) fun _ _ h => h) fun _ _ h => h) fun _ _ h => h)
  obtain ⟨k, e, h4⟩ := h3
  exact ⟨k, e, h4.1, h4.2⟩
theorem b_andW (q : (t ρ).wp (fun k ρ1 => Way k ((u ρ1).wp QB X) (QB false ρ1)) X) : (tAndM t u ρ).wp QB X := b_and q
theorem b_orW (q : (t ρ).wp (fun k ρ1 => Way k (QB true ρ1) ((u ρ1).wp QB X)) X) : (tOrM t u ρ).wp QB X := b_or q
theorem b_eIfW (q : (t ρ).wp (fun k ρ1 => Way k ((f ρ1).wp Q X) ((g ρ1).wp Q X)) X) : (eIf t f g ρ).wp Q X := b_eIf q
theorem s_ifW {s1 s2 : SM} (q : (t ρ).wp (fun k ρ1 => Way k ((s1 ρ1).wp P) ((s2 ρ1).wp P)) P.ex) : (sIf t s1 s2 ρ).wp P := s_if q
theorem b_dcStepK {kx vx : EM} {acc : List Key × List D} {QA : List Key × List D → DEnv → Prop} (q : (kx ρ).wp (fun y ρ1 => IntK y fun k => (vx ρ1).wp (fun z ρ2 => DtK z fun d => QA (if acc.1.any (fun j => decide (j = (Sum.inl k : Key))) = true then (acc.1, dSet acc.1 acc.2 (.inl k) d) else (acc.1 ++ [.inl k], acc.2 ++ [d])) ρ2) X) X) : (dcStep kx vx acc ρ).wp QA X := b_dcStep q
/-- what is walked by a comprehension: the slots are there, not too many items -/
def CompK (own : List Nat) (ρ : DEnv) (n : Nat) (G : Prop) : Prop := inB own ρ = true ∧ n < 16777216 ∧ G
theorem b_compK {own : List Nat} {n : Nat} {G : Prop} (h1 : inB own ρ = true) (h2 : n < 16777216) (q : G) : CompK own ρ n G := ⟨h1, h2, q⟩
theorem b_lcK {own : List Nat} {fi : IM} {tg : Val → SM} {tt : M Bool} {el : EM} (q : (fi ρ).wp (fun src ρ1 => CompK own ρ1 src.1.length ((compD own tg tt el src.1 [] (wipeD (lockS src.2 ρ1) own)).wp (fun ys ρ2 => PB (unlk src.2 ρ1 (backD (lockS src.2 ρ1) ρ2 own)) fun ρ3 => Q (.fr (.lst ys)) ρ3) fun _ _ => False)) X) : (eLc own fi tg tt el ρ).wp Q X := b_lc q
theorem b_sortScK {own : List Nat} {fi : IM} {tg : Val → SM} {tt : M Bool} {el : EM} (q : (fi ρ).wp (fun src ρ1 => CompK own ρ1 src.1.length ((compA own tg tt (scStep el) src.1 [] (wipeD (lockS src.2 ρ1) own)).wp (fun ns ρ2 => PB (unlk src.2 ρ1 (backD (lockS src.2 ρ1) ρ2 own)) fun ρ3 => Q (.fr (.lst ((sortSetI ns).map D.int))) ρ3) fun _ _ => False)) X) : (eSortSc own fi tg tt el ρ).wp Q X := b_sortSc q
theorem b_dcK {own : List Nat} {fi : IM} {tg : Val → SM} {tt : M Bool} {kx vx : EM} (q : (fi ρ).wp (fun src ρ1 => CompK own ρ1 src.1.length ((compA own tg tt (dcStep kx vx) src.1 ([], []) (wipeD (lockS src.2 ρ1) own)).wp (fun a ρ2 => PB (unlk src.2 ρ1 (backD (lockS src.2 ρ1) ρ2 own)) fun ρ3 => Q (.fr (.dic a.1 a.2)) ρ3) fun _ _ => False)) X) : (eDc own fi tg tt kx vx ρ).wp Q X := b_dc q
end
end DL
set_option maxHeartbeats 2000000
/-! DL23: a dict comprehension put under a name; tests for None. -/
namespace DL
open PySem PySem.Spec PyProof.Rows L2
end DL
set_option maxHeartbeats 2000000
/-! DL24: repr of single values, an empty dict. -/
namespace DL
open PySem PySem.Spec PyProof.Rows L2
variable [TabT]
def reprX : List D → Option Val
  | [.bl b] => some (.d (.str (if b then "True" else "False")))
  | [.non] => some (.d (.str "None"))
  | [.str x] => if (reprText x).length ≤ sizeLine then some (.d (.str (reprText x))) else none
  | xs => reprD xs
def rReprX (K : PySem.W.Frag) : List V → Hp → VK → Prop := fun xs H Q => (∃ b, xs = [.bl b] ∧ Q (.str (if b then "True" else "False")) H) ∨ (xs = [.non] ∧ Q (.str "None") H) ∨ (∃ x, xs = [.str x] ∧ (reprText x).length ≤ sizeLine ∧ Q (.str (reprText x)) H) ∨
  (rReprD K xs H Q ∨ ∃ i, xs = [.int i] ∧ i.natAbs.log2 < 1920 ∧ Q (.str (toString i)) H)
theorem CR_reprX {X : Cx} (hG : X.A.guards = some []) (hu : X.A.units + 64 < cLine) : CallR X (.builtin "repr") (rReprX X.K) := by
  intro pins s σ H xs us Q I r h
  rcases h with ⟨b, rfl, q⟩ | ⟨rfl, q⟩ | ⟨x, rfl, hx, q⟩ | h
  · obtain ⟨u, rfl, ru⟩ := vals1 r
    cases (show u = Value.bool b from ru)
    exact PySem.P.repr_of_bool ⟨.str _, H, I.tok _, ⟨_, rfl⟩, q⟩
  · obtain ⟨u, rfl, ru⟩ := vals1 r
    cases (show u = Value.none from ru)
    exact PySem.P.repr_of_none ⟨.str _, H, I.tok _, ⟨_, rfl⟩, q⟩
  · obtain ⟨u, rfl, ru⟩ := vals1 r
    obtain ⟨t, rfl⟩ := (show ∃ t, u = Value.str x t from ru)
    exact PySem.P.repr_of_str ⟨.str _, H, I.tok _, ⟨_, rfl⟩, q⟩ hx
  · exact CR_repr hG hu pins s σ H xs us Q I r h
theorem cs_reprX {K : PySem.W.Frag} : CallS K (rReprX K) reprX := by
  intro F H vs as z Q s ra e q
  unfold reprX at e
  split at e
  · cases e
    obtain ⟨v, rfl, r⟩ := rep1 ra
    obtain rfl := r.bl
    exact .inl ⟨_, rfl, vn_str s q⟩
  · cases e
    obtain ⟨v, rfl, r⟩ := rep1 ra
    obtain rfl := r.non
    exact .inr (.inl ⟨rfl, vn_str s q⟩)
  · split at e
    · rename_i hx
      cases e
      obtain ⟨v, rfl, r⟩ := rep1 ra
      obtain rfl := r.str
      exact .inr (.inr (.inl ⟨_, rfl, hx, vn_str s q⟩))
    · cases e
  · exact .inr (.inr (.inr (cs_repr F H vs _ z Q s ra e q)))
section
variable {X : Cx} {W : WX} {pos : Pos}
def eNewD : EM := fun ρ => .ok (.fr (.dic [] [])) ρ
theorem de_newD : DE X W (.Dict [] [] pos) eNewD := pe_conseq pe_dnewK fun σ H Q ⟨F, ρ, sr, q⟩ => fun p hp =>
  q (.ref p) F _ ((Gr.fresh sr.sub hp).sr sr) (Gr.fresh sr.sub hp).ev (fr_vr sr hp (Same.free sr.sub hp) ⟨[], upd_same, rfl, .nil⟩)
theorem b_newD {ρ : DEnv} {Q : Val → DEnv → Prop} {Xx : Ex → DEnv → Prop} (q : Q (.fr (.dic [] [])) ρ) : (eNewD ρ).wp Q Xx := q
end
end DL
set_option maxHeartbeats 1000000
/-! DL25: if and for within a generator's body; yield from a list. -/
namespace L2
open PySem PySem.Spec PyProof.Rows GenW
end L2
set_option maxHeartbeats 1000000
/-! DL26: yield from a list. -/
namespace L2
open PySem PySem.Spec PyProof.Rows GenW
end L2
set_option maxHeartbeats 1000000
/-! DL27: generators' bodies, read by functions of the slots and of what is out. -/
namespace DL
open PySem PySem.Spec PyProof.Rows L2
variable [TabT]
inductive GRS where
  | nx (ds : List D) (ρ : DEnv) | rt (ds : List D) (x : Val) (ρ : DEnv) | bk (ds : List D) (ρ : DEnv) | ct (ds : List D) (ρ : DEnv) | ex (x : Ex) (ρ : DEnv) | bad
abbrev GM := List D → DEnv → GRS
def R.bindG {α : Type} (r : R α) (g : α → DEnv → GRS) : GRS := match r with
  | .ok a ρ => g a ρ
  | .ex x ρ => .ex x ρ
  | .bad => .bad
def OutG (K : PySem.W.Frag) (mg : Str → Option Value) (W : WX) (σ : L2.St) (ρ : DEnv) (F H : Hp) (r : GRS) (D : GEnds) : Prop :=
  match r with
  | .nx ds ρ' => ∀ ys σ' F' H', SR K F' H' σ' ρ' → Ev σ ρ F H σ' ρ' F' H' → RepL K F' ys ds → D.nx ys σ' H'
  | .bk ds ρ' => ∀ ys σ' F' H', SR K F' H' σ' ρ' → Ev σ ρ F H σ' ρ' F' H' → RepL K F' ys ds → D.bk ys σ' H'
  | .ct ds ρ' => ∀ ys σ' F' H', SR K F' H' σ' ρ' → Ev σ ρ F H σ' ρ' F' H' → RepL K F' ys ds → D.ct ys σ' H'
  | .rt ds x ρ' => ∀ ys v σ' F' H', SR K F' H' σ' ρ' → Ev σ ρ F H σ' ρ' F' H' → RepL K F' ys ds → VR K σ' H F' H' ρ' v x → D.rt ys v H'
  | .ex x ρ' => ∀ cls dd σ' F' H', SR K F' H' σ' ρ' → Ev σ ρ F H σ' ρ' F' H' → XR K mg F' x cls dd → W cls dd σ' H'
  | .bad => False
section
variable {K : PySem.W.Frag} {mg : Str → Option Value} {W : WX} {σ σ1 : L2.St} {ρ ρ1 : DEnv} {F H F1 H1 : Hp}
theorem OutG.from {r : GRS} {D : GEnds} (h : OutG K mg W σ ρ F H r D) (ev : Ev σ ρ F H σ1 ρ1 F1 H1) : OutG K mg W σ1 ρ1 F1 H1 r D := by
  cases r with
  | nx ds ρ' => exact fun ys σ' F' H' s e => h ys σ' F' H' s (ev.trans e)
  | bk ds ρ' => exact fun ys σ' F' H' s e => h ys σ' F' H' s (ev.trans e)
  | ct ds ρ' => exact fun ys σ' F' H' s e => h ys σ' F' H' s (ev.trans e)
  | rt ds x ρ' => exact fun ys v σ' F' H' s e y r => h ys v σ' F' H' s (ev.trans e) y (r.base ev.dom)
  | ex x ρ' => exact fun c d σ' F' H' s e r => h c d σ' F' H' s (ev.trans e) r
  | bad => exact h
theorem Out.bindG {α β : Type} {rel : RelT β α} {r : R α} {g : α → DEnv → GRS} {D : GEnds} (h : OutG K mg W σ ρ F H (r.bindG g) D) :
    Out K mg (fun c d H => W c d σ H) rel σ ρ F H r (fun v H1 => ∃ x F1 ρ1, r = .ok x ρ1 ∧ SR K F1 H1 σ ρ1 ∧ Ev σ ρ F H σ ρ1 F1 H1 ∧ rel H F1 H1 ρ1 v x ∧ OutG K mg W σ ρ F H (g x ρ1) D) := by
  cases r with
  | ok x ρ' => exact fun v F' H' s e r => ⟨x, F', ρ', rfl, s, e, r, h⟩
  | ex x ρ' => exact fun c d F' H' s e r => h c d σ F' H' s e r
  | bad => exact h
end
section
variable {X : Cx} {W : WX} {e c : Expr} {f : EM} {t : M Bool} {st : Stmt} {sts sts' : List Stmt} {g h : GM} {pos yp : Pos}
/-- a statement that hands out nothing -/
def gPl (g : SM) : GM := fun ds ρ => match g ρ with
  | .nx ρ' => .nx ds ρ'
  | .rt x ρ' => .rt ds x ρ'
  | .bk ρ' => .bk ds ρ'
  | .ct ρ' => .ct ds ρ'
  | .ex x ρ' => .ex x ρ'
  | .bad => .bad
def gSkip : GM := .nx
def gSeq (g h : GM) : GM := fun ds ρ => match g ds ρ with
  | .nx ds' ρ' => h ds' ρ'
  | r => r
def gIf (t : M Bool) (g h : GM) : GM := fun ds ρ => (t ρ).bindG fun b ρ1 => if b = true then g ds ρ1 else h ds ρ1
def gYield (f : EM) : GM := fun ds ρ => if ds.length < 16777216 then (fz f ρ).bindG fun x ρ1 => match x with
  | .d d => .nx (ds ++ [d]) ρ1
  | _ => .bad else .bad
/-- yield from a list that is new -/
def gFromL (f : EM) : GM := fun ds ρ => (f ρ).bindG fun x ρ1 => match x with
  | .fr (.lst es) => if ds.length + es.length ≤ 16777216 then .nx (ds ++ es) ρ1 else .bad
  | _ => .bad
/-! ### for -/
def unlkG (lk : Option Nat) (ρ0 : DEnv) : GRS → GRS
  | .nx ds ρ => .nx ds (unlk lk ρ0 ρ)
  | .bk ds ρ => .bk ds (unlk lk ρ0 ρ)
  | .ct ds ρ => .ct ds (unlk lk ρ0 ρ)
  | .rt _ _ _ => .bad
  | .ex x ρ => .ex x (unlk lk ρ0 ρ)
  | .bad => .bad
theorem OutG.lock {K : PySem.W.Frag} {mg : Str → Option Value} {σ : L2.St} {ρ : DEnv} {F H : Hp} {lk : Option Nat} {r : GRS} {D : GEnds} (sr : SR K F H σ ρ) (h : OutG K mg W σ ρ F H (unlkG lk ρ r) D) : OutG K mg W σ (lockS lk ρ) F H r D := by
  cases r with
  | nx ds ρ' => exact fun ys σ' F' H' s e => let ⟨s2, e2⟩ := unlk_ok sr s e; h ys σ' F' H' s2 e2
  | bk ds ρ' => exact fun ys σ' F' H' s e => let ⟨s2, e2⟩ := unlk_ok sr s e; h ys σ' F' H' s2 e2
  | ct ds ρ' => exact fun ys σ' F' H' s e => let ⟨s2, e2⟩ := unlk_ok sr s e; h ys σ' F' H' s2 e2
  | ex x ρ' => exact fun c d σ' F' H' s e r => let ⟨s2, e2⟩ := unlk_ok sr s e; h c d σ' F' H' s2 e2 r
  | bad => exact h
  | rt ds x ρ' => exact h.elim
def loopG (tg : Val → SM) (body : GM) : List D → GM
  | [], ys, ρ => .nx ys ρ
  | d :: ds, ys, ρ => match tg (.d d) ρ with
    | .nx ρ1 => match body ys ρ1 with
      | .nx ys2 ρ2 => loopG tg body ds ys2 ρ2
      | .ct ys2 ρ2 => loopG tg body ds ys2 ρ2
      | .bk ys2 ρ2 => .nx ys2 ρ2
      | r => r
    | _ => .bad
def gFor (f : IM) (tg : Val → SM) (body : GM) : GM := fun ys ρ => (f ρ).bindG fun src ρ1 => unlkG src.2 ρ1 (loopG tg body src.1 ys (lockS src.2 ρ1))
end
end DL
set_option maxHeartbeats 1000000
/-! DL28: generator defs, and list(g(..)). -/
namespace DL
open PySem PySem.Spec PyProof.Rows L2
variable [TabT]
def OutL (K : PySem.W.Frag) (σ : L2.St) (as : DEnv) (F H : Hp) (r : RF) (Q : List V → Hp → Prop) : Prop := match r with
  | .ret (.fr (.lst ds)) as' => ∀ ys F' H', SR K F' H' σ as' → Ev σ as F H σ as' F' H' → RepL K F' ys ds → Q ys H'
  | _ => False
def spL (K : PySem.W.Frag) (n : Nat) (Fm : FM) : SpG := fun vs H Q _ => ∃ F as, SR K F H (vs.map some) as ∧ as.length = n ∧ OutL K (vs.map some) as F H (Fm as) Q
structure GenFn (P : Program) (w : World) (K : PySem.W.Frag) (mg : Str → Option Value) (base : Heap) (k : Nat) (f : Addr) (fd : FuncData) (ps : List Str) (Fm : FM) : Prop where
  fn : L2.GFn P w K mg base k f fd ps (spL K ps.length Fm)
  lst : ∀ as, (∃ ds as', Fm as = .ret (.fr (.lst ds)) as') ∨ Fm as = .bad
theorem GenFn.mono {P : Program} {w : World} {K : PySem.W.Frag} {mg : Str → Option Value} {base : Heap} {j k : Nat} {f : Addr} {fd : FuncData} {ps : List Str} {Fm : FM} (G : GenFn P w K mg base j f fd ps Fm) (h : j ≤ k) : GenFn P w K mg base k f fd ps Fm := by
  refine ⟨⟨G.fn.len, fun A outer s H args us vs Q E hr e0 hb r hsp => codeAny_mono (G.fn.run A outer s H args us vs Q E (hr.mono h) e0 hb r hsp) fun r s' hq => ?_⟩, G.lst⟩
  cases r with
  | error e => exact hq
  | ok fl =>
    cases fl with
    | next => exact hq
    | brk => exact hq
    | cont => exact hq
    | ret u =>
      obtain ⟨a, g, c, h1, h2, h3, h4, h5, h6, h7, h8, h9, hS⟩ := hq
      exact ⟨a, g, c, h1, h2, h3, h4, h5, h6, h7, h8, h9, fun A S s2 hr => hS A S s2 (hr.mono h)⟩
end DL
set_option maxHeartbeats 1000000
/-! DL29: d.get(k, x), d.get(k). -/
namespace DL
open PySem PySem.Spec PyProof.Rows L2
variable [TabT]
def isDicB (x : Option D) : Bool := match x with
  | some (.dic _ _) => true
  | _ => false
def getV (x y z : Val) : EM := fun ρ => match x.peek ρ, y.peek ρ, z with
  | some (.dic ks vs), some k, .d d => match keyD k with
    | some j => .ok (.d ((dLook ks vs j).getD d)) ρ
    | none => .bad
  | _, _, _ => .bad
def eGet2 (f g h : EM) : EM := fun ρ => (f ρ).bind fun x ρ1 => if isDicB (x.peek ρ1) = true then (g ρ1).bind fun y ρ2 => (fz h ρ2).bind fun z ρ3 => getV x y z ρ3 else .bad
end DL
set_option maxHeartbeats 1000000
/-! DL30: dict(pairs). -/
namespace DL
open PySem PySem.Spec PyProof.Rows L2
variable [TabT]
def stepP (acc : List Key × List D) (kd : Key × D) : List Key × List D := match dPut acc.1 acc.2 kd.1 kd.2 with
  | .dic ks ds => (ks, ds)
  | .lst _ => acc
def mergeD (acc : List Key × List D) (kds : List (Key × D)) : List Key × List D := kds.foldl stepP acc
end DL
set_option maxHeartbeats 1000000
/-! DL31: xs[a::k] of a list. -/
namespace L2
open PySem PySem.Spec PyProof.Rows
def stepIx (lo st : Option Int) (n : Nat) : List Nat := sliceRange (sliceBounds lo none st n).1 (sliceBounds lo none st n).2.1 (sliceBounds lo none st n).2.2
def stepL {α : Type} (xs : List α) (lo st : Option Int) : List α := (stepIx lo st xs.length).filterMap (xs[·]?)
end L2
namespace DL
open PySem PySem.Spec PyProof.Rows L2
variable [TabT]
theorem RepL.step {K : PySem.W.Frag} {F : Hp} {vs : List V} {ds : List D} (r : RepL K F vs ds) (lo st : Option Int) : RepL K F (stepL vs lo st) (stepL ds lo st) := by
  unfold stepL
  rw [r.length]
  generalize stepIx lo st ds.length = ix
  induction ix with
  | nil => exact .nil
  | cons i ix ih =>
    rw [List.filterMap_cons, List.filterMap_cons]
    cases h : ds[i]? with
    | none =>
      have : vs[i]? = none := by
        have := List.getElem?_eq_none_iff.mp h
        exact List.getElem?_eq_none_iff.mpr (by rw [r.length]; exact this)
      rw [this]; exact ih
    | some d =>
      obtain ⟨v, hv, rv⟩ := r.get h
      rw [hv]; exact .cons rv ih
end DL
set_option maxHeartbeats 1000000
/-! DL32: zip of two lists or two tuples. -/
namespace DL
open PySem PySem.Spec PyProof.Rows L2 RZ
variable [TabT]
def zipL (ds es : List D) : List D := (ds.zip es).map fun p => .tup [p.1, p.2]
def zpSrc (xs : List Val) : M Src := fun ρ => match xs with
  | [.d (.lst ds), .d (.lst es)] => .ok (zipL ds es, none) ρ
  | [.d (.tup ds), .d (.tup es)] => .ok (zipL ds es, none) ρ
  | _ => .bad
def iZp (f g : EM) : IM := fun ρ => ((aCons (fz f) (aCons (fz g) aNil)) ρ).bind zpSrc
end DL
set_option maxHeartbeats 1000000
/-! DL33: list(g(k=..)) of a generator def. -/
namespace DL
open PySem PySem.Spec PyProof.Rows L2
end DL
set_option maxHeartbeats 1000000
/-! DL34: is, is not between booleans. -/
namespace DL
open PySem PySem.Spec PyProof.Rows L2
variable [TabT]
def isBD : D → D → Option Val
  | .bl a, .bl b => some (.d (.bl (decide (a = b))))
  | _, _ => none
def isnotBD : D → D → Option Val
  | .bl a, .bl b => some (.d (.bl (!decide (a = b))))
  | _, _ => none
end DL
set_option maxHeartbeats 1000000
/-! DL35: {k: v, ..} of written keys and values. -/
namespace DL
open PySem PySem.Spec PyProof.Rows L2
variable [TabT]
def eDispC (kds : List (Key × D)) : EM := fun ρ => .ok (.fr (.dic (mergeD ([], []) kds).1 (mergeD ([], []) kds).2)) ρ
/-- keys and values, as they stand in the text -/
inductive KVC : List (Key × V) → List (Key × D) → Prop
  | nil : KVC [] []
  | int {k : Key} {i : Int} {a : List (Key × V)} {b : List (Key × D)} : KVC a b → KVC ((k, .int i) :: a) ((k, .int i) :: b)
  | str {k : Key} {i : Str} {a : List (Key × V)} {b : List (Key × D)} : KVC a b → KVC ((k, .str i) :: a) ((k, .str i) :: b)
theorem KVC.rep {K : PySem.W.Frag} {F : Hp} : ∀ {a : List (Key × V)} {b : List (Key × D)}, KVC a b → Paired (fun (a : Key × V) (b : Key × D) => a.1 = b.1 ∧ Rep K F a.2 b.2) a b
  | _, _, .nil => .nil
  | _, _, .int h => .cons ⟨rfl, .int _⟩ h.rep
  | _, _, .str h => .cons ⟨rfl, .str _⟩ h.rep
end DL
set_option maxHeartbeats 1000000
/-! DL36: range with a step. -/
namespace DL
open PySem PySem.Spec PyProof.Rows L2
end DL
set_option maxHeartbeats 1000000
/-! DL37: T.get(k, x), T a dict of the module with text keys and int values. -/
namespace L2
open PySem PySem.Spec PyProof.Rows
def tabGet (ks : List (Str × Int)) (z : Str) : Option Int := (ks.find? fun k => k.1 == z).map (·.2)
end L2
namespace DL
open PySem PySem.Spec PyProof.Rows L2
variable [TabT]
def tabD (ks : List (Str × Int)) (s : Str) (d : D) : D := match tabGet ks s with
  | some i => .int i
  | none => d
def getKV (ks : List (Str × Int)) (y z : Val) : EM := fun ρ => match y.peek ρ, z with
  | some (.str s), .d d => .ok (.d (tabD ks s d)) ρ
  | _, _ => .bad
def eGetK (ks : List (Str × Int)) (g h : EM) : EM := fun ρ => (g ρ).bind fun y ρ1 => (fz h ρ1).bind fun z ρ2 => getKV ks y z ρ2
end DL
set_option maxHeartbeats 1000000
/-! DL38: reading rules for generators' bodies and for DL29..DL37. -/
namespace DL
open PySem PySem.Spec PyProof.Rows L2
structure PoG where
  nx : List D → DEnv → Prop
  bk : List D → DEnv → Prop := fun _ _ => False
  ct : List D → DEnv → Prop := fun _ _ => False
def GRS.wp (r : GRS) (P : PoG) : Prop := match r with
  | .nx ds ρ => P.nx ds ρ
  | .bk ds ρ => P.bk ds ρ
  | .ct ds ρ => P.ct ds ρ
  | _ => False
def NoX : Ex → DEnv → Prop := fun _ _ => False
section
variable {P : PoG} {ρ ρ1 : DEnv} {ds : List D} {g h : GM} {f : EM} {t : M Bool} {α : Type}
theorem g_bind {r : R α} {k : α → DEnv → GRS} (q : r.wp (fun a ρ => (k a ρ).wp P) NoX) : (r.bindG k).wp P := by
  cases r with
  | ok a ρ => exact q
  | ex x ρ => exact q.elim
  | bad => exact q.elim
theorem g_seq (q : (g ds ρ).wp { P with nx := fun ds1 ρ1 => (h ds1 ρ1).wp P }) : (gSeq g h ds ρ).wp P := by
  unfold gSeq
  cases e : g ds ρ with
  | nx ds1 ρ1 => rw [e] at q; exact q
  | bk ds1 ρ1 => rw [e] at q; exact q
  | ct ds1 ρ1 => rw [e] at q; exact q
  | rt ds1 x ρ1 => rw [e] at q; exact q.elim
  | ex x ρ1 => rw [e] at q; exact q.elim
  | bad => rw [e] at q; exact q.elim
theorem g_skip (q : P.nx ds ρ) : (gSkip ds ρ).wp P := q
theorem g_pl {s : SM} (q : (s ρ).wp { nx := fun ρ1 => P.nx ds ρ1, rt := fun _ _ => False, bk := fun ρ1 => P.bk ds ρ1, ct := fun ρ1 => P.ct ds ρ1 }) : (gPl s ds ρ).wp P := by
  unfold gPl
  cases e : s ρ with
  | nx ρ1 => rw [e] at q; exact q
  | bk ρ1 => rw [e] at q; exact q
  | ct ρ1 => rw [e] at q; exact q
  | rt x ρ1 => rw [e] at q; exact q.elim
  | ex x ρ1 => rw [e] at q; exact q.elim
  | bad => rw [e] at q; exact q.elim
theorem g_if (q : (t ρ).wp (fun k ρ1 => Way k ((g ds ρ1).wp P) ((h ds ρ1).wp P)) NoX) : (gIf t g h ds ρ).wp P := g_bind (R.wp_mono q (fun k ρ1 w => by
  cases k with
  | true => exact w.1 rfl
  | false => exact w.2 rfl) fun _ _ z => z)
theorem g_yield (hl : ds.length < 16777216) (q : (fz f ρ).wp (fun x ρ1 => DtK x fun d => P.nx (ds ++ [d]) ρ1) NoX) : (gYield f ds ρ).wp P := by
  unfold gYield
  rw [if_pos hl]
  exact g_bind (R.wp_mono q (fun x ρ1 ⟨d, e, z⟩ => by subst e; exact z) fun _ _ z => z)
theorem g_fromL (q : (f ρ).wp (fun x ρ1 => ∃ es, x = .fr (.lst es) ∧ ds.length + es.length ≤ 16777216 ∧ P.nx (ds ++ es) ρ1) NoX) : (gFromL f ds ρ).wp P :=
  g_bind (R.wp_mono q (fun x ρ1 ⟨es, e, hl, z⟩ => by subst e; dsimp only; rw [if_pos hl]; exact z) fun _ _ z => z)
theorem g_for {fi : IM} {tg : Val → SM} {body : GM} (q : (fi ρ).wp (fun src ρ1 => (unlkG src.2 ρ1 (loopG tg body src.1 ds (lockS src.2 ρ1))).wp P) NoX) : (gFor fi tg body ds ρ).wp P := g_bind q
end
section
variable {ρ : DEnv} {x y z : Val} {d : D} {f g h : EM} {Q : Val → DEnv → Prop} {QI : Src → DEnv → Prop} {X : Ex → DEnv → Prop}
theorem b_get2 (q : (f ρ).wp (fun x ρ1 => isDicB (x.peek ρ1) = true ∧ (g ρ1).wp (fun y ρ2 => (fz h ρ2).wp (fun z ρ3 => (getV x y z ρ3).wp Q X) X) X) X) : (eGet2 f g h ρ).wp Q X :=
  b_bind (R.wp_mono q (fun x ρ1 ⟨e, k⟩ => by rw [if_pos e]; exact b_bind (R.wp_mono k (fun _ _ k => b_bind k) fun _ _ z => z)) fun _ _ z => z)
theorem x_getV {v : Int} {ks : List Int} {r : Int → D} (h1 : x.peek ρ = some (.dic (ikeys ks) (ks.map r))) (h2 : y.peek ρ = some (.int v)) (q : Q (.d (if v ∈ ks then r v else d)) ρ) : (getV x y (.d d) ρ).wp Q X := by
  unfold getV
  rw [h1, h2]
  show (R.ok (Val.d ((dLook (ikeys ks) (ks.map r) (.inl v)).getD d)) ρ).wp Q X
  by_cases e : v ∈ ks
  · rw [dLook_map e]; rw [if_pos e] at q; exact q
  · rw [dLook_no e]; rw [if_neg e] at q; exact q
theorem b_getK {ks : List (Str × Int)} (q : (g ρ).wp (fun y ρ2 => (fz h ρ2).wp (fun z ρ3 => (getKV ks y z ρ3).wp Q X) X) X) : (eGetK ks g h ρ).wp Q X := b_bind (R.wp_mono q (fun _ _ k => b_bind k) fun _ _ z => z)
theorem b_dispC {kds : List (Key × D)} (q : Q (.fr (.dic (mergeD ([], []) kds).1 (mergeD ([], []) kds).2)) ρ) : (eDispC kds ρ).wp Q X := q
theorem b_zp (q : ((aCons (fz f) (aCons (fz g) aNil)) ρ).wp (fun xs ρ1 => (zpSrc xs ρ1).wp QI X) X) : (iZp f g ρ).wp QI X := b_bind q
theorem b_zpL {ds es : List D} (q : QI (zipL ds es, none) ρ) : (zpSrc [.d (.lst ds), .d (.lst es)] ρ).wp QI X := q
theorem b_zpT {ds es : List D} (q : QI (zipL ds es, none) ρ) : (zpSrc [.d (.tup ds), .d (.tup es)] ρ).wp QI X := q
end
end DL
set_option maxHeartbeats 1000000
/-! DL39: reading without a split; literal loops; loops over typed lists. -/
namespace DL
open PySem PySem.Spec PyProof.Rows L2
section
variable {ρ ρ' : DEnv} {i : Nat} {x y : Val} {d : D} {f g h : EM} {t u : M Bool} {op op' : D → D → Option Val} {Q : Val → DEnv → Prop} {QB : Bool → DEnv → Prop} {QI : Src → DEnv → Prop} {X : Ex → DEnv → Prop} {P : Po}
def AndV (Q : Val → DEnv → Prop) (k : Bool) (ρ1 : DEnv) : Val → DEnv → Prop := fun y ρ2 => BlK y fun k2 => ρ2 = ρ1 ∧ Q (.d (.bl (k && k2))) ρ1
def OrV (Q : Val → DEnv → Prop) (k : Bool) (ρ1 : DEnv) : Val → DEnv → Prop := fun y ρ2 => BlK y fun k2 => ρ2 = ρ1 ∧ Q (.d (.bl (k || k2))) ρ1
theorem b_andV {k k2 : Bool} (q : Q (.d (.bl (k && k2))) ρ) : AndV Q k ρ (.d (.bl k2)) ρ := ⟨k2, rfl, rfl, q⟩
theorem b_orV {k k2 : Bool} (q : Q (.d (.bl (k || k2))) ρ) : OrV Q k ρ (.d (.bl k2)) ρ := ⟨k2, rfl, rfl, q⟩
theorem b_eAnd2 (q : (f ρ).wp (fun x ρ1 => BlK x fun k => (g ρ1).wp (AndV Q k ρ1) fun _ _ => False) X) : (eAnd f g ρ).wp Q X := by
  refine b_eAnd (R.wp_mono q (fun x ρ1 h => ?_) fun _ _ h => h)
  obtain ⟨k, rfl, h⟩ := h
  refine ⟨k, rfl, fun hk => ?_, fun hk => ?_⟩
  · subst hk
    refine R.wp_mono h (fun y ρ2 h2 => ?_) fun _ _ z => z.elim
    obtain ⟨k2, rfl, rfl, h3⟩ := h2
    exact h3
  · subst hk
    cases e : g ρ1 with
    | ok y ρ2 =>
      rw [e] at h
      obtain ⟨k2, rfl, rfl, h3⟩ := h
      exact h3
    | ex y ρ2 => rw [e] at h; exact h.elim
    | bad => rw [e] at h; exact h.elim
theorem b_eOr2 (q : (f ρ).wp (fun x ρ1 => BlK x fun k => (g ρ1).wp (OrV Q k ρ1) fun _ _ => False) X) : (eOr f g ρ).wp Q X := by
  refine b_eOr (R.wp_mono q (fun x ρ1 h => ?_) fun _ _ h => h)
  obtain ⟨k, rfl, h⟩ := h
  refine ⟨k, rfl, fun hk => ?_, fun hk => ?_⟩
  · subst hk
    cases e : g ρ1 with
    | ok y ρ2 =>
      rw [e] at h
      obtain ⟨k2, rfl, rfl, h3⟩ := h
      exact h3
    | ex y ρ2 => rw [e] at h; exact h.elim
    | bad => rw [e] at h; exact h.elim
  · subst hk
    refine R.wp_mono h (fun y ρ2 h2 => ?_) fun _ _ z => z.elim
    obtain ⟨k2, rfl, rfl, h3⟩ := h2
    exact h3
theorem b_chain2 (q : (f ρ).wp (fun x ρ1 => (g ρ1).wp (fun y ρ2 => (opV op x y ρ2).wp (fun z ρ3 => BlK z fun k => (h ρ3).wp (fun w ρ4 => (opV op' y w ρ4).wp (AndV Q k ρ3) fun _ _ => False) fun _ _ => False) X) X) X) : (eChain op op' f g h ρ).wp Q X := by
  refine b_chain (R.wp_mono q (fun x ρ1 h1 => R.wp_mono h1 (fun y ρ2 h2 => R.wp_mono h2 (fun z ρ3 h3 => ?_) fun _ _ h => h) fun _ _ h => h) fun _ _ h => h)
  obtain ⟨k, rfl, h4⟩ := h3
  refine ⟨k, rfl, fun hk => ?_, fun hk => ?_⟩
  · subst hk
    refine R.wp_mono h4 (fun w ρ4 h5 => R.wp_mono h5 (fun v ρ5 h6 => ?_) fun _ _ z => z.elim) fun _ _ z => z.elim
    obtain ⟨k2, rfl, rfl, h7⟩ := h6
    exact h7
  · subst hk
    cases e : h ρ3 with
    | ok w ρ4 =>
      rw [e] at h4
      have h4 : (opV op' y w ρ4).wp _ _ := h4
      cases e2 : opV op' y w ρ4 with
      | ok v ρ5 =>
        rw [e2] at h4
        obtain ⟨k2, rfl, rfl, h7⟩ := h4
        exact h7
      | ex y ρ2 => rw [e2] at h4; exact h4.elim
      | bad => rw [e2] at h4; exact h4.elim
    | ex y ρ2 => rw [e] at h4; exact h4.elim
    | bad => rw [e] at h4; exact h4.elim
/-- loops over a written list -/
theorem loop_nil {tg : Val → SM} {body : SM} (q : P.nx ρ) : (loopD tg body [] ρ).wp P := q
theorem loop_cons {tg : Val → SM} {body : SM} {ds : List D} (q : (tg (.d d) ρ).wp { nx := fun ρ1 => (body ρ1).wp { P with nx := fun ρ2 => (loopD tg body ds ρ2).wp P, ct := fun ρ2 => (loopD tg body ds ρ2).wp P, bk := P.nx }, rt := fun _ _ => False }) : (loopD tg body (d :: ds) ρ).wp P := by
  unfold loopD
  cases e1 : tg (.d d) ρ with
  | nx ρ1 =>
    rw [e1] at q
    have q : (body ρ1).wp _ := q
    dsimp only
    cases e2 : body ρ1 <;> rw [e2] at q <;> first | exact q | exact q.elim
  | rt x ρ1 => rw [e1] at q; exact q.elim
  | bk ρ1 => rw [e1] at q; exact q.elim
  | ct ρ1 => rw [e1] at q; exact q.elim
  | ex x ρ1 => rw [e1] at q; exact q.elim
  | bad => rw [e1] at q; exact q.elim
/-- a loop over what a typed list stands for -/
theorem loop_map {β : Type} {tg : Val → SM} {body : SM} {bs : List β} {dd : β → D} (I : Nat → DEnv → Prop) (h0 : I 0 ρ)
    (hs : ∀ (j : Nat) (b : β) ρ, bs[j]? = some b → I j ρ → (tg (.d (dd b)) ρ).wp { nx := fun ρ1 => (body ρ1).wp { P with nx := I (j + 1), ct := I (j + 1), bk := P.nx }, rt := fun _ _ => False })
    (he : ∀ ρ, I bs.length ρ → P.nx ρ) : (loopD tg body (bs.map dd) ρ).wp P := by
  refine loop_inv I _ 0 _ h0 (fun j dd' ρ hj hI => ?_) fun ρ hI => ?_
  · rw [List.getElem?_map] at hj
    obtain ⟨b, hb, rfl⟩ := Option.map_eq_some_iff.mp hj
    rw [Nat.zero_add] at hI ⊢
    exact hs j b ρ hb hI
  · rw [Nat.zero_add, List.length_map] at hI
    exact he ρ hI
/-- comprehensions over a written list -/
theorem comp_nil {own : List Nat} {tg : Val → SM} {tt : M Bool} {el : EM} {acc : List D} {QD : List D → DEnv → Prop} {XD : Ex → DEnv → Prop} (q : QD acc ρ) : (compD own tg tt el [] acc ρ).wp QD XD := q
theorem comp_cons {own : List Nat} {tg : Val → SM} {tt : M Bool} {el : EM} {acc ds : List D} {QD : List D → DEnv → Prop} {XD : Ex → DEnv → Prop}
    (q : (tg (.d d) ρ).wp { nx := fun ρ1 => (tt ρ1).wp (fun b ρ2 => Way b ((el ρ2).wp (fun y ρ3 => DtK y fun yd => PB (wipeD ρ3 own) fun ρ4 => (compD own tg tt el ds (acc ++ [yd]) ρ4).wp QD XD) fun _ _ => False) (PB (wipeD ρ2 own) fun ρ4 => (compD own tg tt el ds acc ρ4).wp QD XD)) fun _ _ => False, rt := fun _ _ => False }) : (compD own tg tt el (d :: ds) acc ρ).wp QD XD := by
  unfold compD
  cases e1 : tg (.d d) ρ with
  | nx ρ1 =>
    rw [e1] at q
    have q : (tt ρ1).wp _ _ := q
    dsimp only
    cases e2 : tt ρ1 with
    | ok b ρ2 =>
      rw [e2] at q
      have q : Way b _ _ := q
      dsimp only
      cases b with
      | false => rw [if_neg (by decide)]; exact q.2 rfl
      | true =>
        rw [if_pos rfl]
        have h2 := q.1 rfl
        cases e3 : el ρ2 with
        | ok y ρ3 =>
          rw [e3] at h2
          obtain ⟨yd, rfl, h3⟩ := h2
          exact h3
        | ex x ρ3 => rw [e3] at h2; exact h2.elim
        | bad => rw [e3] at h2; exact h2.elim
    | ex x ρ2 => rw [e2] at q; exact q.elim
    | bad => rw [e2] at q; exact q.elim
  | rt x ρ1 => rw [e1] at q; exact q.elim
  | bk ρ1 => rw [e1] at q; exact q.elim
  | ct ρ1 => rw [e1] at q; exact q.elim
  | ex x ρ1 => rw [e1] at q; exact q.elim
  | bad => rw [e1] at q; exact q.elim
theorem compN {own : List Nat} {tg : Val → SM} {tt : M Bool} {el : EM} {acc ds : List D} {QD : List D → DEnv → Prop} {XD : Ex → DEnv → Prop} (e : ρ = ρ') (q : (compD own tg tt el ds acc ρ').wp QD XD) : (compD own tg tt el ds acc ρ).wp QD XD := by subst e; exact q
theorem loopN {tg : Val → SM} {body : SM} {ds : List D} (e : ρ = ρ') (q : (loopD tg body ds ρ').wp P) : (loopD tg body ds ρ).wp P := by subst e; exact q
/-- what one item of a comprehension gives -/
structure ItK (k0 : Bool) (g0 : D) (own : List Nat) (ρ : DEnv) (el : EM) (k : Bool) (ρ2 : DEnv) : Prop where
  t : k = k0
  w : k = false → wipeD ρ2 own = ρ
  e : k = true → (el ρ2).wp (fun y ρ3 => y = .d g0 ∧ wipeD ρ3 own = ρ) fun _ _ => False
theorem b_itK {k : Bool} {g0 : D} {own : List Nat} {ρ ρ2 : DEnv} {el : EM} (hw : wipeD ρ2 own = ρ) (q : k = true → (el ρ2).wp (fun y ρ3 => y = .d g0 ∧ wipeD ρ3 own = ρ) fun _ _ => False) : ItK k g0 own ρ el k ρ2 := ⟨rfl, fun _ => hw, q⟩
theorem comp_mapK {β : Type} {own : List Nat} {tg : Val → SM} {tt : M Bool} {el : EM} {QD : List D → DEnv → Prop} {XD : Ex → DEnv → Prop} {bs : List β} {dd : β → D} {p : β → Bool} {g : β → D}
    (h : ∀ b ∈ bs, (tg (.d (dd b)) ρ).wp { nx := fun ρ1 => (tt ρ1).wp (ItK (p b) (g b) own ρ el) fun _ _ => False, rt := fun _ _ => False })
    (q : QD ((bs.filter p).map g) ρ) : (compD own tg tt el (bs.map dd) [] ρ).wp QD XD := by
  refine comp_map p g (fun b hb => ?_) q
  have h1 := h b hb
  cases e : tg (.d (dd b)) ρ with
  | nx ρ1 =>
    rw [e] at h1
    exact R.wp_mono (Q' := _) h1 (fun k ρ2 h2 => ⟨h2.t, h2.w, h2.e⟩) fun _ _ z => z
  | rt x ρ1 => rw [e] at h1; exact h1.elim
  | bk ρ1 => rw [e] at h1; exact h1.elim
  | ct ρ1 => rw [e] at h1; exact h1.elim
  | ex x ρ1 => rw [e] at h1; exact h1.elim
  | bad => rw [e] at h1; exact h1.elim
/-- without a test -/
theorem comp_all {β : Type} {own : List Nat} {tg : Val → SM} {el : EM} {QD : List D → DEnv → Prop} {XD : Ex → DEnv → Prop} {bs : List β} {dd : β → D} {g : β → D}
    (h : ∀ b ∈ bs, (tg (.d (dd b)) ρ).wp { nx := fun ρ1 => (el ρ1).wp (fun y ρ3 => y = .d (g b) ∧ wipeD ρ3 own = ρ) fun _ _ => False, rt := fun _ _ => False })
    (q : QD (bs.map g) ρ) : (compD own tg tYesD el (bs.map dd) [] ρ).wp QD XD := by
  refine comp_inv (fun k acc ρ' => ρ' = ρ ∧ acc = (bs.take k).map g) (bs.map dd) 0 [] ρ ⟨rfl, rfl⟩ (fun j d acc ρ' hj hI => ?_) fun acc ρ' hI => ?_
  · obtain ⟨rfl, rfl⟩ := hI
    rw [List.getElem?_map] at hj
    obtain ⟨b, hb, rfl⟩ := Option.map_eq_some_iff.mp hj
    have tk : bs.take (0 + j + 1) = bs.take (0 + j) ++ [b] := by rw [Nat.zero_add, List.take_add_one, hb]; rfl
    have h1 := h b (List.mem_of_getElem? hb)
    cases e1 : tg (.d (dd b)) ρ' with
    | nx ρ1 =>
      rw [e1] at h1
      refine ⟨fun z => (by cases z), fun _ => R.wp_mono (Q' := _) h1 (fun y ρ2 h2 => ?_) fun _ _ h => h⟩
      obtain ⟨rfl, e⟩ := h2
      exact ⟨_, rfl, e, by rw [tk, List.map_append]; rfl⟩
    | rt x ρ1 => rw [e1] at h1; exact h1.elim
    | bk ρ1 => rw [e1] at h1; exact h1.elim
    | ct ρ1 => rw [e1] at h1; exact h1.elim
    | ex x ρ1 => rw [e1] at h1; exact h1.elim
    | bad => rw [e1] at h1; exact h1.elim
  · obtain ⟨rfl, rfl⟩ := hI
    rw [Nat.zero_add, List.length_map, List.take_length]
    exact q
theorem b_itV {d : D} {own : List Nat} {ρ3 : DEnv} (hw : wipeD ρ3 own = ρ) : (Val.d d = .d d ∧ wipeD ρ3 own = ρ) := ⟨rfl, hw⟩
/-- what one item of a dict comprehension gives -/
structure DiK (k0 : Bool) (i0 : Int) (g0 : D) (own : List Nat) (ρ : DEnv) (kx vx : EM) (k : Bool) (ρ2 : DEnv) : Prop where
  t : k = k0
  w : k = false → wipeD ρ2 own = ρ
  e : k = true → (kx ρ2).wp (fun x ρ3 => x = .d (.int i0) ∧ (vx ρ3).wp (fun y ρ4 => y = .d g0 ∧ wipeD ρ4 own = ρ) fun _ _ => False) fun _ _ => False
theorem b_diK {k : Bool} {i0 : Int} {g0 : D} {own : List Nat} {ρ ρ2 : DEnv} {kx vx : EM} (hw : wipeD ρ2 own = ρ) (q : k = true → (kx ρ2).wp (fun x ρ3 => x = .d (.int i0) ∧ (vx ρ3).wp (fun y ρ4 => y = .d g0 ∧ wipeD ρ4 own = ρ) fun _ _ => False) fun _ _ => False) : DiK k i0 g0 own ρ kx vx k ρ2 := ⟨rfl, fun _ => hw, q⟩
theorem b_diV {i0 : Int} {G : Prop} (q : G) : (Val.d (.int i0) = .d (.int i0) ∧ G) := ⟨rfl, q⟩
end
end DL
set_option maxHeartbeats 1000000
/-! DL40: more rules of reading. -/
namespace DL
open PySem PySem.Spec PyProof.Rows L2
section
variable {ρ ρ' : DEnv} {i : Nat} {x y : Val} {d : D} {f g h : EM} {t u : M Bool} {op op' : D → D → Option Val} {Q : Val → DEnv → Prop} {QB : Bool → DEnv → Prop} {QI : Src → DEnv → Prop} {X : Ex → DEnv → Prop} {P : Po}
def IsDK (x : Val) (ρ1 : DEnv) (G : Prop) : Prop := isDicB (x.peek ρ1) = true ∧ G
theorem b_isDK {G : Prop} (e : isDicB (x.peek ρ) = true) (q : G) : IsDK x ρ G := ⟨e, q⟩
theorem b_get2K (q : (f ρ).wp (fun x ρ1 => IsDK x ρ1 ((g ρ1).wp (fun y ρ2 => (fz h ρ2).wp (fun z ρ3 => (getV x y z ρ3).wp Q X) X) X)) X) : (eGet2 f g h ρ).wp Q X := b_get2 q
def SameK (ρ1 ρ2 : DEnv) (G : Prop) : Prop := ρ2 = ρ1 ∧ G
theorem b_same {G : Prop} (q : G) : SameK ρ ρ G := ⟨rfl, q⟩
/-- a if t else b, of two ints that can both be looked at -/
theorem b_eIfI (q : (t ρ).wp (fun k ρ1 => (f ρ1).wp (fun x ρ2 => IntK x fun a => SameK ρ1 ρ2 ((g ρ1).wp (fun y ρ3 => IntK y fun b => SameK ρ1 ρ3 (Q (.d (.int (if k = true then a else b))) ρ1)) fun _ _ => False)) fun _ _ => False) X) : (eIf t f g ρ).wp Q X := by
  refine b_eIf (R.wp_mono q (fun k ρ1 h => ?_) fun _ _ h => h)
  cases hf : f ρ1 with
  | ok x ρ2 =>
    rw [hf] at h
    obtain ⟨a, rfl, rfl, h2⟩ := h
    cases hg : g ρ2 with
    | ok y ρ3 =>
      rw [hg] at h2
      obtain ⟨b, rfl, rfl, h3⟩ := h2
      refine ⟨fun hk => ?_, fun hk => ?_⟩
      · subst hk; exact h3
      · subst hk; exact h3
    | ex y ρ3 => rw [hg] at h2; exact h2.elim
    | bad => rw [hg] at h2; exact h2.elim
  | ex x ρ2 => rw [hf] at h; exact h.elim
  | bad => rw [hf] at h; exact h.elim
theorem s_tupGL {n : Nat} {h : List D → SM} {ds : List D} (e : x.peek ρ = some (.lst ds)) (hl : ds.length = n) (q : (h ds ρ).wp P) : (tupG n h x ρ).wp P := by
  unfold tupG
  rw [e]
  dsimp only
  rw [if_pos hl]
  exact q
def FrLK (x : Val) (n : Nat) (G : List D → Prop) : Prop := ∃ es, x = .fr (.lst es) ∧ n + es.length ≤ 16777216 ∧ G es
theorem g_fromLK {P : PoG} {ds : List D} (q : (f ρ).wp (fun x ρ1 => FrLK x ds.length fun es => P.nx (ds ++ es) ρ1) NoX) : (gFromL f ds ρ).wp P := g_fromL q
theorem compD_app {own : List Nat} {tg : Val → SM} {tt : M Bool} {el : EM} : ∀ (ds acc : List D) (ρ : DEnv), compD own tg tt el ds acc ρ = (match compD own tg tt el ds [] ρ with | .ok ys ρ' => .ok (acc ++ ys) ρ' | .ex x ρ' => .ex x ρ' | .bad => .bad)
  | [], acc, ρ => by
    show R.ok acc ρ = R.ok (acc ++ []) ρ
    rw [List.append_nil]
  | d :: ds, acc, ρ => by
    simp only [compD]
    cases tg (.d d) ρ with
    | nx ρ1 =>
      dsimp only
      cases tt ρ1 with
      | ok b ρ2 =>
        dsimp only
        cases b with
        | false => rw [if_neg (by decide), if_neg (by decide)]; exact compD_app ds acc _
        | true =>
          rw [if_pos rfl, if_pos rfl]
          cases el ρ2 with
          | ok y ρ3 =>
            cases y with
            | d yd =>
              dsimp only
              rw [compD_app ds (acc ++ [yd]), compD_app ds ([] ++ [yd])]
              cases compD own tg tt el ds [] (wipeD ρ3 own) <;> simp
            | fr c => rfl
            | sl i => rfl
          | ex x ρ3 => rfl
          | bad => rfl
      | ex x ρ2 => rfl
      | bad => rfl
    | rt x ρ1 => rfl
    | bk ρ1 => rfl
    | ct ρ1 => rfl
    | ex x ρ1 => rfl
    | bad => rfl
theorem comp_cons0 {own : List Nat} {tg : Val → SM} {tt : M Bool} {el : EM} {ds : List D} {QD : List D → DEnv → Prop} {XD : Ex → DEnv → Prop}
    (q : (tg (.d d) ρ).wp { nx := fun ρ1 => (tt ρ1).wp (fun b ρ2 => Way b ((el ρ2).wp (fun y ρ3 => DtK y fun yd => PB (wipeD ρ3 own) fun ρ4 => (compD own tg tt el ds [] ρ4).wp (fun ys ρ5 => QD (yd :: ys) ρ5) XD) fun _ _ => False) (PB (wipeD ρ2 own) fun ρ4 => (compD own tg tt el ds [] ρ4).wp QD XD)) fun _ _ => False, rt := fun _ _ => False }) : (compD own tg tt el (d :: ds) [] ρ).wp QD XD := by
  refine comp_cons ?_
  cases e1 : tg (.d d) ρ with
  | nx ρ1 =>
    rw [e1] at q
    have q : (tt ρ1).wp _ _ := q
    refine R.wp_mono (Q' := _) q (fun b ρ2 w => ⟨fun hb => R.wp_mono (w.1 hb) (fun y ρ3 ⟨yd, e, h⟩ => ⟨yd, e, ?_⟩) fun _ _ z => z, w.2⟩) fun _ _ z => z
    have h : (compD own tg tt el ds [] (wipeD ρ3 own)).wp (fun ys ρ5 => QD (yd :: ys) ρ5) XD := h
    show (compD own tg tt el ds ([] ++ [yd]) (wipeD ρ3 own)).wp QD XD
    rw [compD_app]
    cases e : compD own tg tt el ds [] (wipeD ρ3 own) with
    | ok ys ρ' => rw [e] at h; exact h
    | ex x ρ' => rw [e] at h; exact h
    | bad => rw [e] at h; exact h
  | rt x ρ1 => rw [e1] at q; exact q.elim
  | bk ρ1 => rw [e1] at q; exact q.elim
  | ct ρ1 => rw [e1] at q; exact q.elim
  | ex x ρ1 => rw [e1] at q; exact q.elim
  | bad => rw [e1] at q; exact q.elim
theorem b_mkT1 {a0 : D} (q : Q (.d (.tup [a0])) ρ) : (mkTup [.d a0] ρ).wp Q X := b_mkTup rfl (Nat.le_of_ble_eq_true rfl) q
theorem b_mkL1 {a0 : D} (q : Q (.fr (.lst [a0])) ρ) : (mkLst [.d a0] ρ).wp Q X := b_mkLst rfl (Nat.le_of_ble_eq_true rfl) q
theorem b_mkT2 {a0 a1 : D} (q : Q (.d (.tup [a0, a1])) ρ) : (mkTup [.d a0, .d a1] ρ).wp Q X := b_mkTup rfl (Nat.le_of_ble_eq_true rfl) q
theorem b_mkL2 {a0 a1 : D} (q : Q (.fr (.lst [a0, a1])) ρ) : (mkLst [.d a0, .d a1] ρ).wp Q X := b_mkLst rfl (Nat.le_of_ble_eq_true rfl) q
theorem b_mkT3 {a0 a1 a2 : D} (q : Q (.d (.tup [a0, a1, a2])) ρ) : (mkTup [.d a0, .d a1, .d a2] ρ).wp Q X := b_mkTup rfl (Nat.le_of_ble_eq_true rfl) q
theorem b_mkL3 {a0 a1 a2 : D} (q : Q (.fr (.lst [a0, a1, a2])) ρ) : (mkLst [.d a0, .d a1, .d a2] ρ).wp Q X := b_mkLst rfl (Nat.le_of_ble_eq_true rfl) q
theorem b_mkT4 {a0 a1 a2 a3 : D} (q : Q (.d (.tup [a0, a1, a2, a3])) ρ) : (mkTup [.d a0, .d a1, .d a2, .d a3] ρ).wp Q X := b_mkTup rfl (Nat.le_of_ble_eq_true rfl) q
theorem b_mkL4 {a0 a1 a2 a3 : D} (q : Q (.fr (.lst [a0, a1, a2, a3])) ρ) : (mkLst [.d a0, .d a1, .d a2, .d a3] ρ).wp Q X := b_mkLst rfl (Nat.le_of_ble_eq_true rfl) q
theorem b_mkT5 {a0 a1 a2 a3 a4 : D} (q : Q (.d (.tup [a0, a1, a2, a3, a4])) ρ) : (mkTup [.d a0, .d a1, .d a2, .d a3, .d a4] ρ).wp Q X := b_mkTup rfl (Nat.le_of_ble_eq_true rfl) q
theorem b_mkL5 {a0 a1 a2 a3 a4 : D} (q : Q (.fr (.lst [a0, a1, a2, a3, a4])) ρ) : (mkLst [.d a0, .d a1, .d a2, .d a3, .d a4] ρ).wp Q X := b_mkLst rfl (Nat.le_of_ble_eq_true rfl) q
theorem b_mkT6 {a0 a1 a2 a3 a4 a5 : D} (q : Q (.d (.tup [a0, a1, a2, a3, a4, a5])) ρ) : (mkTup [.d a0, .d a1, .d a2, .d a3, .d a4, .d a5] ρ).wp Q X := b_mkTup rfl (Nat.le_of_ble_eq_true rfl) q
theorem b_mkL6 {a0 a1 a2 a3 a4 a5 : D} (q : Q (.fr (.lst [a0, a1, a2, a3, a4, a5])) ρ) : (mkLst [.d a0, .d a1, .d a2, .d a3, .d a4, .d a5] ρ).wp Q X := b_mkLst rfl (Nat.le_of_ble_eq_true rfl) q
/-! the words of what follows, kept short -/
@[reducible] def Po.wnx (P : Po) (n : DEnv → Prop) : Po := { P with nx := n }
@[reducible] def Po.wlp (P : Po) (n : DEnv → Prop) : Po := { P with nx := n, ct := n, bk := P.nx }
@[reducible] def Po.tgt (n : DEnv → Prop) : Po := { nx := n, rt := fun _ _ => False }
@[reducible] def Po.fn (Q : Val → DEnv → Prop) (X : Ex → DEnv → Prop) (as : DEnv) : Po := { nx := fun ρ => (DL.finish (.d .non) as ρ).wp Q X, rt := fun x ρ => (DL.finish x as ρ).wp Q X, ex := fun x ρ => X x (argsBack as ρ) }
@[reducible] def PoG.wnx (P : PoG) (n : List D → DEnv → Prop) : PoG := { P with nx := n }
@[reducible] def PoG.pl (P : PoG) (ds : List D) : Po := { nx := fun ρ1 => P.nx ds ρ1, rt := fun _ _ => False, bk := fun ρ1 => P.bk ds ρ1, ct := fun ρ1 => P.ct ds ρ1 }
theorem s_seqNW {s1 s2 : SM} (e : ρ = ρ') (q : (s1 ρ').wp (P.wnx fun ρ1 => (s2 ρ1).wp P)) : (sSeq s1 s2 ρ).wp P := s_seqN e q
theorem s_gsConsW {g : Val → SM} {h : List D → SM} {ds : List D} (q : (g (.d d) ρ).wp (P.wnx fun ρ1 => (h ds ρ1).wp P)) : (gsCons g h (d :: ds) ρ).wp P := s_gsCons q
theorem loop_consW {tg : Val → SM} {body : SM} {ds : List D} (q : (tg (.d d) ρ).wp (Po.tgt fun ρ1 => (body ρ1).wp (P.wlp fun ρ2 => (loopD tg body ds ρ2).wp P))) : (loopD tg body (d :: ds) ρ).wp P := loop_cons q
theorem f_fnW {np nl : Nat} {body : SM} {as : DEnv} (hl : as.length = np) (q : (body (as ++ List.replicate nl .un)).wp (Po.fn Q X as)) : (fnD np nl body as).wp Q X := f_fn hl q
theorem g_seqW {P : PoG} {g h : GM} {ds : List D} (q : (g ds ρ).wp (P.wnx fun ds1 ρ1 => (h ds1 ρ1).wp P)) : (gSeq g h ds ρ).wp P := g_seq q
theorem g_plW {P : PoG} {ds : List D} {s : SM} (q : (s ρ).wp (P.pl ds)) : (gPl s ds ρ).wp P := g_pl q
end
end DL
/-! DL41: the rules of reading with one premise, as instances. -/
namespace DL
open PySem PySem.Spec PyProof.Rows L2
class St (g : Prop) (n : outParam Prop) : Prop where
  ap : n → g
section
variable {α β : Type} {ρ ρ' ρ1 as : DEnv} {i : Nat} {x y z : Val} {d a b : D} {c : Cont} {m : Md} {f g h : EM} {t u : M Bool} {l r : OM} {op op' : D → D → Option Val} {Q : Val → DEnv → Prop} {QB : Bool → DEnv → Prop} {QL : List Val → DEnv → Prop} {QO : Option Int → DEnv → Prop} {QI : Src → DEnv → Prop} {X : Ex → DEnv → Prop} {P : Po} {s : SM} {gl : M (List Val)}
instance st_b_op  : St ((eOp op f g ρ).wp Q X) ((f ρ).wp (fun x ρ1 => (g ρ1).wp (fun y ρ2 => (opV op x y ρ2).wp Q X) X) X) := ⟨b_op⟩
instance st_b_cb {op : List D → Option Val} : St ((eCallB op gl ρ).wp Q X) ((gl ρ).wp (fun x ρ1 => (callV op x ρ1).wp Q X) X) := ⟨b_cb⟩
instance st_b_un {op : D → Option Val} : St ((eUn op f ρ).wp Q X) ((f ρ).wp (fun x ρ1 => (unV op x ρ1).wp Q X) X) := ⟨b_un⟩
instance st_b_call {Fm : FM} : St ((eCall Fm gl ρ).wp Q X) ((gl ρ).wp (fun x ρ1 => (callF Fm x ρ1).wp Q X) X) := ⟨b_call⟩
instance st_b_cons  : St ((aCons f gl ρ).wp QL X) ((f ρ).wp (fun x ρ1 => (gl ρ1).wp (fun xs ρ2 => QL (x :: xs) ρ2) X) X) := ⟨b_cons⟩
instance st_b_nil  : St ((aNil ρ).wp QL X) (QL [] ρ) := ⟨b_nil⟩
instance st_b_C  : St ((eC d ρ).wp Q X) (Q (.d d) ρ) := ⟨b_C⟩
instance st_b_tup  : St ((eTup gl ρ).wp Q X) ((gl ρ).wp (fun x ρ1 => (mkTup x ρ1).wp Q X) X) := ⟨b_tup⟩
instance st_b_lst  : St ((eLst gl ρ).wp Q X) ((gl ρ).wp (fun x ρ1 => (mkLst x ρ1).wp Q X) X) := ⟨b_lst⟩
instance st_b_fz  : St ((DL.fz f ρ).wp Q X) ((f ρ).wp (fun x ρ1 => (x.fzA ρ1).wp Q X) X) := ⟨b_fz⟩
instance st_b_nsl  : St ((DL.nsl f ρ).wp Q X) ((f ρ).wp (fun x ρ1 => (nslV x ρ1).wp Q X) X) := ⟨b_nsl⟩
instance st_b_nslD  : St ((nslV (.d d) ρ).wp Q X) (Q (.d d) ρ) := ⟨b_nslD⟩
instance st_b_nslF  : St ((nslV (.fr c) ρ).wp Q X) (Q (.fr c) ρ) := ⟨b_nslF⟩
instance st_b_nslS  : St ((nslV (.sl i) ρ).wp Q X) (((Val.sl i).fz ρ).wp Q X) := ⟨b_nslS⟩
instance st_b_tst  : St ((tst f ρ).wp QB X) ((f ρ).wp (fun x ρ1 => (bT x ρ1).wp QB X) X) := ⟨b_tst⟩
instance st_b_bT {k : Bool} : St ((bT (.d (.bl k)) ρ).wp QB X) (QB k ρ) := ⟨b_bT⟩
instance st_b_not  : St ((tNotM t ρ).wp QB X) ((t ρ).wp (fun k ρ1 => QB (!k) ρ1) X) := ⟨b_not⟩
instance st_b_rng {QI : Src → DEnv → Prop} : St ((iRng gl ρ).wp QI X) ((gl ρ).wp (fun xs ρ1 => (rngV xs ρ1).wp QI X) X) := ⟨b_rng⟩
instance st_b_iseq {QI : Src → DEnv → Prop} : St ((iSeq f ρ).wp QI X) ((f ρ).wp (fun x ρ1 => (seqSrc x ρ1).wp QI X) X) := ⟨b_iseq⟩
instance st_b_yes  : St ((tYesD ρ).wp QB X) (QB true ρ) := ⟨b_yes⟩
instance st_s_skip  : St ((sSkip ρ).wp P) (P.nx ρ) := ⟨s_skip⟩
instance st_s_drop  : St ((sDrop f ρ).wp P) ((f ρ).wp (fun _ ρ1 => P.nx ρ1) P.ex) := ⟨s_drop⟩
instance st_s_ret  : St ((sRet f ρ).wp P) ((f ρ).wp (fun x ρ1 => P.rt x ρ1) P.ex) := ⟨s_ret⟩
instance st_s_retN  : St ((sRetN ρ).wp P) (P.rt (.d .non) ρ) := ⟨s_retN⟩
instance st_s_break  : St ((sBreak ρ).wp P) (P.bk ρ) := ⟨s_break⟩
instance st_s_cont  : St ((sCont ρ).wp P) (P.ct ρ) := ⟨s_cont⟩
instance st_s_asg  : St ((sAsg i f ρ).wp P) ((f ρ).wp (fun x ρ1 => (asgV i x ρ1).wp P) P.ex) := ⟨s_asg⟩
instance st_s_par {is : List Nat} : St ((sPar is gl ρ).wp P) ((gl ρ).wp (fun xs ρ1 => (asgs is xs ρ1).wp P) P.ex) := ⟨s_par⟩
instance st_s_tgt {G : Val → SM} : St ((sTgt f G ρ).wp P) ((f ρ).wp (fun x ρ1 => (G x ρ1).wp P) P.ex) := ⟨s_tgt⟩
instance st_s_for {fi : IM} {tg : Val → SM} {body : SM} : St ((sFor fi tg body ρ).wp P) ((fi ρ).wp (fun src ρ1 => (unlkS src.2 ρ1 (loopD tg body src.1 (lockS src.2 ρ1))).wp P) P.ex) := ⟨s_for⟩
instance st_s_loop {tg : Val → SM} {body : SM} {ds : List D} : St ((unlkS none ρ' (loopD tg body ds ρ)).wp P) ((loopD tg body ds ρ).wp P) := ⟨s_loop⟩
instance st_s_store {k : EM} : St ((sStore i k f ρ).wp P) ((f ρ).wp (StoreK i k P) P.ex) := ⟨s_store⟩
instance st_s_asgsN  : St ((asgs [] [] ρ).wp P) (P.nx ρ) := ⟨s_asgsN⟩
instance st_f_d  : St ((finish (.d d) as ρ).wp Q X) (Q (.d d) (argsBack as ρ)) := ⟨f_d⟩
instance st_f_fr  : St ((finish (.fr c) as ρ).wp Q X) (Q (.fr c) (argsBack as ρ)) := ⟨f_fr⟩
instance st_b_sl  : St ((eSl f l r ρ).wp Q X) ((f ρ).wp (fun x ρ1 => (l ρ1).wp (fun lo ρ2 => (r ρ2).wp (fun hi ρ3 => (unV (fun d => sliceD d lo hi) x ρ3).wp Q X) X) X) X) := ⟨b_sl⟩
instance st_b_oNone  : St ((oNone ρ).wp QO X) (QO none ρ) := ⟨b_oNone⟩
instance st_b_oSome  : St ((oSome f ρ).wp QO X) ((f ρ).wp (fun x ρ1 => (oV x ρ1).wp QO X) X) := ⟨b_oSome⟩
instance st_b_oV {k : Int} : St ((oV (.d (.int k)) ρ).wp QO X) (QO (some k) ρ) := ⟨b_oV⟩
instance st_b_isN  : St ((eIsN f ρ).wp Q X) ((f ρ).wp (fun x ρ1 => (isnV x ρ1).wp Q X) X) := ⟨b_isN⟩
instance st_b_notN  : St ((eNotN f ρ).wp Q X) ((f ρ).wp (fun x ρ1 => (notnV x ρ1).wp Q X) X) := ⟨b_notN⟩
instance st_b_isnD  : St ((isnV (.d d) ρ).wp Q X) (Q (.d (.bl (isNonV (.d d)))) ρ) := ⟨b_isnD⟩
instance st_b_notnD  : St ((notnV (.d d) ρ).wp Q X) (Q (.d (.bl !(isNonV (.d d)))) ρ) := ⟨b_notnD⟩
instance st_b_ienu  : St ((iEnu f ρ).wp QI X) ((f ρ).wp (fun x ρ1 => (seqSrc x ρ1).wp (fun src ρ2 => QI (enumL src.1, src.2) ρ2) X) X) := ⟨b_ienu⟩
instance st_b_newD {ρ : DEnv} {Q : Val → DEnv → Prop} {Xx : Ex → DEnv → Prop} : St ((eNewD ρ).wp Q Xx) (Q (.fr (.dic [] [])) ρ) := ⟨b_newD⟩
instance st_b_iany  : St ((iAny f ρ).wp QI X) ((f ρ).wp (fun x ρ1 => (anySrc x ρ1).wp QI X) X) := ⟨b_iany⟩
instance st_b_seqT {ds : List D} : St ((seqSrc (.d (.tup ds)) ρ).wp QI X) (QI (ds, none) ρ) := ⟨b_seqT⟩
instance st_s_gsCons {g : Val → SM} {h : List D → SM} {ds : List D} : St ((gsCons g h (d :: ds) ρ).wp P) ((g (.d d) ρ).wp { P with nx := fun ρ1 => (h ds ρ1).wp P }) := ⟨s_gsCons⟩
instance st_s_gsNil  : St ((gsNil [] ρ).wp P) (P.nx ρ) := ⟨s_gsNil⟩
instance st_b_seqL {ds : List D} : St ((seqSrc (.d (.lst ds)) ρ).wp QI X) (QI (ds, none) ρ) := ⟨b_seqL⟩
instance st_b_seqF {ds : List D} : St ((seqSrc (.fr (.lst ds)) ρ).wp QI X) (QI (ds, none) ρ) := ⟨b_seqF⟩
instance st_b_callK {idx : List Nat} {Fm : FM} {gl gk : M (List Val)} : St ((eCallK idx Fm gl gk ρ).wp Q X) ((gl ρ).wp (fun xs ρ1 => (gk ρ1).wp (fun ys ρ2 => SelK idx (xs ++ ys) fun zs => (callF Fm zs ρ2).wp Q X) X) X) := ⟨b_callK⟩
instance st_b_blK {k : Bool} {G : Bool → Prop} : St (BlK (.d (.bl k)) G) (G k) := ⟨b_blK⟩
instance st_b_dtK {d : D} {G : D → Prop} : St (DtK (.d d) G) (G d) := ⟨b_dtK⟩
instance st_b_intK {k : Int} {G : Int → Prop} : St (IntK (.d (.int k)) G) (G k) := ⟨b_intK⟩
instance st_b_eAnd2  : St ((eAnd f g ρ).wp Q X) ((f ρ).wp (fun x ρ1 => BlK x fun k => (g ρ1).wp (AndV Q k ρ1) fun _ _ => False) X) := ⟨b_eAnd2⟩
instance st_b_eOr2  : St ((eOr f g ρ).wp Q X) ((f ρ).wp (fun x ρ1 => BlK x fun k => (g ρ1).wp (OrV Q k ρ1) fun _ _ => False) X) := ⟨b_eOr2⟩
instance st_b_eNotK  : St ((eNot f ρ).wp Q X) ((f ρ).wp (fun x ρ1 => BlK x fun k => Q (.d (.bl !k)) ρ1) X) := ⟨b_eNotK⟩
instance st_b_chain2  : St ((eChain op op' f g h ρ).wp Q X) ((f ρ).wp (fun x ρ1 => (g ρ1).wp (fun y ρ2 => (opV op x y ρ2).wp (fun z ρ3 => BlK z fun k => (h ρ3).wp (fun w ρ4 => (opV op' y w ρ4).wp (AndV Q k ρ3) fun _ _ => False) fun _ _ => False) X) X) X) := ⟨b_chain2⟩
instance st_b_and2  : St ((tAndM t u ρ).wp QB X) ((t ρ).wp (fun k ρ1 => (u ρ1).wp (AndK QB k ρ1) fun _ _ => False) X) := ⟨b_and2⟩
instance st_b_or2  : St ((tOrM t u ρ).wp QB X) ((t ρ).wp (fun k ρ1 => (u ρ1).wp (OrK QB k ρ1) fun _ _ => False) X) := ⟨b_or2⟩
instance st_b_eIfW  : St ((eIf t f g ρ).wp Q X) ((t ρ).wp (fun k ρ1 => Way k ((f ρ1).wp Q X) ((g ρ1).wp Q X)) X) := ⟨b_eIfW⟩
instance st_s_ifW {s1 s2 : SM} : St ((sIf t s1 s2 ρ).wp P) ((t ρ).wp (fun k ρ1 => Way k ((s1 ρ1).wp P) ((s2 ρ1).wp P)) P.ex) := ⟨s_ifW⟩
instance st_b_lcK {own : List Nat} {fi : IM} {tg : Val → SM} {tt : M Bool} {el : EM} : St ((eLc own fi tg tt el ρ).wp Q X) ((fi ρ).wp (fun src ρ1 => CompK own ρ1 src.1.length ((compD own tg tt el src.1 [] (wipeD (lockS src.2 ρ1) own)).wp (fun ys ρ2 => PB (unlk src.2 ρ1 (backD (lockS src.2 ρ1) ρ2 own)) fun ρ3 => Q (.fr (.lst ys)) ρ3) fun _ _ => False)) X) := ⟨b_lcK⟩
instance st_b_sortScK {own : List Nat} {fi : IM} {tg : Val → SM} {tt : M Bool} {el : EM} : St ((eSortSc own fi tg tt el ρ).wp Q X) ((fi ρ).wp (fun src ρ1 => CompK own ρ1 src.1.length ((compA own tg tt (scStep el) src.1 [] (wipeD (lockS src.2 ρ1) own)).wp (fun ns ρ2 => PB (unlk src.2 ρ1 (backD (lockS src.2 ρ1) ρ2 own)) fun ρ3 => Q (.fr (.lst ((sortSetI ns).map D.int))) ρ3) fun _ _ => False)) X) := ⟨b_sortScK⟩
instance st_b_dcK {own : List Nat} {fi : IM} {tg : Val → SM} {tt : M Bool} {kx vx : EM} : St ((eDc own fi tg tt kx vx ρ).wp Q X) ((fi ρ).wp (fun src ρ1 => CompK own ρ1 src.1.length ((compA own tg tt (dcStep kx vx) src.1 ([], []) (wipeD (lockS src.2 ρ1) own)).wp (fun a ρ2 => PB (unlk src.2 ρ1 (backD (lockS src.2 ρ1) ρ2 own)) fun ρ3 => Q (.fr (.dic a.1 a.2)) ρ3) fun _ _ => False)) X) := ⟨b_dcK⟩
instance st_b_dcStepK {kx vx : EM} {acc : List Key × List D} {QA : List Key × List D → DEnv → Prop} : St ((dcStep kx vx acc ρ).wp QA X) ((kx ρ).wp (fun y ρ1 => IntK y fun k => (vx ρ1).wp (fun z ρ2 => DtK z fun d => QA (if acc.1.any (fun j => decide (j = (Sum.inl k : Key))) = true then (acc.1, dSet acc.1 acc.2 (.inl k) d) else (acc.1 ++ [.inl k], acc.2 ++ [d])) ρ2) X) X) := ⟨b_dcStepK⟩
instance st_b_andK {k k2 : Bool} : St (AndK QB k ρ k2 ρ) (QB (k && k2) ρ) := ⟨b_andK⟩
instance st_b_orK {k k2 : Bool} : St (OrK QB k ρ k2 ρ) (QB (k || k2) ρ) := ⟨b_orK⟩
instance st_b_andV {k k2 : Bool} : St (AndV Q k ρ (.d (.bl k2)) ρ) (Q (.d (.bl (k && k2))) ρ) := ⟨b_andV⟩
instance st_b_orV {k k2 : Bool} : St (OrV Q k ρ (.d (.bl k2)) ρ) (Q (.d (.bl (k || k2))) ρ) := ⟨b_orV⟩
instance st_b_get2K  : St ((eGet2 f g h ρ).wp Q X) ((f ρ).wp (fun x ρ1 => IsDK x ρ1 ((g ρ1).wp (fun y ρ2 => (fz h ρ2).wp (fun z ρ3 => (getV x y z ρ3).wp Q X) X) X)) X) := ⟨b_get2K⟩
instance st_b_same {G : Prop} : St (SameK ρ ρ G) (G) := ⟨b_same⟩
instance st_b_mkT1 {a0 : D} : St ((mkTup [.d a0] ρ).wp Q X) (Q (.d (.tup [a0])) ρ) := ⟨b_mkT1⟩
instance st_b_mkT2 {a0 a1 : D} : St ((mkTup [.d a0, .d a1] ρ).wp Q X) (Q (.d (.tup [a0, a1])) ρ) := ⟨b_mkT2⟩
instance st_b_mkT3 {a0 a1 a2 : D} : St ((mkTup [.d a0, .d a1, .d a2] ρ).wp Q X) (Q (.d (.tup [a0, a1, a2])) ρ) := ⟨b_mkT3⟩
instance st_b_mkT4 {a0 a1 a2 a3 : D} : St ((mkTup [.d a0, .d a1, .d a2, .d a3] ρ).wp Q X) (Q (.d (.tup [a0, a1, a2, a3])) ρ) := ⟨b_mkT4⟩
instance st_b_mkT5 {a0 a1 a2 a3 a4 : D} : St ((mkTup [.d a0, .d a1, .d a2, .d a3, .d a4] ρ).wp Q X) (Q (.d (.tup [a0, a1, a2, a3, a4])) ρ) := ⟨b_mkT5⟩
instance st_b_mkT6 {a0 a1 a2 a3 a4 a5 : D} : St ((mkTup [.d a0, .d a1, .d a2, .d a3, .d a4, .d a5] ρ).wp Q X) (Q (.d (.tup [a0, a1, a2, a3, a4, a5])) ρ) := ⟨b_mkT6⟩
instance st_b_mkL1 {a0 : D} : St ((mkLst [.d a0] ρ).wp Q X) (Q (.fr (.lst [a0])) ρ) := ⟨b_mkL1⟩
instance st_b_mkL2 {a0 a1 : D} : St ((mkLst [.d a0, .d a1] ρ).wp Q X) (Q (.fr (.lst [a0, a1])) ρ) := ⟨b_mkL2⟩
instance st_b_mkL3 {a0 a1 a2 : D} : St ((mkLst [.d a0, .d a1, .d a2] ρ).wp Q X) (Q (.fr (.lst [a0, a1, a2])) ρ) := ⟨b_mkL3⟩
instance st_b_mkL4 {a0 a1 a2 a3 : D} : St ((mkLst [.d a0, .d a1, .d a2, .d a3] ρ).wp Q X) (Q (.fr (.lst [a0, a1, a2, a3])) ρ) := ⟨b_mkL4⟩
instance st_b_mkL5 {a0 a1 a2 a3 a4 : D} : St ((mkLst [.d a0, .d a1, .d a2, .d a3, .d a4] ρ).wp Q X) (Q (.fr (.lst [a0, a1, a2, a3, a4])) ρ) := ⟨b_mkL5⟩
instance st_b_mkL6 {a0 a1 a2 a3 a4 a5 : D} : St ((mkLst [.d a0, .d a1, .d a2, .d a3, .d a4, .d a5] ρ).wp Q X) (Q (.fr (.lst [a0, a1, a2, a3, a4, a5])) ρ) := ⟨b_mkL6⟩
instance st_g_seqW {P : PoG} {g h : GM} {ds : List D} : St ((gSeq g h ds ρ).wp P) ((g ds ρ).wp (P.wnx fun ds1 ρ1 => (h ds1 ρ1).wp P)) := ⟨g_seqW⟩
instance st_s_gsConsW {g : Val → SM} {h : List D → SM} {ds : List D} : St ((gsCons g h (d :: ds) ρ).wp P) ((g (.d d) ρ).wp (P.wnx fun ρ1 => (h ds ρ1).wp P)) := ⟨s_gsConsW⟩
instance st_g_fromLK {P : PoG} {ds : List D} : St ((gFromL f ds ρ).wp P) ((f ρ).wp (fun x ρ1 => FrLK x ds.length fun es => P.nx (ds ++ es) ρ1) NoX) := ⟨g_fromLK⟩
instance st_g_skip {P : PoG} {ds : List D} : St ((gSkip ds ρ).wp P) (P.nx ds ρ) := ⟨g_skip⟩
instance st_g_plW {P : PoG} {ds : List D} {s : SM} : St ((gPl s ds ρ).wp P) ((s ρ).wp (P.pl ds)) := ⟨g_plW⟩
instance st_g_if {P : PoG} {ds : List D} {g h : GM} : St ((gIf t g h ds ρ).wp P) ((t ρ).wp (fun k ρ1 => Way k ((g ds ρ1).wp P) ((h ds ρ1).wp P)) NoX) := ⟨g_if⟩
instance st_g_for {P : PoG} {ds : List D} {fi : IM} {tg : Val → SM} {body : GM} : St ((gFor fi tg body ds ρ).wp P) ((fi ρ).wp (fun src ρ1 => (unlkG src.2 ρ1 (loopG tg body src.1 ds (lockS src.2 ρ1))).wp P) NoX) := ⟨g_for⟩
instance st_b_zp  : St ((iZp f g ρ).wp QI X) (((aCons (fz f) (aCons (fz g) aNil)) ρ).wp (fun xs ρ1 => (zpSrc xs ρ1).wp QI X) X) := ⟨b_zp⟩
instance st_b_zpL {ds es : List D} : St ((zpSrc [.d (.lst ds), .d (.lst es)] ρ).wp QI X) (QI (zipL ds es, none) ρ) := ⟨b_zpL⟩
instance st_b_zpT {ds es : List D} : St ((zpSrc [.d (.tup ds), .d (.tup es)] ρ).wp QI X) (QI (zipL ds es, none) ρ) := ⟨b_zpT⟩
instance st_loop_nil {tg : Val → SM} {body : SM} : St ((loopD tg body [] ρ).wp P) (P.nx ρ) := ⟨loop_nil⟩
instance st_loop_consW {tg : Val → SM} {body : SM} {ds : List D} : St ((loopD tg body (d :: ds) ρ).wp P) ((tg (.d d) ρ).wp (Po.tgt fun ρ1 => (body ρ1).wp (P.wlp fun ρ2 => (loopD tg body ds ρ2).wp P))) := ⟨loop_consW⟩
instance st_b_getK {ks : List (Str × Int)} : St ((eGetK ks g h ρ).wp Q X) ((g ρ).wp (fun y ρ2 => (fz h ρ2).wp (fun z ρ3 => (getKV ks y z ρ3).wp Q X) X) X) := ⟨b_getK⟩
instance st_b_dispC {kds : List (Key × D)} : St ((eDispC kds ρ).wp Q X) (Q (.fr (.dic (mergeD ([], []) kds).1 (mergeD ([], []) kds).2)) ρ) := ⟨b_dispC⟩
instance st_b_ok {a : α} {QA : α → DEnv → Prop} : St ((R.ok a ρ).wp QA X) (QA a ρ) := ⟨b_ok⟩
instance st_int_addD {i j : Int} : St ((opV addD (.d (.int i)) (.d (.int j)) ρ).wp Q X) (Q (.d (.int (i + j))) ρ) := ⟨fun q => b_opV rfl rfl rfl q⟩
instance st_int_subD {i j : Int} : St ((opV subD (.d (.int i)) (.d (.int j)) ρ).wp Q X) (Q (.d (.int (i - j))) ρ) := ⟨fun q => b_opV rfl rfl rfl q⟩
instance st_int_ltD {i j : Int} : St ((opV ltD (.d (.int i)) (.d (.int j)) ρ).wp Q X) (Q (.d (.bl (decide (i < j)))) ρ) := ⟨fun q => b_opV rfl rfl rfl q⟩
instance st_int_leD {i j : Int} : St ((opV leD (.d (.int i)) (.d (.int j)) ρ).wp Q X) (Q (.d (.bl (decide (i ≤ j)))) ρ) := ⟨fun q => b_opV rfl rfl rfl q⟩
instance st_int_gtD {i j : Int} : St ((opV gtD (.d (.int i)) (.d (.int j)) ρ).wp Q X) (Q (.d (.bl (decide (j < i)))) ρ) := ⟨fun q => b_opV rfl rfl rfl q⟩
instance st_int_geD {i j : Int} : St ((opV geD (.d (.int i)) (.d (.int j)) ρ).wp Q X) (Q (.d (.bl (decide (j ≤ i)))) ρ) := ⟨fun q => b_opV rfl rfl rfl q⟩
instance st_int_eqV {i j : Int} : St ((opV eqV' (.d (.int i)) (.d (.int j)) ρ).wp Q X) (Q (.d (.bl (decide (i = j)))) ρ) := ⟨fun q => b_opV rfl rfl rfl q⟩
instance st_int_neV {i j : Int} : St ((opV neV' (.d (.int i)) (.d (.int j)) ρ).wp Q X) (Q (.d (.bl (!decide (i = j)))) ρ) := ⟨fun q => b_opV rfl rfl rfl q⟩
instance (priority := low) st_str_eqV {i j : Str} : St ((opV eqV' (.d (.str i)) (.d (.str j)) ρ).wp Q X) (Q (.d (.bl (decide (i = j)))) ρ) := ⟨fun q => b_opV rfl rfl rfl q⟩
instance (priority := low) st_str_neV {i j : Str} : St ((opV neV' (.d (.str i)) (.d (.str j)) ρ).wp Q X) (Q (.d (.bl (!decide (i = j)))) ρ) := ⟨fun q => b_opV rfl rfl rfl q⟩
end
end DL
set_option maxHeartbeats 1000000
/-! DL42: whether data of any depth stands in a list or a tuple. -/
namespace DL
open PySem PySem.Spec PyProof.Rows L2
/-! on data -/
end DL
set_option maxHeartbeats 1000000
/-! DL43: four names at once. -/
namespace DL
open PySem PySem.Spec PyProof.Rows L2
end DL
set_option maxHeartbeats 1000000
/-! DL44: sorted() of ints, in a list or a tuple. -/
namespace DL
open PySem PySem.Spec PyProof.Rows L2
end DL
set_option maxHeartbeats 1000000
/-! DL45: xs.count(x) of an own list. -/
namespace DL
open PySem PySem.Spec PyProof.Rows L2
end DL
set_option maxHeartbeats 1000000
/-! DL46: a == b == c. -/
namespace DL
open PySem PySem.Spec PyProof.Rows L2
end DL
set_option maxHeartbeats 1000000
/-! DL47: repr of great data of small parts: at most 100 signs a part. -/
namespace DL
open PySem PySem.Spec PyProof.Rows L2
end DL
set_option maxHeartbeats 1000000
/-! DL48: d.items() walked. -/
namespace DL
open PySem PySem.Spec PyProof.Rows L2
variable [TabT]
def itemsL (ks : List Key) (ds : List D) : List D := (ks.zip ds).map fun p => .tup [keyToD p.1, p.2]
def itmSrc (x : Val) (ρ : DEnv) : R Src := (x.fzA ρ).bind fun y ρ1 => match y with
  | .d (.dic ks ds) => .ok (itemsL ks ds, none) ρ1
  | _ => .bad
def iItm (f : EM) : IM := fun ρ => (f ρ).bind itmSrc
/-! ### its reading -/
section
variable {ρ : DEnv} {QI : Src → DEnv → Prop} {X : Ex → DEnv → Prop}
theorem b_iitm {f : EM} (q : (f ρ).wp (fun x ρ1 => (itmSrc x ρ1).wp QI X) X) : (iItm f ρ).wp QI X := b_bind q
theorem b_itmD {ks : List Key} {ds : List D} (q : QI (itemsL ks ds, none) ρ) : (itmSrc (.d (.dic ks ds)) ρ).wp QI X := q
instance st_iitm {f : EM} : St ((iItm f ρ).wp QI X) ((f ρ).wp (fun x ρ1 => (itmSrc x ρ1).wp QI X) X) := ⟨b_iitm⟩
instance st_itmD {ks : List Key} {ds : List D} : St ((itmSrc (.d (.dic ks ds)) ρ).wp QI X) (QI (itemsL ks ds, none) ρ) := ⟨b_itmD⟩
end
end DL
set_option maxHeartbeats 1000000
/-! DL49: methods of a list that any expression gives: count, index; remove of an own list of ints. -/
namespace DL
open PySem PySem.Spec PyProof.Rows L2
/-! ### remove -/
end DL
/-! GN1: what sleeps is left alone by what does not wake it: a run that would end, were each sleeper's next step a dead end, ends alike beside the sleepers. -/
namespace SW
open PySem PyProof.Rows
def stump (F : Frame) : Frame := .ret (fun _ => .unsupported "dud") none false [] F.where_.1 F.where_.2 []
def dud : GenState → GenState
  | .suspended _ _ c p fs cl => .suspended (fun _ => .unsupported "dud") [] c p (fs.map stump) cl
  | .fresh c => .fresh c
  | .running => .running
  | .finished => .finished
def slp : GenState → Bool
  | .suspended .. => true
  | _ => false
theorem dud_id {x : GenState} (h : slp x = false) : dud x = x := by cases x <;> first | rfl | cases h
/-- g sleeps in G -/
def Slps (G : Array GenState) (g : Nat) : Prop := ∃ x, G[g]? = some x ∧ slp x = true
/-- no frame of a sleeper -/
def Fine (G : Array GenState) (fs : List Frame) : Prop := ∀ g k l c p, Frame.gen g k l c p ∈ fs → ¬ Slps G g
/-- a: the sleepers are duds; b: they are themselves -/
structure Sw (G a b : Array GenState) : Prop where
  size : b.size = a.size
  le : G.size ≤ a.size
  at_ : ∀ (g : Nat) (x : GenState), G[g]? = some x → slp x = true → a[g]? = some (dud x) ∧ b[g]? = some x
  same : ∀ g : Nat, ¬ Slps G g → b[g]? = a[g]?
  fine : ∀ (g : Nat) k l c p fs cl, a[g]? = some (.suspended k l c p fs cl) → Fine G fs
theorem Fine.nil {G : Array GenState} : Fine G [] := fun _ _ _ _ _ h => by simp at h
theorem Fine.app {G : Array GenState} {fs gs : List Frame} (h : Fine G fs) (h2 : Fine G gs) : Fine G (fs ++ gs) := fun g k l c p m => by
  rcases List.mem_append.mp m with z | z
  · exact h g k l c p z
  · exact h2 g k l c p z
theorem Fine.ret {G : Array GenState} {k : Result → Sem PySem.Fin} {h : Option Value} {g : Bool} {l kp : List Value} {c : Code} {p : Pos} : Fine G [.ret k h g l c p kp] := fun _ _ _ _ _ m => by
  have := List.mem_singleton.mp m
  cases this
theorem Sw.start (G : Array GenState) : Sw G (G.map dud) G := by
  refine ⟨by simp, by simp, fun g x e hx => ⟨by simp [e], e⟩, fun g hg => ?_, fun g k l c p fs cl e => ?_⟩
  · rw [Array.getElem?_map]
    cases e : G[g]? with
    | none => rfl
    | some x =>
      have : slp x = false := by
        cases h : slp x with
        | false => rfl
        | true => exact absurd ⟨x, e, h⟩ hg
      rw [Option.map_some, dud_id this]
  · rw [Array.getElem?_map, Option.map_eq_some_iff] at e
    obtain ⟨x, _, hx⟩ := e
    cases x with
    | suspended k0 l0 c0 p0 fs0 cl0 =>
      cases hx
      intro g' k' l' c' p' hm
      obtain ⟨F, _, hF⟩ := List.mem_map.mp hm
      cases hF
    | fresh c0 => cases hx
    | running => cases hx
    | finished => cases hx
theorem Sw.set {G a b : Array GenState} (h : Sw G a b) {g : Nat} (hg : ¬ Slps G g) {x : GenState} (hx : ∀ k l c p fs cl, x = .suspended k l c p fs cl → Fine G fs) : Sw G (a.setIfInBounds g x) (b.setIfInBounds g x) := by
  refine ⟨by simp [h.size], by simp [h.le], fun g' y e hy => ?_, fun g' hg' => ?_, fun g' k l c p fs cl e => ?_⟩
  · have ne : g ≠ g' := fun z => hg ⟨y, by rw [z]; exact e, hy⟩
    rw [Array.getElem?_setIfInBounds_ne ne, Array.getElem?_setIfInBounds_ne ne]
    exact h.at_ g' y e hy
  · rw [Array.getElem?_setIfInBounds, Array.getElem?_setIfInBounds, h.size, h.same g' hg']
  · rw [Array.getElem?_setIfInBounds] at e
    split at e
    · split at e
      · exact hx k l c p fs cl (by simpa using e)
      · cases e
    · exact h.fine g' k l c p fs cl e
theorem Sw.push {G a b : Array GenState} (h : Sw G a b) {c : Code} : Sw G (a.push (.fresh c)) (b.push (.fresh c)) := by
  refine ⟨by simp [h.size], by simp; have := h.le; omega, fun g' y e hy => ?_, fun g' hg' => ?_, fun g' k l c' p fs cl e => ?_⟩
  · obtain ⟨h1, h2⟩ := h.at_ g' y e hy
    have l1 : g' < a.size := (Array.getElem?_eq_some_iff.mp h1).1
    rw [Array.getElem?_push, Array.getElem?_push, h.size, if_neg (by omega), if_neg (by omega)]
    exact ⟨h1, h2⟩
  · rw [Array.getElem?_push, Array.getElem?_push, h.size, h.same g' hg']
  · rw [Array.getElem?_push] at e
    split at e
    · cases e
    · exact h.fine g' k l c' p fs cl e
/-- two states that differ in the sleepers alone -/
structure SwS (G : Array GenState) (s u : Shared) : Prop where
  heap : u.heap = s.heap
  drawn : u.drawn = s.drawn
  toks : u.toks = s.toks
  os : u.os = s.os
  sw : Sw G s.gens u.gens
theorem SwS.set {G : Array GenState} {s u : Shared} (h : SwS G s u) {g : Nat} (hg : ¬ Slps G g) {x : GenState} (hx : ∀ k l c p fs cl, x = .suspended k l c p fs cl → Fine G fs) : SwS G (s.setGen g x) (u.setGen g x) :=
  ⟨h.heap, h.drawn, h.toks, h.os, h.sw.set hg hx⟩
end SW
/-! GN2: the same, for pieces of code. -/
set_option maxHeartbeats 1000000
/-! GN3: a generator's body, run turn by turn beside its consumer. -/
namespace DL
open PySem PySem.Spec PyProof.Rows L2 GenW
variable [TabT]
/-- what a generator's run does, seen by its consumer: what is not its own stays -/
structure EvW (σ : L2.St) (ρ : DEnv) (F H : Hp) (σ' : L2.St) (ρ' : DEnv) (F' H' : Hp) : Prop where
  ext : Same F F'
  keep : ∀ a o, H a = some o → ¬ Ow σ ρ a → NT o → H' a = some o
  newF : ∀ a, F a = none → F' a ≠ none → H a = none ∨ Ow σ ρ a
  dom : ∀ a, H a ≠ none → H' a ≠ none
  own' : ∀ a, Ow σ' ρ' a → H a = none ∨ Ow σ ρ a
theorem EvW.refl {σ : L2.St} {ρ : DEnv} {F H : Hp} : EvW σ ρ F H σ ρ F H := ⟨Same.refl _, fun _ _ e _ _ => e, fun _ e n => absurd e n, fun _ h => h, fun _ h => .inr h⟩
theorem EvW.trans {σ σ1 σ2 : L2.St} {ρ ρ1 ρ2 : DEnv} {F F1 F2 H H1 H2 : Hp} (a : EvW σ ρ F H σ1 ρ1 F1 H1) (b : EvW σ1 ρ1 F1 H1 σ2 ρ2 F2 H2) : EvW σ ρ F H σ2 ρ2 F2 H2 where
  ext := a.ext.trans b.ext
  keep := fun x o e n nt => by
    refine b.keep x o (a.keep x o e n nt) (fun m => ?_) nt
    rcases a.own' x m with z | z
    · rw [e] at z; cases z
    · exact n z
  newF := fun x e n => by
    by_cases q : F1 x = none
    · rcases b.newF x q n with z | z
      · cases hx : H x with
        | none => exact .inl rfl
        | some o => exact absurd z (a.dom x (by rw [hx]; simp))
      · exact a.own' x z
    · exact a.newF x e q
  dom := fun x h => b.dom x (a.dom x h)
  own' := fun x h => by
    rcases b.own' x h with z | z
    · cases hx : H x with
      | none => exact .inl rfl
      | some o => exact absurd z (a.dom x (by rw [hx]; simp))
    · exact a.own' x z
theorem EvW.of {σ σ1 : L2.St} {ρ ρ1 : DEnv} {F F1 H H1 : Hp} (e : Ev σ ρ F H σ1 ρ1 F1 H1) : EvW σ ρ F H σ1 ρ1 F1 H1 := ⟨e.ext, fun a o h n nt => e.keep a o h (fun m => n m.ow) nt, e.newF, e.dom, e.own'⟩
/-- another word for a slot's mode -/
theorem EvW.mode {σ σ1 : L2.St} {ρ ρ1 : DEnv} {F F1 H H1 : Hp} (e : EvW σ ρ F H σ1 ρ1 F1 H1) {i : Nat} {c : Cont} {m m' : Md} (h : ρ1[i]? = some (.ow c m)) : EvW σ ρ F H σ1 (ρ1.set i (.ow c m')) F1 H1 := by
  refine ⟨e.ext, e.keep, e.newF, e.dom, fun a z => e.own' a (ow_mode (fun j c1 m1 q => ?_) z)⟩
  by_cases hj : i = j
  · subst hj; rw [List.getElem?_set_self (List.getElem?_eq_some_iff.mp h).1] at q; cases q; exact ⟨_, h⟩
  · rw [List.getElem?_set_ne hj] at q; exact ⟨m1, q⟩
/-- a consumer of a generator: the contexts in which the generator's frame may be seen (they differ in their roots alone), what is wanted of a wake, what is handed out in all -/
structure Cons where
  prog : Program
  w : World
  K : PySem.W.Frag
  mg : Str → Option Value
  env : Env
  A : Around
  XX : Cx → Prop
  Pay : Cx → L2.St → DEnv → Hp → List D → Prop
  Ds : List D
  L : Nat
  eL : ∀ X, XX X → X.s_0.heap.objs.size = L
  eex : ∀ X, XX X → X.ex = []
  pa : List Addr
  epa : ∀ X, XX X → X.pn.map (·.1) = pa
  eprog : ∀ X, XX X → X.prog = prog
  ew : ∀ X, XX X → X.w = w
  eK : ∀ X, XX X → X.K = K
  emg : ∀ X, XX X → X.mg = mg
  eenv : ∀ X, XX X → X.env = env
  eA : ∀ X, XX X → X.A = A
/-- what stays true of a generator's run, beside its slots: lists that loops hold locked, frozen parts of before -/
structure Hst where
  hs : List (Nat × Cont × Addr × HO) := []
  Fs : List Hp := []
structure Hst.At (Z : Hst) (σ : L2.St) (ρ : DEnv) (F H : Hp) : Prop where
  lk : ∀ i c a o, (i, c, a, o) ∈ Z.hs → ρ[i]? = some (.ow c .lck) ∧ σ[i]? = some (some (.ref a)) ∧ H a = some o
  fs : ∀ F0 ∈ Z.Fs, Same F0 F
theorem Hst.At.ev {Z : Hst} {K : PySem.W.Frag} {σ σ' : L2.St} {ρ ρ' : DEnv} {F H F' H' : Hp} (h : Z.At σ ρ F H) (sr : SR K F H σ ρ) (ev : Ev σ ρ F H σ' ρ' F' H') : Z.At σ' ρ' F' H' := by
  refine ⟨fun i c a o hm => ?_, fun F0 hF => (h.fs F0 hF).trans ev.ext⟩
  obtain ⟨h1, h2, h3⟩ := h.lk i c a o hm
  obtain ⟨b1, c', b2, b3⟩ := ev.bor i c .lck h1 (by decide)
  obtain rfl := b3 rfl
  obtain ⟨ov, w1, a', w2, w3, w4⟩ := sr.slot i _ h1
  rw [h2] at w1
  cases w1
  cases w2
  refine ⟨b2, by rw [b1]; exact h2, ev.keep a o h3 (fun ⟨j, c1, m1, z1, z2, z3⟩ => ?_) (CRep.nt h3 w4)⟩
  have := sr.dist i j _ _ _ _ a h1 z1 h2 z3
  subst this
  rw [h1] at z1; cases z1; exact z2 rfl
/-- how matters stand while the generator runs; w: at the last wake -/
structure Sit (C : Cons) (ip : List (Addr × Obj)) (X : Cx) (σw : L2.St) (ρw : DEnv) (Fw : Hp) (σ : L2.St) (ρ : DEnv) (F H : Hp) (ds : List D) (n : Nat) (s : Shared) : Prop where
  fam : C.XX X
  pay : C.Pay X σw ρw Fw ds
  fuel : n + ds.length = sizeLine
  inv : Inv X ip σ H s
  sr : SR C.K F H σ ρ
  ev : EvW σw ρw Fw X.H_0 σ ρ F H
  ap : ∀ p ∈ ip, p.1 ∉ C.pa
def LY (C : Cons) : Protocol := fun n s₀ v s kap => ∃ ip X σw ρw Fw σ ρ F H x d ds, Sit C ip X σw ρw Fw σ ρ F H ds (n + 1) s ∧ RelV x v ∧ Rep C.K F x d ∧ (ds ++ [d]) <+: C.Ds ∧
  ∀ X' F' s', Sit C ip X' σ ρ F' σ ρ F' X'.H_0 (ds ++ [d]) n s' → Same F F' → (∀ a o, Ow σ ρ a → H a = some o → X'.H_0 a = some o) → kap (.send .none) s'
def LR (C : Cons) : GenEnd := fun n s₀ r s => (r = .ok (.ret .none) ∨ r = .ok .next) ∧ ∃ X σw ρw Fw σ ρ F H, Sit C [] X σw ρw Fw σ ρ F H C.Ds n s
def Grows (ds : List D) : GRS → Prop
  | .nx es _ => ds <+: es
  | .bk es _ => ds <+: es
  | .ct es _ => ds <+: es
  | .rt es _ _ => ds <+: es
  | _ => True
section
variable {C : Cons} {X : Cx} {ip : List (Addr × Obj)} {σw σ σ' : L2.St} {ρw ρ ρ' : DEnv} {Fw F F' H H' : Hp} {ds : List D} {n : Nat} {s s' : Shared}
theorem Cons.pt (C : Cons) {e : Expr} {t : TT} (hX : C.XX X) (h : PT X e t) {Q : Bool → Hp → Prop} (I : Inv X ip σ H s) (q : t σ H Q) : wpAny (model C.prog C.w) C.A (isTrue e C.env (eval e C.env)) (TP X ip σ Q) X.xe s := by
  rw [← C.eprog X hX, ← C.ew X hX, ← C.eA X hX, ← C.eenv X hX]
  exact h.run ip s σ H Q I q
end
end DL
set_option maxHeartbeats 1000000
/-! GN4: the statements of a generator's body, turn by turn. -/
namespace DL
open PySem PySem.Spec PyProof.Rows L2 GenW
variable [TabT]
section
variable {C : Cons} {st : Stmt} {rest : List Stmt}
theorem Grows.le {ds es : List D} (h : ds <+: es) {r : GRS} (g : Grows es r) : Grows ds r := by
  cases r with
  | nx a b => exact h.trans g
  | bk a b => exact h.trans g
  | ct a b => exact h.trans g
  | rt a x b => exact h.trans g
  | ex a b => trivial
  | bad => trivial
end
end DL
set_option maxHeartbeats 1000000
/-! GN5: for, in a generator's body that is run turn by turn. -/
namespace DL
open PySem PySem.Spec PyProof.Rows L2 GenW
variable [TabT]
section
variable {C : Cons}
/-- what a loop adds to the story -/
def Hst.lock (Z : Hst) (lk : Option (Nat × Cont × Addr × HO)) (F : Hp) : Hst := { hs := (match lk with | some x => x :: Z.hs | none => Z.hs), Fs := F :: Z.Fs }
theorem EvW.lock {σ σ1 : L2.St} {ρ ρ1 : DEnv} {F F1 H H1 : Hp} {lk : Option Nat} (e : EvW σ ρ F H σ1 ρ1 F1 H1) : EvW σ ρ F H σ1 (lockS lk ρ1) F1 H1 := by
  unfold lockS
  split
  · exact e
  · split
    · rename_i q; exact e.mode q
    · exact e
end
end DL
set_option maxHeartbeats 1000000
/-! GN6: yield from a new list, turn by turn. -/
namespace DL
open PySem PySem.Spec PyProof.Rows L2 GenW
end DL
set_option maxHeartbeats 1000000
/-! GN17 (ahead of GN7): a sleeping generator's cells, kept by its consumer as things that are known to the object. -/
namespace DL
open PySem PySem.Spec PyProof.Rows L2 GenW
variable [TabT]
/-- the cells of a generator's frame -/
def GCell (qual : Str) (scope : Scope) (L : Nat) (f : Addr) (cd : Value) (c : Addr) : Prop := ∃ x, (envOfC qual scope L f cd).cells.lookup x = some c
open Classical in
noncomputable def nC (C : Addr → Prop) (H : Hp) : Hp := fun b => if C b then none else H b
end DL
set_option maxHeartbeats 1000000
/-! GN7: a generator def, run turn by turn beside its consumer. -/
namespace DL
open PySem PySem.Spec PyProof.Rows L2 GenW
/-! ### the heap of before -/
def cutH (h : Heap) (L : Nat) : Heap := { h with objs := h.objs.extract 0 L }
def cutS (s : Shared) (L : Nat) : Shared := { s with heap := cutH s.heap L }
section
variable {P : Program} {w : World} {K : PySem.W.Frag} {mg : Str → Option Value} {base : Heap} {N : List Str} {qual : Str} {scope : Scope} {f : Addr} {cd : Value} {A : Around} {outer : List Env} {L : Nat} {pn : List (Addr × Obj)}
abbrev XK0 : XK := fun _ _ _ => False
/-- the consumer of a generator def's call -/
def consOf (P : Program) (w : World) (K : PySem.W.Frag) (mg : Str → Option Value) (base : Heap) (N : List Str) (qual : Str) (scope : Scope) (f : Addr) (cd : Value) (A : Around) (outer : List Env) (L : Nat) (pa : List Addr) (Pay : Cx → L2.St → DEnv → Hp → List D → Prop) (Ds : List D) : Cons where
  prog := P
  w := w
  K := K
  mg := mg
  env := envOfC qual scope L f cd
  A := A.deeper (envOfC qual scope L f cd)
  XX := fun X => ∃ sR HR pnR, pnR.map (·.1) = pa ∧ sR.heap.objs.size = L ∧ X = gcxOf P w K mg base N qual scope f cd A outer sR HR XK0 pnR
  Pay := Pay
  Ds := Ds
  L := L
  eL := by rintro X ⟨sR, HR, pnR, hp, h, rfl⟩; exact h
  eex := by rintro X ⟨sR, HR, pnR, hp, h, rfl⟩; rfl
  pa := pa
  epa := by rintro X ⟨sR, HR, pnR, hp, h, rfl⟩; exact hp
  eprog := by rintro X ⟨sR, HR, pnR, hp, h, rfl⟩; rfl
  ew := by rintro X ⟨sR, HR, pnR, hp, h, rfl⟩; rfl
  eK := by rintro X ⟨sR, HR, pnR, hp, h, rfl⟩; rfl
  emg := by rintro X ⟨sR, HR, pnR, hp, h, rfl⟩; rfl
  eenv := by rintro X ⟨sR, HR, pnR, hp, h, rfl⟩; rw [← h]; rfl
  eA := by rintro X ⟨sR, HR, pnR, hp, h, rfl⟩; rw [← h]; rfl
end
end DL
set_option maxHeartbeats 1000000
/-! GN8: the rule for a generator def that is consumed item by item. -/
namespace DL
open PySem PySem.Spec PyProof.Rows L2 GenW
variable [TabT]
/-- no slot owns anything -/
def AllD (ρ : DEnv) : Prop := ∀ (i : Nat) (c : Cont) (m : Md), ρ[i]? ≠ some (Slot.ow c m)
/-- what the call of a generator def gives: a generator that has not begun, and how it goes at its first wake -/
def LMade (P : Program) (w : World) (K : PySem.W.Frag) (mg : Str → Option Value) (base : Heap) (N : List Str) (qual : Str) (scope : Scope) (f : Addr) (cd : Value) (k : Nat) (outer : List Env) (F : Hp) (s : Shared) (σ0 : L2.St) (ρ0 : DEnv) (Ds : List D) (u : Value) (s' : Shared) : Prop :=
  ∃ (a : Addr) (g : Nat) (c : Code) (go fo : Obj) (nm qn : Value), u = .ref a ∧ s.heap.objs.size < a ∧ go.cls = .type "generator" ∧ go.data = .fields #[.int g 0, nm, qn] ∧ go.slots = #[] ∧ s'.heap.get? a = some go ∧ s'.heap.get? s.heap.objs.size = some fo ∧ (∀ v, fo.data ≠ .cell v) ∧ s'.gens[g]? = some (.fresh c) ∧ s'.os = s.os ∧ AllBare s'.gens ∧ s'.heap.NoLimit ∧ (∀ b o, s.heap.get? b = some o → s'.heap.get? b = some o) ∧ (∀ c, GCell qual scope s.heap.objs.size f cd c → s.heap.objs.size < c ∧ c < a ∧ ∃ v, s'.heap.IsCell c v) ∧
    ∀ (Aw : Around) (Pay : Cx → L2.St → DEnv → Hp → List D → Prop) (s2 : Shared) (H2 F2 : Hp) (ex : List (Addr × Obj)), Room k Aw → Env0 P w K mg base Aw outer s2 H2 → s2.heap.get? s.heap.objs.size = some fo → s2.heap.get? a = some go → H2 s.heap.objs.size = none → H2 a = none → (∀ c, GCell qual scope s.heap.objs.size f cd c → s2.heap.get? c = s'.heap.get? c ∧ H2 c = none) → Same F F2 → Same F2 H2 → TabOk F2 H2 →
      (∀ p ∈ ex, s2.heap.get? p.1 = some p.2 ∧ H2 p.1 = none ∧ p.1 ≠ s.heap.objs.size ∧ p.1 ∉ frs outer ∧ ∀ v, p.2.data ≠ .cell v) →
      Pay (gcxOf P w K mg base N qual scope f cd Aw outer (cutS s2 s.heap.objs.size) H2 XK0 ((a, go) :: ex)) σ0 ρ0 F2 [] →
      Seg (model P w) Aw (LR (consOf P w K mg base N qual scope f cd Aw outer s.heap.objs.size (a :: ex.map (·.1)) Pay Ds)) (LY (consOf P w K mg base N qual scope f cd Aw outer s.heap.objs.size (a :: ex.map (·.1)) Pay Ds)) sizeLine s2 c ((model P w).den c) [] s2
structure LGen (P : Program) (w : World) (K : PySem.W.Frag) (mg : Str → Option Value) (base : Heap) (k : Nat) (f : Addr) (fd : FuncData) (ps : List Str) (nl : Nat) (g : GM) : Prop where
  run : ∀ (A : Around) (outer : List Env) (s : Shared) (H F : Hp) (args : Args) (us : List Value) (vs : List V) (as : DEnv) (Ds : List D) (ρ' : DEnv), Room k A → Env0 P w K mg base A outer s H → BindsTo s fd args (ps.zip us) → Vals vs us → vs.length = ps.length → SR K F H (vs.map some) as → AllD as → (∀ b ∈ frs outer, b < s.heap.objs.size) →
    g [] (as ++ List.replicate nl .un) = .nx Ds ρ' →
    codeAny (model P w) A (.call (.ref f) args) (fun r s' => match r with | .ok (.ret u) => ∃ N qual scope cd, LMade P w K mg base N qual scope f cd k outer F s (start N vs) (as ++ List.replicate nl .un) Ds u s' | _ => False) s
end DL
set_option maxHeartbeats 1000000
/-! GN9: the consumer's side of a turn. -/
namespace DL
open PySem PySem.Spec PyProof.Rows L2 GenW
variable [TabT]
/-- what the consumer does between two turns, seen by the generator -/
structure EvK (Ke : Addr → Prop) (σ : L2.St) (ρ : DEnv) (F H : Hp) (σ' : L2.St) (ρ' : DEnv) (F' H' : Hp) : Prop where
  ext : Same F F'
  keep : ∀ a o, H a = some o → ¬ Ow σ ρ a → ¬ Ke a → NT o → H' a = some o
  newF : ∀ a, F a = none → F' a ≠ none → H a = none ∨ Ow σ ρ a ∨ Ke a
  own' : ∀ a, Ow σ' ρ' a → H a = none ∨ Ow σ ρ a ∨ Ke a
theorem EvK.of {Ke : Addr → Prop} {σ σ1 : L2.St} {ρ ρ1 : DEnv} {F F1 H H1 : Hp} (e : Ev σ ρ F H σ1 ρ1 F1 H1) : EvK Ke σ ρ F H σ1 ρ1 F1 H1 := ⟨e.ext, fun a o h n _ nt => e.keep a o h (fun m => n m.ow) nt, fun a h n => (e.newF a h n).imp id .inl, fun a z => (e.own' a z).imp id .inl⟩
end DL
set_option maxHeartbeats 1000000
/-! GN10: from turn to turn. -/
namespace DL
open PySem PySem.Spec PyProof.Rows L2 GenW
end DL
set_option maxHeartbeats 1000000
/-! GN11: next(g), seen by the consumer. -/
namespace DL
open PySem PySem.Spec PyProof.Rows L2 GenW
end DL
set_option maxHeartbeats 1000000
/-! GN12: what is run while a generator sleeps; its arguments. -/
namespace DL
open PySem PySem.Spec PyProof.Rows L2 GenW
variable [TabT]
/-! ### the arguments: data alone -/
def dSlots : List Val → Option DEnv
  | [] => some []
  | .d x :: xs => match dSlots xs with
    | some as => some (.d x :: as)
    | none => none
  | _ => none
end DL
set_option maxHeartbeats 1000000
/-! GN13: for x in g(..). -/
namespace DL
open PySem PySem.Spec PyProof.Rows L2 GenW
end DL
set_option maxHeartbeats 1000000
/-! GN14: [.. for x in g(..)]: its reading. -/
namespace DL
open PySem PySem.Spec PyProof.Rows L2 GenW
end DL
set_option maxHeartbeats 1000000
/-! GN15: [.. for x in g(..)]. -/
namespace DL
open PySem PySem.Spec PyProof.Rows L2 GenW
end DL
set_option maxHeartbeats 1000000
/-! GN16: a generator def as a source of items, by its reading as a list. -/
namespace DL
open PySem PySem.Spec PyProof.Rows L2 GenW
variable [TabT]
/-! ### levels, cells -/
theorem LMade.mono {P : Program} {w : World} {K : PySem.W.Frag} {mg : Str → Option Value} {base : Heap} {N : List Str} {qual : Str} {scope : Scope} {f : Addr} {cd : Value} {j k : Nat} {outer : List Env} {F : Hp} {s : Shared} {σ0 : L2.St} {ρ0 : DEnv} {Ds : List D} {u : Value} {s' : Shared} (h : j ≤ k) (m : LMade P w K mg base N qual scope f cd j outer F s σ0 ρ0 Ds u s') : LMade P w K mg base N qual scope f cd k outer F s σ0 ρ0 Ds u s' := by
  obtain ⟨a, g, c, go, fo, nm, qn, h1, h2, h3, h4, h5, h6, h7, h8, h9, h10, h11, h12, h13, h14, hS⟩ := m
  exact ⟨a, g, c, go, fo, nm, qn, h1, h2, h3, h4, h5, h6, h7, h8, h9, h10, h11, h12, h13, h14, fun Aw Pay s2 H2 F2 ex hr => hS Aw Pay s2 H2 F2 ex (hr.mono h)⟩
theorem LGen.mono {P : Program} {w : World} {K : PySem.W.Frag} {mg : Str → Option Value} {base : Heap} {j k : Nat} {f : Addr} {fd : FuncData} {ps : List Str} {nl : Nat} {g : GM} (G : LGen P w K mg base j f fd ps nl g) (h : j ≤ k) : LGen P w K mg base k f fd ps nl g := by
  refine ⟨fun A outer s H F args us vs as Ds ρ' hr e0 hb r hl sr ha hf hg => codeAny_mono (G.run A outer s H F args us vs as Ds ρ' (hr.mono h) e0 hb r hl sr ha hf hg) fun r s' hq => ?_⟩
  cases r with
  | error e => exact hq
  | ok fl =>
    cases fl with
    | next => exact hq
    | brk => exact hq
    | cont => exact hq
    | ret u =>
      obtain ⟨N, qual, scope, cd, m⟩ := hq
      exact ⟨N, qual, scope, cd, m.mono h⟩
def iGenF (Fm : FM) (ga : M (List Val)) : IM := fun ρ => (ga ρ).bind fun xs ρ1 => match dSlots xs with
  | some as => (match Fm as with
    | .ret (.fr (.lst ds)) _ => .ok (ds, none) ρ1
    | _ => .bad)
  | none => .bad
/-! ### its reading -/
def LstK (x : Val) (G : List D → Prop) : Prop := ∃ ds, x = .fr (.lst ds) ∧ G ds
theorem b_lstK {ds : List D} {G : List D → Prop} (q : G ds) : LstK (.fr (.lst ds)) G := ⟨ds, rfl, q⟩
def iGenV (Fm : FM) (xs : List Val) : IM := fun ρ1 => match dSlots xs with
  | some as => (match Fm as with
    | .ret (.fr (.lst ds)) _ => .ok (ds, none) ρ1
    | _ => .bad)
  | none => .bad
theorem b_igen {Fm : FM} {ga : M (List Val)} {ρ : DEnv} {QI : Src → DEnv → Prop} {X : Ex → DEnv → Prop} (q : (ga ρ).wp (fun xs ρ1 => (iGenV Fm xs ρ1).wp QI X) X) : (iGenF Fm ga ρ).wp QI X := b_bind q
theorem b_igenV {Fm : FM} {xs : List Val} {as : DEnv} {ρ : DEnv} {QI : Src → DEnv → Prop} {X : Ex → DEnv → Prop} (e : dSlots xs = some as) (q : (Fm as).wp (fun x _ => LstK x fun ds => QI (ds, none) ρ) fun _ _ => False) : (iGenV Fm xs ρ).wp QI X := by
  unfold iGenV
  rw [e]
  dsimp only
  cases hF : Fm as with
  | ret x as2 =>
    rw [hF] at q
    obtain ⟨ds, rfl, q⟩ := q
    exact q
  | ex x as2 => rw [hF] at q; exact q.elim
  | bad => rw [hF] at q; exact q.elim
instance st_igen {Fm : FM} {ga : M (List Val)} {ρ : DEnv} {QI : Src → DEnv → Prop} {X : Ex → DEnv → Prop} : St ((iGenF Fm ga ρ).wp QI X) ((ga ρ).wp (fun xs ρ1 => (iGenV Fm xs ρ1).wp QI X) X) := ⟨b_igen⟩
instance st_lstK {ds : List D} {G : List D → Prop} : St (LstK (.fr (.lst ds)) G) (G ds) := ⟨b_lstK⟩
end DL
/-! DL50: a lambda of one parameter: made, called. -/
namespace DL
open PySem PySem.Spec PyProof.Rows L2 LamX
end DL
/-! DL51: sorted(xs, key=f): whatever f's calls keep (J). -/
namespace DL
open PySem PySem.Spec PyProof.Rows L2 LamX PySem.W
end DL
/-! DL52: sorted(xs, key=lambda p: body). -/
namespace DL
open PySem PySem.Spec PyProof.Rows L2 LamX
end DL
/-! DL53: sorted(xs, key=lambda p: body), read. -/
namespace DL
open PySem PySem.Spec PyProof.Rows L2 LamX
end DL
/-! DL54: the rule for sorted(e, key=lambda p: body). -/
namespace DL
open PySem PySem.Spec PyProof.Rows L2 LamX
end DL
/-! DL55: a def whose code object is known; list.remove; the law's end with tables of code objects. -/
namespace DL
open PySem PySem.Spec PyProof.Rows L2 LamX
section
variable {P : Program} {w : World} {K : PySem.W.Frag} {mg mb : Str → Option Value} {k : Nat} {fa a : Addr} {fd : FuncData} {x : Str} {Fm : FM} {s1 : Shared} {vs : List Value} {ns : List Int}
/-- cs: the code objects, their tables, the names of the lambdas -/
abbrev tabsF (cs : List (Addr × Addr × Str)) (mg : Str → Option Value) (FB : Hp) : TabT := { mg := mg, T := cs.map fun p => p.2, FB := FB }
abbrev tabsOf (cs : List (Addr × Addr × Str)) (mg : Str → Option Value) : TabT := tabsF cs mg fun _ => none
theorem law_coreT {H : Hp} {cs : List (Addr × Addr × Str)} (KX : K.In s1.heap) (hns : s1.heap.Ns mainGlobals mg) (hb : s1.heap.Ns builtinsNs mb) (hbb : ∀ x : Str, x ≠ "__name__" → mb x = bootBuiltins x) (hlim : s1.heap.NoLimit) (hg : s1.gens = #[])
    (hT : ∀ p ∈ cs, s1.heap.get? p.2.1 = some { cls := .none, data := .fields #[] }) (nT : ∀ p ∈ cs, K.lookup p.2.1 = none) (C : ∀ p ∈ cs, PySem.W.CodeHd s1.heap p.1 p.2.1)
    (hbm : ∃ (bm : Addr) (ob : Obj), mg "__builtins__" = some (.ref bm) ∧ bm ≠ builtinsNs ∧ s1.heap.get? bm = some ob ∧ ob.cls = .type "module" ∧ ob.dict = some builtinsNs ∧ ob.data = .plain)
    (ha : s1.heap.get? a = some { cls := .type "list", data := .seq vs.toArray }) (hr : Room k callerA)
    (G : ∀ base : Heap, K.In base → base.Ns mainGlobals mg → (∀ p ∈ cs, TabB base mg p.1 p.2.1) → (letI : TabT := tabsOf cs mg; GFn P w K mg base k fa fd [x] Fm)) (hbind : ∀ (s : Shared) (u : Value), BindsTo s fd ⟨[u], []⟩ [(x, u)])
    (aT : ∀ p ∈ cs, p.2.1 ≠ a) (hS : SqL K H a (ns.map V.int)) (hok : HOk P w H s1.heap) (hA : ∀ b, H b ≠ none → b = a ∨ ∃ p ∈ cs, b = p.2.1) (hH : ∀ p ∈ cs, H p.2.1 = some (.tbl #[])) (hfz : ∀ u, H a = some u → ∃ ob xs, u = .frz ob (.lst xs)) (hK : H a ≠ none → K.lookup a = none)
    (sem : ∃ as', Fm [.d (.scr ns)] = .ret (.d (.bl true)) as') :
    codeAny (model P w) callerA (.call (.ref fa) ⟨[.ref a], []⟩) (fun r s' => r = .ok (.ret (.bool true)) ∧ OldK s1.heap s'.heap ∧ s'.os = s1.os ∧ AllBare s'.gens) s1 := by
  letI : TabT := tabsOf cs mg
  have nd : ∀ {b : Addr} {o : Obj}, s1.heap.get? b = some o → (∀ vs n, o.data ≠ .seq vs n) → o.data ≠ .fields #[] → H b = none := fun {b o} e h1 h2 => by
    cases q : H b with
    | none => rfl
    | some u =>
      rcases hA b (by rw [q]; simp) with z | ⟨p, hp, z⟩
      · rw [z, ha] at e
        cases e
        exact (h1 _ _ rfl).elim
      · rw [z, hT p hp] at e
        cases e
        exact (h2 rfl).elim
  have base_of : ∀ {b : Addr} {o : Obj}, s1.heap.get? b = some o → H b = none → (hidT s1.heap H).get? b = some o := fun e n => hidT_get e n
  have nsT : ∀ {b : Addr} {m : Str → Option Value}, s1.heap.Ns b m → (hidT s1.heap H).Ns b m := fun {b m} ⟨o, es, ep, e, d, r⟩ => ⟨o, es, ep, base_of e (nd e (fun vs n z => by rw [d] at z; cases z) fun z => by rw [d] at z; cases z), d, r⟩
  have kT : K.In (hidT s1.heap H) := fun b o e => base_of (KX b o e) (by
    cases q : H b with
    | none => rfl
    | some u =>
      rcases hA b (by rw [q]; simp) with z | ⟨p, hp, z⟩
      · subst z
        rw [hK (by rw [q]; simp)] at e
        cases e
      · rw [z, nT p hp] at e
        cases e)
  obtain ⟨mc, h1, h2⟩ := hlim
  have M : L2.Mod K mg (hidT s1.heap H) := ⟨kT, nsT hns, ⟨mb, nsT hb, hbb⟩, ⟨mc, nsT h1, h2⟩⟩
  have TB : ∀ p ∈ cs, TabB (hidT s1.heap H) mg p.1 p.2.1 := fun p hp => by
    have hTp := hT p hp
    refine ⟨?_, ?_, fun z => ?_⟩
    · obtain ⟨o, us, file, tf, flags, tg, inF, text, tt, e1, r1, r2, r3, r4, r5, r6, r7, r8, hne⟩ := C p hp
      refine ⟨o, us, file, tf, flags, tg, inF, text, tt, base_of e1 (nd e1 (fun vs n z => ?_) fun z => ?_), r1, r2, r3, r4, r5, r6, r7, r8, hne⟩
      · rw [r2] at z
        cases z
      · rw [r2] at z
        cases z
        simp at r3
    · obtain ⟨bm, ob, b1, b2, b3, b4, b5, b6⟩ := hbm
      refine ⟨bm, ob, b1, b2, fun q => ?_, fun q => ?_, base_of b3 (nd b3 (fun vs n z => ?_) fun z => ?_), b4, b5, b6⟩
      · obtain ⟨o, es, ep, e, hd, _⟩ := hns
        rw [q, e] at b3
        cases b3
        rw [hd] at b6
        cases b6
      · rw [q, hTp] at b3
        cases b3
        cases b6
      · rw [b6] at z
        cases z
      · rw [b6] at z
        cases z
    · obtain ⟨o, es, ep, e, hd, _⟩ := hns
      rw [z, hTp] at e
      cases e
      cases hd
  have E0 : Env0 P w K mg (hidT s1.heap H) callerA [] s1 H := ⟨rfl, M, fun b o e => of_hidT e, Nat.le_of_eq (hidT_size _ _), trivial, (fun b z => nomatch (show b ∈ ([] : List Addr) from z)), hok, .of_eq hg⟩
  have sp : spD K mg 1 Fm [.ref a] H (fun v _ => v = .bl true) (fun _ _ _ => False) := by
    obtain ⟨as', e⟩ := sem
    let F : Hp := fun b => if b = a then H b else none
    have Fa : F a = H a := if_pos rfl
    have Fs : Same F H := fun b u q => by
      by_cases z : b = a
      · rw [z] at q ⊢; rw [← Fa]; exact q
      · have q' : (none : Option HO) = some u := (if_neg z).symm.trans q
        cases q'
    refine ⟨F, [.d (.scr ns)], ⟨rfl, Fs, fun i s q => ?_, fun i j c m c' m' b q => ?_, ⟨fun p hp => ?_, fun p hp => ?_, fun _ _ e => nomatch e⟩⟩, rfl, ?_⟩
    · cases i with
      | zero =>
        cases q
        refine ⟨some (.ref a), rfl, .ref a, rfl, .scr ?_⟩
        rcases hS with (z | ⟨o, z⟩) | z
        · exact .inl (.inl (Fa.trans z))
        · exact .inl (.inr ⟨o, Fa.trans z⟩)
        · exact .inr z
      | succ i => simp at q
    · cases i with
      | zero => cases q
      | succ i => simp at q
    · obtain ⟨q, hq, rfl⟩ := List.mem_map.mp hp
      exact TabS.nil (hH q hq)
    · obtain ⟨q, hq, rfl⟩ := List.mem_map.mp hp
      exact if_neg (aT q hq)
    · rw [e]
      intro v F' H' _ _ r
      have r : Rep K F' v (.bl true) := r
      cases r
      rfl
  refine codeAny_mono ((G _ kT (nsT hns) TB).run callerA [] s1 H ⟨[.ref a], []⟩ [.ref a] [.ref a] _ _ hr rfl E0 (hbind s1 (.ref a)) (.cons rfl .nil) sp) fun r s' h => ?_
  cases r with
  | error e =>
    obtain ⟨_, _, _, _, _, _, _, _, _, _, _, _, z⟩ := h
    exact z.elim
  | ok fl =>
    cases fl with
    | next => exact h.elim
    | brk => exact h.elim
    | cont => exact h.elim
    | ret u =>
      obtain ⟨v, H', os, bare, un, hok', rv, q⟩ := h
      have q : v = .bl true := q
      subst q
      have rv : u = Value.bool true := rv
      subst rv
      have key : ∀ b o, (∀ p ∈ cs, b ≠ p.2.1) → s1.heap.get? b = some o → s'.heap.get? b = some o := fun b o nb e => by
        cases q : H b with
        | none => exact un.keep b o e q (by exact fun z => nomatch (show b ∈ ([] : List Addr) from z)) (by simp)
        | some u =>
          rcases hA b (by rw [q]; simp) with z | ⟨p, hp, z⟩
          · subst z
            obtain ⟨ob, xs, rfl⟩ := hfz u q
            obtain ⟨e1, _⟩ := hok _ _ q
            obtain ⟨e2, _⟩ := hok' _ _ (un.frzs _ ob _ q)
            rw [e] at e1; cases e1
            exact e2
          · exact absurd z (nb p hp)
      have grown : ∀ p ∈ cs, ∃ more : Array Value, s'.heap.get? p.2.1 = some { cls := .none, data := .fields more } := fun p hp => by
        obtain ⟨more, z⟩ := un.tbls p.2.1 #[] (hH p hp)
        exact ⟨_, hok' p.2.1 _ z⟩
      refine ⟨rfl, ⟨fun b o e => ?_, fun b o e => ?_⟩, os, bare⟩
      · by_cases hb : ∃ p ∈ cs, b = p.2.1
        · obtain ⟨p, hp, ep⟩ := hb
          obtain ⟨more, hm⟩ := grown p hp
          rw [ep] at e ⊢
          rw [hT p hp] at e
          cases e
          exact .inr (.inl ⟨((C p hp).tab (hT p hp)).isCodeTable, rfl, #[], more, rfl, by rw [Array.empty_append]; exact hm⟩)
        · exact .inl (key b o (fun p hp z => hb ⟨p, hp, z⟩) e)
      · by_cases hb : ∃ p ∈ cs, b = p.2.1
        · obtain ⟨p, hp, ep⟩ := hb
          obtain ⟨more, hm⟩ := grown p hp
          rw [ep]
          exact ⟨_, hm⟩
        · exact ⟨o, key b o (fun p hp z => hb ⟨p, hp, z⟩) e⟩
theorem law_endT {cs : List (Addr × Addr × Str)} (KX : K.In s1.heap) (hns : s1.heap.Ns mainGlobals mg) (hb : s1.heap.Ns builtinsNs mb) (hbb : ∀ x : Str, x ≠ "__name__" → mb x = bootBuiltins x) (hlim : s1.heap.NoLimit) (hg : s1.gens = #[])
    (hT : ∀ p ∈ cs, s1.heap.get? p.2.1 = some { cls := .none, data := .fields #[] }) (nT : ∀ p ∈ cs, K.lookup p.2.1 = none) (C : ∀ p ∈ cs, PySem.W.CodeHd s1.heap p.1 p.2.1)
    (hbm : ∃ (bm : Addr) (ob : Obj), mg "__builtins__" = some (.ref bm) ∧ bm ≠ builtinsNs ∧ s1.heap.get? bm = some ob ∧ ob.cls = .type "module" ∧ ob.dict = some builtinsNs ∧ ob.data = .plain)
    (ha : s1.heap.get? a = some { cls := .type "list", data := .seq vs.toArray }) (hi : IntsAre vs ns) (hl : ns.length ≤ sizeLine) (hr : Room k callerA)
    (G : ∀ base : Heap, K.In base → base.Ns mainGlobals mg → (∀ p ∈ cs, TabB base mg p.1 p.2.1) → (letI : TabT := tabsOf cs mg; GFn P w K mg base k fa fd [x] Fm)) (hbind : ∀ (s : Shared) (u : Value), BindsTo s fd ⟨[u], []⟩ [(x, u)])
    (sem : ∃ as', Fm [.d (.scr ns)] = .ret (.d (.bl true)) as') :
    codeAny (model P w) callerA (.call (.ref fa) ⟨[.ref a], []⟩) (fun r s' => r = .ok (.ret (.bool true)) ∧ OldK s1.heap s'.heap ∧ s'.os = s1.os ∧ AllBare s'.gens) s1 := by
  have rv := vals_ints hi
  have lenV := hi.length
  have aT : ∀ p ∈ cs, p.2.1 ≠ a := fun p hp z => by
    have q := hT p hp
    rw [z, ha] at q
    have z' : Data.seq vs.toArray _ = Data.fields #[] := congrArg Obj.data (Option.some.inj q)
    cases z'
  have memT : ∀ p ∈ cs, p.2.1 ∈ cs.map (fun p => p.2.1) := fun p hp => List.mem_map.mpr ⟨p, hp, rfl⟩
  have aM : a ∉ cs.map (fun p => p.2.1) := fun z => by
    obtain ⟨p, hp, e⟩ := List.mem_map.mp z
    exact aT p hp e
  cases hk : K.lookup a with
  | some o =>
    have e := KX a o hk
    rw [ha] at e
    cases e
    refine law_coreT (H := fun b => if b ∈ cs.map (fun p => p.2.1) then some (.tbl #[]) else none) KX hns hb hbb hlim hg hT nT C hbm ha hr G hbind aT (.inr ⟨_, vs.toArray, _, hk, rfl, rfl, rfl, by rw [List.size_toArray, lenV]; exact hl, by simpa using rv⟩) (fun b u z => ?_) (fun b z => ?_) (fun p hp => if_pos (memT p hp)) (fun u z => ?_) (fun z => absurd (if_neg aM) z) sem
    · by_cases h1 : b ∈ cs.map (fun p => p.2.1)
      · have z' := (if_pos h1).symm.trans z
        cases z'
        obtain ⟨p, hp, e⟩ := List.mem_map.mp h1
        rw [← e]
        exact hT p hp
      · have z' := (if_neg h1).symm.trans z
        cases z'
    · by_cases h1 : b ∈ cs.map (fun p => p.2.1)
      · obtain ⟨p, hp, e⟩ := List.mem_map.mp h1
        exact .inr ⟨p, hp, e.symm⟩
      · exact absurd (if_neg h1) z
    · have z' := (if_neg aM).symm.trans z
      cases z'
  | none =>
    refine law_coreT (H := fun b => if b = a then some (.frz { cls := .type "list", data := .seq vs.toArray } (.lst (ns.map V.int))) else if b ∈ cs.map (fun p => p.2.1) then some (.tbl #[]) else none) KX hns hb hbb hlim hg hT nT C hbm ha hr G hbind aT (.inl (.inr ⟨{ cls := .type "list", data := .seq vs.toArray }, if_pos rfl⟩)) (fun b u z => ?_) (fun b z => ?_)
      (fun p hp => (if_neg (aT p hp)).trans (if_pos (memT p hp))) (fun u z => ?_) (fun _ => hk) sem
    · by_cases h0 : b = a
      · have z' := (if_pos h0).symm.trans z
        cases z'
        rw [h0]
        exact ⟨ha, by rw [List.length_map]; exact hl, vs, _, rv, ha⟩
      · have z1 := (if_neg h0).symm.trans z
        by_cases h1 : b ∈ cs.map (fun p => p.2.1)
        · have z' := (if_pos h1).symm.trans z1
          cases z'
          obtain ⟨p, hp, e⟩ := List.mem_map.mp h1
          rw [← e]
          exact hT p hp
        · have z' := (if_neg h1).symm.trans z1
          cases z'
    · by_cases h0 : b = a
      · exact .inl h0
      · by_cases h1 : b ∈ cs.map (fun p => p.2.1)
        · obtain ⟨p, hp, e⟩ := List.mem_map.mp h1
          exact .inr ⟨p, hp, e.symm⟩
        · exact absurd ((if_neg h0).trans (if_neg h1)) z
    · have z' := (if_pos rfl).symm.trans z
      cases z'
      exact ⟨_, _, rfl⟩
end
/-- the goal that k_head leaves, from the law's promise; the lambdas' code objects and tables are cs -/
theorem walk_gfnT {l : PySem.W.OpenLaw} {n k : Nat} {q : Program} {loose : List Str} {XP : (Str → Option Value) → Heap → Prop} {YP : World → Heap → Prop} {d : DefRec} {K : Params → PySem.W.Frag} {x : Str} {Fm : FM} (cs : List (Addr × Addr × Str)) (hn : l.most = some n) (hn2 : n ≤ sizeLine) (hdf : d.params.defaults = []) (hr : Room k callerA)
    (hY : ∀ (w : World) (h : Heap), YP w h → (K w.params).In h) (hT : ∀ (w : World) (h : Heap), YP w h → ∀ p ∈ cs, h.get? p.2.1 = some { cls := .none, data := .fields #[] }) (nT : ∀ w : World, ∀ p ∈ cs, (K w.params).lookup p.2.1 = none) (C : ∀ (w : World) (h : Heap), (K w.params).In h → ∀ p ∈ cs, PySem.W.CodeHd h p.1 p.2.1)
    (G : ∀ (w : World) (mg : Str → Option Value) (fa : Addr) (h : Heap), (K w.params).In h → h.Ns mainGlobals mg → mg d.name = some (.ref fa) → ∃ fd : FuncData, (∀ (s : Shared) (u : Value), BindsTo s fd ⟨[u], []⟩ [(x, u)]) ∧ ∀ base : Heap, (K w.params).In base → base.Ns mainGlobals mg → (∀ p ∈ cs, TabB base mg p.1 p.2.1) → (letI : TabT := tabsOf cs mg; GFn l.prog w (K w.params) mg base k fa fd [x] Fm))
    (sem : ∀ ns : List Int, ns.length ≤ n → ∃ as', Fm [.d (.scr ns)] = .ret (.d (.bl true)) as') :
    PySem.W.WalkO q loose XP YP l.row.toRowW d [] (fun f vs => PySem.call f vs) := by
  refine Att.attach_call hn hdf fun w s0 s1 mg mb fa o pm cd doc a vs ns Gr Y ho hd hcd hmg hobj hints hlen hg => ?_
  have KX := hY w _ Y
  obtain ⟨fd, hb, hF⟩ := G w mg fa _ KX Gr.T.g hmg
  exact law_endT KX Gr.T.g Gr.T.b Gr.T.builtins Gr.T.nolimit hg (hT w _ Y) (nT w) (C w _ KX) Gr.T.bmain hobj hints (Nat.le_trans hlen hn2) hr hF hb (sem ns hlen)
end DL
/-! DL56: list(d), d a dict that the slot owns. -/
namespace DL
open PySem PySem.Spec PyProof.Rows L2
/-! reading rules -/
end DL
/-! DL57: reading sorted(e, key=..). -/
namespace DL
open PySem PySem.Spec PyProof.Rows L2
end DL
/-! DL58: sorted of a list of tuples of any data. -/
namespace DL
open PySem PySem.Spec PyProof.Rows L2
end DL
set_option maxHeartbeats 1000000
/-! DL59: a caught exception stands in the abstract heap; try with except clauses, with names and without. -/
namespace DL
open PySem PySem.Spec PyProof.Rows L2
theorem xoO_ok {P : Program} {w : World} {H : Hp} {h : Heap} {a : Addr} {cls : Value} {d : Addr} {oe : Obj} {vs : Array Value} (e : h.get? a = some oe) (h1 : oe.cls = cls) (h2 : oe.dict = some d) (h3 : oe.data = .fields vs) : ObjOk P w H h a (xoO a cls d) :=
  ⟨⟨oe, vs, e, h1, h2, h3⟩, ⟨_, e⟩, fun h1 h2 z k => by
    obtain ⟨o, v, q, r⟩ := z
    exact ⟨o, v, k _ q, r⟩⟩
theorem xoO_at {P : Program} {w : World} {H : Hp} {h : Heap} {a : Addr} {cls : Value} {d : Addr} (hok : HOk P w H h) (he : H a = some (xoO a cls d)) : ∃ (oe : Obj) (vs : Array Value), h.get? a = some oe ∧ oe.cls = cls ∧ oe.dict = some d ∧ oe.data = .fields vs := by
  have x : ObjOk P w H h a (.ext fun h => ∃ (oe : Obj) (vs : Array Value), h.get? a = some oe ∧ oe.cls = cls ∧ oe.dict = some d ∧ oe.data = .fields vs) := hok a _ he
  exact x.1
section
variable {X : Cx} {pins : List (Addr × Obj)} {σ : L2.St} {H : Hp} {s : Shared}
/-- an object of the heap that nothing tells of yet -/
theorem inv_adopt {a : Addr} {o : HO} (I : Inv X pins σ H s) (ho : ∀ H', ObjOk X.prog X.w H' s.heap a o) (na : H a = none) (nL : a ≠ X.env.locals) (nB : X.s_0.heap.get? a = none) (nC : ∀ x c, X.env.cells.lookup x = some c → c ≠ a) (nP : ∀ p ∈ X.pn ++ pins, p.1 ≠ a) : Inv X pins σ (upd H a o) s := by
  have ne : ∀ {b : Addr} {u : HO}, H b = some u → b ≠ a := fun {b u} e z => by rw [z, na] at e; cases e
  refine ⟨I.ok, I.os, I.bare, ⟨I.base.keep, I.base.slot, fun b u e n hx => ?_, I.base.there, fun b xs e => ?_, fun b u v e => ?_, fun b ps e => ?_⟩, I.loc, I.cell, by rw [upd_ne (Ne.symm nL)]; exact I.free, fun x c e => by rw [upd_ne (nC x c e)]; exact I.freeC x c e, fun p hp => ?_, fun b u e => ?_, I.len⟩
  · rw [upd_ne fun z => by rw [z, nB] at e; cases e]
    exact I.base.free b u e n hx
  · have := I.base.tups b xs e
    rw [upd_ne (ne this)]; exact this
  · have := I.base.frzs b u v e
    rw [upd_ne (ne this)]; exact this
  · obtain ⟨m, q⟩ := I.base.tbls b ps e
    exact ⟨m, by rw [upd_ne (ne q)]; exact q⟩
  · obtain ⟨e, n, n1, n2, n3⟩ := I.pin p hp
    exact ⟨e, by rw [upd_ne (nP p hp)]; exact n, n1, n2, n3⟩
  · by_cases z : b = a
    · subst z
      rw [upd_same] at e
      cases e
      exact ho _
    · rw [upd_ne z] at e
      exact (I.hok b u e).stay (fun _ _ _ q => q) (fun c hc => by rw [upd_ne (ne hc)]; exact hc) fun c xs hc => by rw [upd_ne (ne hc)]; exact hc
end
end DL
set_option maxHeartbeats 1000000
/-! DL60: try with except clauses, on slots. -/
namespace DL
open PySem PySem.Spec PyProof.Rows L2
variable [TabT]
/-- c, of the classes es of the program, is caught by the name k -/
def subX (c k : Str) : Bool := decide (c = k) || decide (k = ("CellError" : Str)) || decide (k = ("ValueError" : Str)) || decide (k = ("Exception" : Str))
/-- what is known of the classes of exceptions: cv is what the name k stands for -/
def SubOk (K : PySem.W.Frag) (mg : Str → Option Value) (es : List Str) (k : Str) (cv : Value) : Prop := ∀ c ∈ es, ∃ C : Addr, mg c = some (.ref C) ∧ PySem.W.exmOne K (.ref C) cv = some (subX c k)
end DL
set_option maxHeartbeats 1000000
/-! DL61: an exception of a class of the program is made and raised. -/
namespace DL
open PySem PySem.Spec PyProof.Rows L2
variable [TabT]
/-- a class over ValueError that has no __init__ of its own -/
structure CeC (K : PySem.W.Frag) (C0 : Addr) : Prop where
  hg : PySem.W.specialIn K (.ref C0) "__getattribute__" = some (some (.builtin "type.__getattribute__"))
  hr : PySem.W.readsIn K C0 (.type "type") = true
  vi : PySem.W.findCls K (.ref C0) (.type "type") "__init__" = some (.val (.builtin "ValueError.__init__"))
section
variable {X : Cx} {e : Expr} {es : List Expr} {ta : TA} {p1 p2 pos : Pos} {C0 : Addr} {x : Str}
theorem pe_ceinit {pl : Sem Bool} (hg : Gl X x) (hm : X.mg x = some (.ref C0)) (T : CeC X.K C0) (ha : PA X (e :: es) ta) (hdb : (x == ("__debug__" : Str)) = false := by decide)
    (hc : eval (.Call (.Attribute (.Name x p1) "__init__" p2) (e :: es) [] pos) X.env = (do
      let ov ← eval (.Name x p1) X.env
      standAt p2.atName
      let (f, first) ← holding [ov] (getMethod ov "__init__" pl)
      callWith pos f first (backTo pos (starEach (e :: es) X.env)) (backToKw pos (keywordEach [] X.env))) := by rfl)
    (he : starEach (e :: es) X.env = (false, eval e X.env) :: starEach es X.env := by rfl) (hpl : (backTo pos (starEach es X.env)).any (·.1) = false := by rfl) :
    PE X (.Call (.Attribute (.Name x p1) "__init__" p2) (e :: es) [] pos) (tVeI X.K ta) := by
  refine ⟨fun pins s σ H Q I h => ?_⟩
  refine PySem.W.methodCall_KW (ld_glob I hg hm ?_ hdb) hc
  refine PySem.W.method_cls I.kIn T.hg (PySem.W.cls_value I.kIn T.hr T.vi (by decide +kernel) ?_)
  show wpAny _ _ (callWith pos (Value.builtin "ValueError.__init__") [] (backTo pos (starEach (e :: es) X.env)) []) _ _ _
  refine PyProof.Rows.callWith_method1 (thn (ha.run pos pins _ σ H _ (I.tok _) h) fun us s1 ⟨vs, H1, I1, r1, a, C, ws, ev, hl, T, ea, q⟩ => ?_) he hpl
  subst ev
  cases r1 with
  | @cons _ u0 _ ur ra rw' =>
    obtain rfl : u0 = Value.ref a := ra
    have hlen : ur.length ≤ sizeLine := by
      rw [← Paired.length rw', sizeLine_eq]
      omega
    exact oinit_ok T I1 ea hlen fun s' J => ⟨.non, H1, J, rfl, q⟩
end
/-- what __init__(self, y) leaves of a new exception -/
def spI1 (C : Addr) (f : Str) : Sp := fun vs H Q _ => ∃ (a : Addr) (y : V), vs = [.ref a, y] ∧ H a = some (exo a C none) ∧ ∀ dx, H dx = none → dx ≠ a → Q .non (upd (upd H dx (exd dx [(f, y)])) a (exo a C (some dx)))
/-- .. of two fields -/
def spI2 (C : Addr) (f g : Str) : Sp := fun vs H Q _ => ∃ (a : Addr) (y z : V), vs = [.ref a, y, z] ∧ H a = some (exo a C none) ∧ ∀ dx, H dx = none → dx ≠ a → Q .non (upd (upd (upd H dx (exd dx [(f, y)])) a (exo a C (some dx))) dx (exd dx [(g, z), (f, y)]))
theorem i1_fin {K : PySem.W.Frag} {C : Addr} {f : Str} {m : Str} {a : Addr} {y : V} {H : Hp} {Q : VK} (T : OexC K C) (hno : PySem.W.findIn K (.ref C) f = some none) (ea : H a = some (exo a C none)) (q : ∀ dx, H dx = none → dx ≠ a → Q .non (upd (upd H dx (exd dx [(f, y)])) a (exo a C (some dx)))) :
    tSeq (tDrop (tVeI K (tCons (tVar 0) (tCons (tC (.str m)) tNil)))) (tOst K f (tVar 0) (tVar 1)) { nx := fun _ H' => Q .non H', rt := Q } [some (.ref a), some y] H := by
  refine ⟨.ref a, rfl, a, C, [.str m], rfl, by simp, T, ea, ?_⟩
  refine ⟨y, rfl, .ref a, rfl, a, C, rfl, T, hno, .inl ⟨ea, fun dx n ne => q dx n ne⟩⟩
theorem i2_fin {K : PySem.W.Frag} {C : Addr} {f g : Str} {m : Str} {a : Addr} {y z : V} {H : Hp} {Q : VK} (T : OexC K C) (hno : PySem.W.findIn K (.ref C) f = some none) (hno2 : PySem.W.findIn K (.ref C) g = some none) (ea : H a = some (exo a C none)) (q : ∀ dx, H dx = none → dx ≠ a → Q .non (upd (upd (upd H dx (exd dx [(f, y)])) a (exo a C (some dx))) dx (exd dx [(g, z), (f, y)]))) :
    tSeq (tDrop (tVeI K (tCons (tVar 0) (tCons (tC (.str m)) tNil)))) (tSeq (tOst K f (tVar 0) (tVar 1)) (tOst K g (tVar 0) (tVar 2))) { nx := fun _ H' => Q .non H', rt := Q } [some (.ref a), some y, some z] H := by
  refine ⟨.ref a, rfl, a, C, [.str m], rfl, by simp, T, ea, ?_⟩
  refine ⟨y, rfl, .ref a, rfl, a, C, rfl, T, hno, .inl ⟨ea, fun dx n ne => ?_⟩⟩
  refine ⟨z, rfl, .ref a, rfl, a, C, rfl, T, hno2, .inr ⟨dx, [(f, y)], upd_same, ?_, by simp, q dx n ne⟩⟩
  rw [upd_ne ne, upd_same]
/-! ### raise -/
section
variable {X : Cx} {W : WX} {e e2 : Expr} {p pos pos' : Pos} {c f f2 : Str} {gl : M (List Val)} {C fI : Addr} {k : Nat} {fd : FuncData} {ps : List Str}
theorem made_hp {H1 : Hp} {a dx : Addr} {o1 o2 o3 u : HO} (na : H1 a = none) (nd : H1 dx = none) (ne : dx ≠ a) : upd (del (upd (upd (upd H1 a o1) dx o2) a o3) a) dx u = upd H1 dx u := by
  funext b
  by_cases h : b = dx
  · subst h; rw [upd_same, upd_same]
  · rw [upd_ne h, upd_ne h]
    by_cases h2 : b = a
    · subst h2; rw [del_same, na]
    · rw [del_ne h2, upd_ne h2, upd_ne h, upd_ne h2]
theorem made_hp2 {H1 : Hp} {a dx : Addr} {o1 o2 o3 o4 u : HO} (na : H1 a = none) (ne : dx ≠ a) : upd (del (upd (upd (upd (upd H1 a o1) dx o2) a o3) dx o4) a) dx u = upd H1 dx u := by
  funext b
  by_cases h : b = dx
  · subst h; rw [upd_same, upd_same]
  · rw [upd_ne h, upd_ne h]
    by_cases h2 : b = a
    · subst h2; rw [del_same, na]
    · rw [del_ne h2, upd_ne h, upd_ne h2, upd_ne h, upd_ne h2]
end
end DL
set_option maxHeartbeats 1000000
/-! DL62: isinstance and fields of a caught exception. -/
namespace DL
open PySem PySem.Spec PyProof.Rows L2
section
variable {X : Cx} {pins : List (Addr × Obj)} {σ : L2.St} {H : Hp} {s : Shared} {a d D : Addr} {fs : List (Str × V)}
theorem xo_inst (I : Inv X pins σ H s) (ha : H a = some (xoO a (.ref D) d)) (hd : H d = some (.xd fs)) : ∃ (oe od : Obj) (mA : Str → Option Value), PySem.W.InstAt s.heap a oe D (some od) ∧ (∀ name, PySem.W.lookIn name od = some (mA name)) ∧ ∀ f, RelO (fs.lookup f) (mA f) := by
  obtain ⟨oe, vs, h1, h2, h3, h4⟩ := xoO_at I.hok ha
  have hx : ObjOk X.prog X.w H s.heap d (.xd fs) := I.hok d _ hd
  obtain ⟨mA, hns, hr⟩ := hx
  obtain ⟨od, ho, hl⟩ := lookIn_ns hns
  exact ⟨oe, od, mA, ⟨h1, h2, by unfold PySem.W.notCls; rw [h4] <;> rfl, by rw [h3]; exact ho⟩, hl, hr⟩
theorem xo0_inst (I : Inv X pins σ H s) (ha : H a = some (xo0 a (.ref D))) : ∃ oe : Obj, PySem.W.InstAt s.heap a oe D none := by
  have x : ObjOk X.prog X.w H s.heap a (.ext fun h => ∃ (oe : Obj) (vs : Array Value), h.get? a = some oe ∧ oe.cls = .ref D ∧ oe.dict = none ∧ oe.data = .fields vs) := I.hok a _ ha
  obtain ⟨oe, vs, h1, h2, h3, h4⟩ := x.1
  exact ⟨oe, h1, h2, by unfold PySem.W.notCls; rw [h4] <;> rfl, by rw [h3]; trivial⟩
/-- an exception of the class D is at a -/
def XAt (H : Hp) (a D : Addr) : Prop := (∃ (d : Addr) (fs : List (Str × V)), H a = some (xoO a (.ref D) d) ∧ H d = some (.xd fs)) ∨ H a = some (xo0 a (.ref D))
theorem xat_inst (I : Inv X pins σ H s) (h : XAt H a D) : ∃ (oe : Obj) (od : Option Obj), PySem.W.InstAt s.heap a oe D od := by
  rcases h with ⟨d, fs, h1, h2⟩ | h
  · obtain ⟨oe, od, mA, J, _⟩ := xo_inst I h1 h2
    exact ⟨oe, _, J⟩
  · obtain ⟨oe, J⟩ := xo0_inst I h
    exact ⟨oe, _, J⟩
theorem excC_kit {K : PySem.W.Frag} {D x : Addr} {ox : Obj} {od : Option Obj} (C : ExcC K D) : PySem.W.KitX K (.ref x) (.ref D) (fun h => PySem.W.InstAt h x ox D od) :=
  PySem.W.kitx_exc (by obtain ⟨cd, hc, _⟩ := PySem.W.any_some C.hd; rw [hc]; rfl) C.hg C.hk C.hs C.ha C.hn C.ht C.hm
end
/-- isinstance(e, c), e a caught exception -/
def rIsO (K : PySem.W.Frag) : List V → Hp → VK → Prop := fun xs H Q => ∃ (a D : Addr) (c : V) (cv : Value) (b : Bool), xs = [.ref a, c] ∧ XAt H a D ∧ ExcC K D ∧ (∀ u, RelV c u → u = cv) ∧ PySem.W.kitOne K (.ref D) cv = some b ∧ Q (.bl b) H
theorem call_isO {X : Cx} : CallR X (.builtin "isinstance") (rIsO X.K) := by
  intro pins s σ H xs us Q I r h
  obtain ⟨a, D, c, cv, b, rfl, ha, C, hcv, e, q⟩ := h
  cases r with
  | cons rx rr =>
    cases rr with
    | cons rt rr =>
      cases rr
      cases rx
      have ec := hcv _ rt
      subst ec
      obtain ⟨oe, od, J⟩ := xat_inst I ha
      exact PySem.W.kia_one (excC_kit C) I.kIn J e (fun z => nomatch z) fun tk => ⟨.bl b, H, I.kept (t' := tk) fun _ _ z => z, rfl, q⟩
variable [TabT]
theorem zip_look {K : PySem.W.Frag} {F : Hp} {n : Str} {x : D} : ∀ {ns : List Str} {vs : List V} {ds : List D}, ns.length = vs.length → RepL K F vs ds → (ns.zip ds).lookup n = some x → ∃ v, (ns.zip vs).lookup n = some v ∧ Rep K F v x
  | [], vs, ds, _, _, h => by simp at h
  | m :: ns, v :: vs, d :: ds, hl, .cons r rr, h => by
    rw [List.zip_cons_cons, List.lookup_cons] at h ⊢
    cases hm : n == m with
    | true =>
      rw [hm] at h
      cases h
      exact ⟨v, rfl, r⟩
    | false =>
      rw [hm] at h
      exact zip_look (by simpa using hl) rr h
def eIsO (es : List Str) (c : Str) (f : EM) : EM := fun ρ => (f ρ).bind fun x ρ1 => match x.peek ρ1 with
  | some (.obj k _ _) => if es.contains k = true then .ok (.d (.bl (subX k c))) ρ1 else .bad
  | _ => .bad
def eAtO (es : List Str) (nm : Str) (f : EM) : EM := fun ρ => (f ρ).bind fun x ρ1 => match x.peek ρ1 with
  | some (.obj k ns ds) => if es.contains k = true then (match (ns.zip ds).lookup nm with | some d => .ok (.d d) ρ1 | none => .bad) else .bad
  | _ => .bad
section
variable {X : Cx} {W : WX} {e : Expr} {f : EM} {p p2 pos : Pos} {c nm : Str} {es : List Str}
theorem de_isO {cv : Value} {v : V} (hmg : MgT.mg = X.mg) (hg : Gl X "isinstance") (hm : X.mg "isinstance" = none) (he : DE X W e f) (hn : PE X (.Name c p2) (tC v)) (hv : ∀ u, RelV v u → u = cv)
    (hk : ∀ k ∈ es, ∃ D : Addr, X.mg k = some (.ref D) ∧ ExcC X.K D ∧ PySem.W.kitOne X.K (.ref D) cv = some (subX k c))
    (hs1 : starEach [e, .Name c p2] X.env = (false, eval e X.env) :: starEach [.Name c p2] X.env := by rfl) (hs2 : starEach [.Name c p2] X.env = (false, eval (.Name c p2) X.env) :: starEach [] X.env := by rfl) (hpl : (backTo pos (starEach [.Name c p2] X.env)).any (·.1) = false := by rfl) :
    DE X W (.Call (.Name "isinstance" p) [e, .Name c p2] [] pos) (eIsO es c f) :=
  pe_conseq (pe_callB call_isO hg hm PyProof.Rows.boot_isinstance (pa_cons he (pa_cons hn pa_nil hs2) hs1) (by decide) (by decide) hs1 hpl) fun σ H Q hq => by
    obtain ⟨F, ρ, sr, q⟩ := hq
    refine ⟨F, ρ, sr, (Out.bind (rel := relV X.K σ) q).mono fun x H1 ⟨y, F1, ρ1, e1, s1, ev1, r1, o1⟩ => ?_⟩
    cases hp : y.peek ρ1 with
    | none => rw [hp] at o1; exact o1.elim
    | some z =>
      rw [hp] at o1
      cases z with
      | obj k ns ds =>
        dsimp only at o1
        by_cases hc : es.contains k = true
        · rw [if_pos hc] at o1
          have rt : Rep X.K F1 x (.obj k ns ds) := VR.peek s1 r1 hp
          cases rt with
          | @obj a d cls _ _ xs _ e1 e2 e3 l r =>
            obtain ⟨D, m1, m2, m3⟩ := hk k (List.contains_iff_mem.mp hc)
            rw [hmg, m1] at e2
            cases e2
            exact ⟨a, D, v, cv, _, rfl, .inl ⟨d, _, s1.sub _ _ e1, s1.sub _ _ e3⟩, m2, hv, m3, o1 (.bl _) F1 H1 s1 ev1 (.bl _)⟩
          | @ob0 a cls _ e1 e2 =>
            obtain ⟨D, m1, m2, m3⟩ := hk k (List.contains_iff_mem.mp hc)
            rw [hmg, m1] at e2
            cases e2
            exact ⟨a, D, v, cv, _, rfl, .inr (s1.sub _ _ e1), m2, hv, m3, o1 (.bl _) F1 H1 s1 ev1 (.bl _)⟩
        · rw [if_neg hc] at o1
          exact o1.elim
      | _ => exact o1.elim
theorem de_atO (hmg : MgT.mg = X.mg) (he : DE X W e f) (hk : ∀ k ∈ es, ∃ D : Addr, X.mg k = some (.ref D) ∧ ExcC X.K D ∧ PySem.W.findIn X.K (.ref D) nm = some none)
    (hb : attributeBase e nm X.env (eval e X.env) = eval e X.env := by rfl) : DE X W (.Attribute e nm pos) (eAtO es nm f) := by
  refine ⟨fun pins s σ H Q I hq => ?_⟩
  obtain ⟨F, ρ, sr, q⟩ := hq
  refine attr_of hb (thn (he.run pins s σ H _ I ⟨F, ρ, sr, (Out.bind (rel := relV X.K σ) q)⟩) fun u s1 ⟨x, H1, I1, rx, y, F1, ρ1, e1, s1', ev1, r1, o1⟩ => ?_)
  cases hp : y.peek ρ1 with
  | none => rw [hp] at o1; exact o1.elim
  | some z =>
    rw [hp] at o1
    cases z with
    | obj k ns ds =>
      dsimp only at o1
      by_cases hc : es.contains k = true
      · rw [if_pos hc] at o1
        cases hl : (ns.zip ds).lookup nm with
        | none => rw [hl] at o1; exact o1.elim
        | some d0 =>
          rw [hl] at o1
          have rt : Rep X.K F1 x (.obj k ns ds) := VR.peek s1' r1 hp
          cases rt with
          | @obj a d cls _ _ xs _ e1 e2 e3 l r =>
            obtain ⟨D, m1, m2, m3⟩ := hk k (List.contains_iff_mem.mp hc)
            rw [hmg, m1] at e2
            cases e2
            obtain rfl : u = Value.ref a := rx
            obtain ⟨oe, od, mA, J, hlk, hr⟩ := xo_inst I1 (s1'.sub _ _ e1) (s1'.sub _ _ e3)
            obtain ⟨v0, hz, rp⟩ := zip_look l r hl
            obtain ⟨w, hw, rw'⟩ := RelO.some_of (v := v0) (o := mA nm) (by rw [← hz]; exact hr nm)
            exact PySem.HandSPX.exc_get I1.kIn J m2.hg m2.hk m2.hs (PySem.W.findObj_own m2.hd m3 rfl (by rw [hlk, hw])) (handed_of rw') ⟨v0, H1, I1.tok _, rw', o1 v0 F1 H1 s1' ev1 rp⟩
          | @ob0 a cls _ e1 e2 => exact absurd hl (by simp)
      · rw [if_neg hc] at o1
        exact o1.elim
    | _ => exact o1.elim
end
end DL
set_option maxHeartbeats 1000000
/-! DL63: a lambda without parameters is made and handed to a def, which calls it. -/
namespace DL
open PySem PySem.Spec PyProof.Rows L2 LamX
/-! ### what the thunk gives -/
end DL
set_option maxHeartbeats 1000000
/-! DL64: a def that calls the lambda it is given; its call. -/
namespace DL
open PySem PySem.Spec PyProof.Rows L2 LamX
end DL
set_option maxHeartbeats 1000000
/-! DL65: what the text of a law knows of its classes of exceptions. -/
namespace DL
open PySem PySem.Spec PyProof.Rows L2
/-- the class c can be made and raised; sp is what its __init__ leaves -/
structure ExcR (P : Program) (w : World) (K : PySem.W.Frag) (mg : Str → Option Value) (base : Heap) (k : Nat) (c : Str) (sp : Addr → Sp) : Prop where
  ex : ∃ (C fI : Addr) (fd : FuncData) (ps : List Str), OexC K C ∧ PySem.W.findIn K (.ref C) "__init__" = some (some (.ref fI)) ∧ PySem.W.typeIn K (.ref fI) = some (.type "function") ∧ FnOk P w K mg base (L2.CX P w) k fI fd ps (sp C) ∧ Binds K fd ps [] ∧ mg c = some (.ref C)
/-- isinstance of an exception of one of the classes es -/
def IsF (K : PySem.W.Frag) (mg : Str → Option Value) (es : List Str) (c : Str) (cv : Value) : Prop := ∀ k ∈ es, ∃ D : Addr, mg k = some (.ref D) ∧ ExcC K D ∧ PySem.W.kitOne K (.ref D) cv = some (subX k c)
/-- a field of an exception of one of the classes es -/
def AtF (K : PySem.W.Frag) (mg : Str → Option Value) (es : List Str) (nm : Str) : Prop := ∀ k ∈ es, ∃ D : Addr, mg k = some (.ref D) ∧ ExcC K D ∧ PySem.W.findIn K (.ref D) nm = some none
section
variable [TabT]
variable {X : Cx} {W : WX} {e e2 : Expr} {p p2 pos pos' : Pos} {c f f2 nm : Str} {gl : M (List Val)} {k j : Nat} {es : List Str} {g : EM}
theorem de_isOX {C : Addr} (hmg : MgT.mg = X.mg) (hg : Gl X "isinstance") (hm : X.mg "isinstance" = none) (he : DE X W e g) (hc : Gl X c) (mc : X.mg c = some (.ref C)) (hk : IsF X.K X.mg es c (.ref C))
    (hdb : (c == ("__debug__" : Str)) = false := by decide) (hs1 : starEach [e, .Name c p2] X.env = (false, eval e X.env) :: starEach [.Name c p2] X.env := by rfl) (hs2 : starEach [.Name c p2] X.env = (false, eval (.Name c p2) X.env) :: starEach [] X.env := by rfl) (hpl : (backTo pos (starEach [.Name c p2] X.env)).any (·.1) = false := by rfl) :
    DE X W (.Call (.Name "isinstance" p) [e, .Name c p2] [] pos) (eIsO es c g) :=
  de_isO (cv := .ref C) (v := .ref C) hmg hg hm he (pe_glob hc mc rfl hdb) (fun _ r => r) hk hs1 hs2 hpl
theorem de_atOX (hmg : MgT.mg = X.mg) (he : DE X W e g) (hk : AtF X.K X.mg es nm) (hb : attributeBase e nm X.env (eval e X.env) = eval e X.env := by rfl) : DE X W (.Attribute e nm pos) (eAtO es nm g) := de_atO hmg he hk hb
end
/-- a class of the program, as «except» and isinstance ask for it -/
theorem exm_of {K : PySem.W.Frag} {S D : Addr} {b : Bool} (h1 : PySem.W.subIn K (.ref D) (.type "BaseException") = some true) (h2 : PySem.W.isClsIn K D = true) (h3 : PySem.W.typeIn K (.ref D) = some (.type "type")) (h4 : PySem.W.subIn K (.ref S) (.ref D) = some b) :
    PySem.W.exmOne K (.ref S) (.ref D) = some b := by
  have e1 : (PySem.W.subIn K (.ref D) (.type "BaseException") == some true) = true := by rw [h1] <;> rfl
  have e2 : ((PySem.W.clsIn K D).isSome && PySem.W.typeIn K (.ref D) == some (.type "type")) = true := by
    have h2' : (PySem.W.clsIn K D).isSome = true := h2
    rw [h2', h3] <;> rfl
  show (if (PySem.W.subIn K (.ref D) (.type "BaseException") == some true) = true then (if ((PySem.W.clsIn K D).isSome && PySem.W.typeIn K (.ref D) == some (.type "type")) = true then PySem.W.subIn K (.ref S) (.ref D) else none) else none) = some b
  rw [if_pos e1, if_pos e2]
  exact h4
theorem kit_of {K : PySem.W.Frag} {S D : Addr} {b : Bool} (h2 : PySem.W.isClsIn K D = true) (h3 : PySem.W.typeIn K (.ref D) = some (.type "type")) (h4 : PySem.W.subIn K (.ref S) (.ref D) = some b) (hb : (S == D) = true → b = true) :
    PySem.W.kitOne K (.ref S) (.ref D) = some b := by
  have e2 : ((PySem.W.clsIn K D).isSome && PySem.W.typeIn K (.ref D) == some (.type "type")) = true := by
    have h2' : (PySem.W.clsIn K D).isSome = true := h2
    rw [h2', h3] <;> rfl
  show (if ((Value.ref S) == (Value.ref D)) = true then some true else (if ((PySem.W.clsIn K D).isSome && PySem.W.typeIn K (.ref D) == some (.type "type")) = true then PySem.W.subIn K (.ref S) (.ref D) else none)) = some b
  by_cases h : ((Value.ref S) == (Value.ref D)) = true
  · rw [if_pos h, hb (by have z : (Value.ref S) = (Value.ref D) := by simpa using h
                         cases z
                         simp)]
  · rw [if_neg h, if_pos e2]
    exact h4
end DL
set_option maxHeartbeats 1000000
/-! DL66: reading try, raise, isinstance and fields of exceptions. -/
namespace DL
open PySem PySem.Spec PyProof.Rows L2
section
variable {ρ ρ' : DEnv} {i : Nat} {c k nm : Str} {ns es : List Str} {gl : M (List Val)} {g h : SM} {f : EM} {x : Val} {d : D} {ds : List D} {cl : List (Str × Option Nat × SM)} {P : Po} {Q : Val → DEnv → Prop} {X : Ex → DEnv → Prop}
def isOV (es : List Str) (c : Str) (x : Val) : EM := fun ρ1 => match x.peek ρ1 with
  | some (.obj k _ _) => if es.contains k = true then .ok (.d (.bl (subX k c))) ρ1 else .bad
  | _ => .bad
def atOV (es : List Str) (nm : Str) (x : Val) : EM := fun ρ1 => match x.peek ρ1 with
  | some (.obj k ns ds) => if es.contains k = true then (match (ns.zip ds).lookup nm with | some d => .ok (.d d) ρ1 | none => .bad) else .bad
  | _ => .bad
theorem b_isO (q : (f ρ).wp (fun x ρ1 => (isOV es c x ρ1).wp Q X) X) : (eIsO es c f ρ).wp Q X := b_bind q
theorem b_atO (q : (f ρ).wp (fun x ρ1 => (atOV es nm x ρ1).wp Q X) X) : (eAtO es nm f ρ).wp Q X := b_bind q
theorem b_isOV (hp : x.peek ρ = some (.obj k ns ds)) (hk : es.contains k = true) (q : Q (.d (.bl (subX k c))) ρ) : (isOV es c x ρ).wp Q X := by
  unfold isOV
  rw [hp]
  dsimp only
  rw [if_pos hk]
  exact q
theorem b_atOV (hp : x.peek ρ = some (.obj k ns ds)) (hk : es.contains k = true) (hl : (ns.zip ds).lookup nm = some d) (q : Q (.d d) ρ) : (atOV es nm x ρ).wp Q X := by
  unfold atOV
  rw [hp]
  dsimp only
  rw [if_pos hk, hl]
  exact q
end
end DL
set_option maxHeartbeats 1000000
/-! DL67: an item of a list as a target among others: xs[i], xs[j] = .. -/
namespace DL
open PySem PySem.Spec PyProof.Rows L2
end DL
set_option maxHeartbeats 1000000
/-! DL68: xs[::-1] of a list and of a tuple. -/
namespace HT
open PySem PySem.Spec PyProof.Rows L2
theorem adjust_rev (n : Nat) : Builtin.Slice.sliceAdjust none none (-1) (n : Int) = ((n : Int) - 1, -1) := rfl
theorem places_rev (n : Nat) : Builtin.Slice.slicePlaces ((n : Int) - 1) (-1) (-1) = n := by
  unfold Builtin.Slice.slicePlaces
  have h1 : ¬ ((-1 : Int) > 0) := by omega
  simp only [h1, if_false]
  have e : -(-1 : Int) = 1 := by omega
  rw [e, Int.ediv_one]
  split <;> omega
theorem pick_rev (xs : Array Value) : ((List.range xs.size).filterMap fun (m : Nat) => xs[(((xs.size : Int) - 1) + (m : Int) * (-1)).toNat]?).toArray = xs.toList.reverse.toArray := by
  congr 1
  have e : ∀ l : List Nat, (∀ m ∈ l, m < xs.size) → (l.filterMap fun (m : Nat) => xs[(((xs.size : Int) - 1) + (m : Int) * (-1)).toNat]?) = l.filterMap fun m => xs.toList.reverse[m]? := fun l => by
    induction l with
    | nil => exact fun _ => rfl
    | cons m l ih =>
      intro hl
      have hm := hl m List.mem_cons_self
      have e1 : xs[(((xs.size : Int) - 1) + (m : Int) * (-1)).toNat]? = xs.toList.reverse[m]? := by
        rw [List.getElem?_reverse (by simpa using hm), Array.getElem?_toList]
        congr 1
        rw [Array.length_toList]
        omega
      rw [List.filterMap_cons, List.filterMap_cons, e1, ih fun x hx => hl x (List.mem_cons_of_mem _ hx)]
  rw [e _ fun m hm => List.mem_range.mp hm]
  have h : ∀ (ys : List Value) (n : Nat), n = ys.length → (List.range n).filterMap (fun m => ys[m]?) = ys := fun ys n hn => by
    subst hn
    induction ys with
    | nil => rfl
    | cons y ys ih =>
      rw [List.length_cons, List.range_succ_eq_map, List.filterMap_cons]
      simp only [List.getElem?_cons_zero]
      rw [List.filterMap_map]
      congr 1
  exact h _ _ (by simp)
section
variable {prog : Program} {w : World} {A : Around} {E : Value → Shared → Prop} {s : Shared}
theorem sliceApplied_rev {sl : Addr} {vl vu vk : Value} {n : Nat} {Q : Int × Int × Nat → Shared → Prop} (hs : s.heap.IsSliceOf sl vl vu vk) (pl : IsPart vl none) (pu : IsPart vu none) (pk : IsPart vk (some (-1)))
    (h : Q ((n : Int) - 1, -1, n) s) : wpAny (model prog w) A (Builtin.Slice.sliceApplied (.ref sl) (pure (n : Int))) Q E s := by
  obtain ⟨os, hos, hcs, hds⟩ := id hs
  unfold Builtin.Slice.sliceApplied Builtin.Slice.sliceFields
  refine wpAny_bind (wpAny_bind (wpAny_field hos hds (x := vl) rfl (wpAny_bind (wpAny_field hos hds (x := vu) rfl (wpAny_bind (wpAny_field hos hds (x := vk) rfl (wpAny_pure ?_)))))))
  refine wpAny_bind (slicePart_ pk ?_)
  show wpAny _ _ (if ((-1 : Int) == 0) = true then _ else _) _ _ s
  rw [if_neg (by decide)]
  refine wpAny_bind (slicePart_ pl (wpAny_bind (slicePart_ pu (wpAny_bind (wpAny_pure ?_)))))
  show wpAny _ _ (match Builtin.Slice.sliceAdjust none none (-1) (n : Int) with | (lo, hi) => pure (lo, (-1 : Int), Builtin.Slice.slicePlaces lo hi (-1))) _ _ s
  rw [adjust_rev n]
  show wpAny _ _ (pure ((n : Int) - 1, (-1 : Int), Builtin.Slice.slicePlaces ((n : Int) - 1) (-1) (-1))) _ _ s
  rw [places_rev]
  exact wpAny_pure h
theorem getItem_tuple_rev {t sl : Addr} {items : Array Value} {vl vu vk : Value} {Q : Value → Shared → Prop} (ht : IsTup s.heap t items) (hs : s.heap.IsSliceOf sl vl vu vk) (pl : IsPart vl none) (pu : IsPart vu none) (pk : IsPart vk (some (-1)))
    (h : Q (.ref s.heap.objs.size) { s with heap := s.heap.push { cls := .type "tuple", data := .seq items.toList.reverse.toArray } })
    (hsz : items.size ≤ sizeLine) : wpAny (model prog w) A (getItem (.ref t) (.ref sl)) Q E s := by
  have htake : sizeOk (.seq items.toList.reverse.toArray) := by
    show items.toList.reverse.toArray.size ≤ sizeLine
    rw [List.size_toArray, List.length_reverse, Array.length_toList]
    exact hsz
  obtain ⟨os, hos, hcs, hds⟩ := id hs
  have hTs : s.TypeIs (.ref sl) "slice" := ⟨os, hos, hcs⟩
  unfold getItem
  try with_reducible refine wpAny_holding ?_
  first | refine wpAny_bind (wpAny_pure ?_) | skip
  refine wpAny_bind (wpAny_sequenceKey ht.typeIs (by decide) ?_)
  refine wpAny_bind (wpAny_callSpecial?_slot (name := Str.ofString "__getitem__") ht.typeIs PyProof.Rows.slot_tuple_getitem
    (wpAny_call_entry PyProof.Rows.slot_tuple_getitem ht.typeIs entry_tuple_getitem ?_ (args_tuple_getitem _ _)))
  show wpAny _ _ (Builtin.Tuple.tupleItemsOf (.ref t) >>= _) _ _ s
  refine wpAny_bind (tupleItemsOf_ ht ?_)
  refine wpAny_bind (wpAny_typeOf hTs ?_)
  rw [if_pos (by decide)]
  refine wpAny_bind (sliceApplied_rev hs pl pu pk ?_)
  have hno : ¬ ((((items.size : Int) - 1) == 0 && (-1 : Int) == 1 && items.size == items.size) = true) := by
    intro q
    rw [Bool.and_eq_true, Bool.and_eq_true] at q
    exact absurd q.1.2 (by decide)
  show wpAny _ _ (if (((items.size : Int) - 1) == 0 && (-1 : Int) == 1 && items.size == items.size) = true then _ else _) _ _ s
  rw [if_neg hno, pick_rev]
  first
    | exact wpAny_bind (m := Builtin.Tuple.tupleExact _) (wpAny_newObj_type (wpAny_pure ⟨_, rfl, wpAny_pure h⟩) htake)
    | exact wpAny_bind (m := Builtin.Tuple.tupleExact _) (wpAny_newObj_type (wpAny_bind (wpAny_pure (wpAny_pure ⟨_, rfl, wpAny_pure h⟩))) htake)
    | exact wpAny_bind (wpAny_bind (m := Builtin.Tuple.tupleExact _) (wpAny_newObj_type (wpAny_pure (wpAny_pure ⟨_, rfl, wpAny_pure h⟩)) htake))
    | exact wpAny_bind (wpAny_bind (m := Builtin.Tuple.tupleExact _) (wpAny_newObj_type (wpAny_pure ⟨_, rfl, wpAny_pure h⟩) htake))
end
end HT
namespace L2
open PySem PySem.Spec PyProof.Rows
def tRevT (K : PySem.W.Frag) (te : TE) : TE := fun σ H Q => te σ H fun x H1 => ∃ a xs, x = .ref a ∧ ((SqL K H1 a xs ∧ ∀ p, H1 p = none → Q (.ref p) (upd H1 p (.lst xs.reverse))) ∨ (SqT K H1 a xs ∧ ∀ p, H1 p = none → Q (.ref p) (upd H1 p (.tup xs.reverse))))
theorem pe_revT {X : Cx} {e : Expr} {te : TE} {k : Nat} {p1 p2 p3 pos : Pos} (he : PE X e te) : PE X (.Subscript e (.Slice none none (some (.UnaryOp .USub (.Constant (.int 1) k p1) p2)) p3) pos) (tRevT X.K te) := by
  refine ⟨fun pins s σ H Q I h => ?_⟩
  refine Subscript_ (thn (he.run pins s σ H _ I h) fun v s1 ⟨x, H1, I1, r1, q1⟩ => ?_)
  obtain ⟨a, xs, ex, hx⟩ := q1
  subst ex
  cases r1
  have hst : PO X (some (.UnaryOp .USub (.Constant (.int 1) k p1) p2)) (tPart (tUn (rU fun i => .int (-i)) (tC (.int 1)))) := po_some (pe_un un_neg pe_int)
  refine wpAny_Slice (thn (po_none.run pins s1 σ H1 (fun o H2 => o = none ∧ H2 = H1) I1 ⟨rfl, rfl⟩) fun vl s2 ⟨l, H2, I2, pl, el, e2⟩ => ?_)
  subst el e2
  refine thn (po_none.run pins s2 σ H2 (fun o H3 => o = none ∧ H3 = H2) I2 ⟨rfl, rfl⟩) fun vu s3 ⟨u, H3, I3, pu, eu, e3⟩ => ?_
  subst eu e3
  refine thn (hst.run pins s3 σ H3 (fun o H4 => o = some (-1) ∧ H4 = H3) I3 ⟨1, rfl, -1, rfl, rfl, rfl⟩) fun vs s4 ⟨o, H4, I4, ps, eo, e4⟩ => ?_
  subst eo e4
  have I5 : Inv X pins σ H4 { s4 with heap := s4.heap.push { cls := .type "slice", data := .fields #[vl, vu, vs] } } := I4.kept (t' := s4.toks) fun b ob q => Heap.get?_push_of_some _ q
  show wpAny (model X.prog X.w) X.A (subscriptTail e (.Slice none none (some (.UnaryOp .USub (.Constant (.int 1) k p1) p2)) p3) (.ref a) (.ref s4.heap.objs.size)) (EP X pins σ Q) X.xe { s4 with heap := s4.heap.push { cls := .type "slice", data := .fields #[vl, vu, vs] } }
  rcases hx with ⟨hx, q⟩ | ⟨hx, q⟩
  · obtain ⟨its, r, ht, hz⟩ := I5.list hx
    have hlen := r.length
    refine tail_any (ops := [.ref a, .ref s4.heap.objs.size]) ht.isList.typeIs (PySem.slot_list_getitem.lookup) ?_ (by with_unfolding_all rfl)
    refine wpAny_getItem_list_slice ht.isList (Heap.IsSliceOf.new _ vl vu vs) pl pu ps (by decide) ?_ (by rw [List.size_toArray]; omega)
    rw [PySem.W.krv_pick]
    refine ⟨.ref _, _, I5.laid (t' := s4.toks) (o := .lst xs.reverse) (fun b ob q => Heap.get?_push_of_some _ q) (Nat.le_refl _) ?_, rfl, q _ (I5.hok.fresh (Nat.le_refl _))⟩
    exact ⟨by rw [List.length_reverse]; exact hz, _, 0, r.reverse, Heap.get?_push_size _ rfl⟩
  · obtain ⟨its, r, ht, hz⟩ := I5.tuple hx
    have hlen := r.length
    refine tail_any (ops := [.ref a, .ref s4.heap.objs.size]) ht.typeIs PyProof.Rows.slot_tuple_getitem.lookup ?_ (by with_unfolding_all rfl)
    refine HT.getItem_tuple_rev ht (Heap.IsSliceOf.new _ vl vu vs) pl pu ps ?_ (by rw [List.size_toArray]; omega)
    refine ⟨.ref _, _, I5.laid (t' := s4.toks) (o := .tup xs.reverse) (fun b ob q => Heap.get?_push_of_some _ q) (Nat.le_refl _) ?_, rfl, q _ (I5.hok.fresh (Nat.le_refl _))⟩
    exact ⟨by rw [List.length_reverse]; exact hz, _, r.reverse, IsTup.new _ _⟩
end L2
namespace DL
open PySem PySem.Spec PyProof.Rows L2
variable [TabT]
def revD : D → Option Val
  | .lst ds => some (.fr (.lst ds.reverse))
  | .tup ds => some (.d (.tup ds.reverse))
  | _ => none
theorem us_rev {K : PySem.W.Frag} : UnS K (fun x H Q => ∃ a xs, x = .ref a ∧ ((SqL K H a xs ∧ ∀ p, H p = none → Q (.ref p) (upd H p (.lst xs.reverse))) ∨ (SqT K H a xs ∧ ∀ p, H p = none → Q (.ref p) (upd H p (.tup xs.reverse))))) revD := by
  intro F H v a z Q s ra e q
  unfold revD at e
  split at e
  · cases e
    obtain ⟨p, xs, rfl, hl, r⟩ := ra
    refine ⟨p, xs, rfl, .inl ⟨.inl (.of hl), fun p2 hn => ?_⟩⟩
    have nF : F p2 = none := by
      cases qq : F p2 with
      | none => rfl
      | some u => rw [s _ _ qq] at hn; cases hn
    exact q (.ref p2) F _ (Gr.fresh s hn) ⟨p2, rfl, hn, nF, _, upd_same, r.reverse⟩
  · cases e
    obtain ⟨p, xs, rfl, hl, r⟩ := RepT.tup s ra
    exact ⟨p, xs, rfl, .inr ⟨hl, fun p' n => vn_tup s q r.reverse n⟩⟩
  · cases e
section
variable {X : Cx} {W : WX} {a : Expr} {f : EM} {j : Nat} {p1 p2 p3 pos : Pos}
theorem de_rev (ha : DE X W a f) : DE X W (.Subscript a (.Slice none none (some (.UnaryOp .USub (.Constant (.int 1) j p1) p2)) p3) pos) (eUn revD f) :=
  pe_conseq (pe_revT ha) fun _ _ _ => one1 us_rev
end
end DL
set_option maxHeartbeats 1000000
/-! DL69: what a def gives that calls its one parameter. -/
namespace DL
open PySem PySem.Spec PyProof.Rows L2
end DL
set_option maxHeartbeats 1000000
/-! DL70: isinstance of a caught exception by two classes, and by a class that is built in. -/
namespace DL
open PySem PySem.Spec PyProof.Rows L2
variable [TabT]
section
variable {X : Cx} {W : WX} {e : Expr} {f : EM} {p p2 p3 p4 pos : Pos} {c c2 : Str} {es : List Str} {kt : Nat}
/-- a class that is built in -/
theorem de_isOB {cn : String} (hmg : MgT.mg = X.mg) (hg : Gl X "isinstance") (hm : X.mg "isinstance" = none) (he : DE X W e f) (hc : Gl X c) (mc : X.mg c = none) (hv : bootBuiltins c = some (.type cn)) (hk : IsF X.K X.mg es c (.type cn))
    (hdb : (c == ("__debug__" : Str)) = false := by decide) (hnm : c ≠ "__name__" := by decide) (hs1 : starEach [e, .Name c p2] X.env = (false, eval e X.env) :: starEach [.Name c p2] X.env := by rfl) (hs2 : starEach [.Name c p2] X.env = (false, eval (.Name c p2) X.env) :: starEach [] X.env := by rfl) (hpl : (backTo pos (starEach [.Name c p2] X.env)).any (·.1) = false := by rfl) :
    DE X W (.Call (.Name "isinstance" p) [e, .Name c p2] [] pos) (eIsO es c f) :=
  de_isO (cv := .type cn) (v := .ty cn) hmg hg hm he (pe_bltn hc mc hv (v := .ty cn) rfl hnm hdb) (fun _ r => r) hk hs1 hs2 hpl
end
end DL
set_option maxHeartbeats 1000000
/-! DL71: reading the call of a def with a lambda. -/
namespace DL
open PySem PySem.Spec PyProof.Rows L2
end DL
set_option maxHeartbeats 2000000
/-! DL72: repr of data with empty dicts in it; == with the empty tuple. -/
namespace DL
open PySem PySem.Spec PyProof.Rows L2
variable [TabT]
section
variable (K : PySem.W.Frag) (H : Hp)
mutual
/-- data at any depth, empty dicts among it -/
inductive Dx : V → PyData → Prop
  | non : Dx .non .none
  | bl (b : Bool) : Dx (.bl b) (.bool b)
  | int (i : Int) : Dx (.int i) (.int i)
  | str (x : Str) : Dx (.str x) (.str x)
  | lst {a : Addr} {xs : List V} {ps : List PyData} : SqL K H a xs → DxL xs ps → Dx (.ref a) (.list ps)
  | tup {a : Addr} {xs : List V} {ps : List PyData} : SqT K H a xs → DxL xs ps → Dx (.ref a) (.tuple ps)
  | dic {a : Addr} : Rd H a (.dK []) → Dx (.ref a) (.dict [])
inductive DxL : List V → List PyData → Prop
  | nil : DxL [] []
  | cons {v : V} {vs : List V} {p : PyData} {ps : List PyData} : Dx v p → DxL vs ps → DxL (v :: vs) (p :: ps)
end
end
section
variable {X : Cx} {pins : List (Addr × Obj)} {σ : L2.St} {H : Hp} {s : Shared}
theorem dic0_at {a : Addr} (I : Inv X pins σ H s) (h : Rd H a (.dK [])) : ∃ o es n, s.heap.get? a = some o ∧ o.cls = .type "dict" ∧ o.data = .dict es n ∧ es.toList = [] ∧ (a == sysModules) = false := by
  obtain ⟨_, hd, vs, rel, o, es, n, g, ex, dt, _, pr, _⟩ := dk_rd I.hok h
  cases rel
  exact ⟨o, es, n, g, ex.1, dt, List.eq_nil_of_length_eq_zero pr.length, hd⟩
/-- what is read, and how it is shown below others -/
structure Shw (P : Program) (w : World) (h : Heap) (u : Value) (p : PyData) : Prop where
  rd : ∃ as, Reads h u p as
  sh : ∃ bs, ReadAtMost h p.depth bs ∧ ReprK P w bs h p.depth u p.shown
structure ShwL (P : Program) (w : World) (h : Heap) (us : List Value) (ps : List PyData) : Prop where
  rd : ∃ as, ReadsAll h us ps as
  sh : ∃ bs, ReadAtMost h (PyData.depthAll ps) bs ∧ ReprAllK P w bs h (PyData.depthAll ps) us (PyData.shownAll ps)
section
variable {P : Program} {w : World} {h : Heap} {a : Addr} {o : Obj} {n : Nat} {its : Array Value} {ps : List PyData}
theorem shw_flat {u : Value} {p : PyData} {as : List Addr} (r : Reads h u p as) (k : ReprIs P w u p.shown) : Shw P w h u p := ⟨⟨_, r⟩, [], (fun _ z => nomatch z), ReprK.of_is k _ _ _⟩
theorem dep_lst : (PyData.list ps).depth = PyData.depthAll ps + 1 := by simp only [PyData.depth]
theorem dep_tup : (PyData.tuple ps).depth = PyData.depthAll ps + 1 := by simp only [PyData.depth]
theorem shw_lst (g : h.get? a = some o) (hc : o.cls = .type "list") (hd : o.data = .seq its n) (c : ShwL P w h its.toList ps) : Shw P w h (.ref a) (.list ps) := by
  obtain ⟨⟨as, ra⟩, bs, hb, hk⟩ := c
  have r := Reads.list g hc hd ra
  refine ⟨⟨_, r⟩, a :: bs, ReadAtMost.cons r (by rw [dep_lst]; exact Nat.le_succ _) hb, ?_⟩
  have fresh : a ∉ bs := not_mem_of_deeper r (by rw [dep_lst]; exact Nat.lt_succ_self _) hb
  rw [dep_lst, show (PyData.list ps).shown = listText (PyData.shownAll ps) by simp only [PyData.shown]]
  obtain ⟨l⟩ := its
  match l, ra, hk, hd with
  | [], ra, hk, hd =>
    cases ra
    exact ReprK.listEmpty g hc hd
  | u :: us, ra, hk, hd => exact ReprK.list g hc hd fresh (by rw [List.size_toArray]; exact hk.length_eq) fun i y z => hk.item i y (by rw [← z, List.getElem?_toArray])
theorem shw_tup (g : h.get? a = some o) (hc : o.cls = .type "tuple") (hd : o.data = .seq its n) (c : ShwL P w h its.toList ps) : Shw P w h (.ref a) (.tuple ps) := by
  obtain ⟨⟨as, ra⟩, bs, hb, hk⟩ := c
  have r := Reads.tuple g hc hd ra
  refine ⟨⟨_, r⟩, a :: bs, ReadAtMost.cons r (by rw [dep_tup]; exact Nat.le_succ _) hb, ?_⟩
  have fresh : a ∉ bs := not_mem_of_deeper r (by rw [dep_tup]; exact Nat.lt_succ_self _) hb
  rw [dep_tup, show (PyData.tuple ps).shown = tupleText (PyData.shownAll ps) by simp only [PyData.shown]]
  exact ReprK.tuple g hc hd fresh hk
theorem shown_dic0 : (PyData.dict []).shown = dictText [] := by simp only [PyData.shown, PyData.shownKv]
theorem ent0 {es : Array DictEntry} (e : es.toList = []) : ReprEntriesK P w [] h 0 es.toList [] := by
  rw [e]
  exact ReprEntriesK.of_two [] [] [] .nil .nil
theorem rd_dic0 {es : Array DictEntry} (g : h.get? a = some o) (hc : o.cls = .type "dict") (hd : o.data = .dict es n) (e : es.toList = []) : ∃ as, Reads h (.ref a) (.dict []) as :=
  ⟨_, Reads.dict (kvs := []) (as := []) (bs := []) g hc hd (by rw [e]; exact .nil) (by rw [e]; exact .nil)⟩
theorem shw_dic {es : Array DictEntry} (g : h.get? a = some o) (hc : o.cls = .type "dict") (hd : o.data = .dict es n) (e : es.toList = []) (low : (a == sysModules) = false) : Shw P w h (.ref a) (.dict []) := by
  obtain ⟨as, r⟩ := rd_dic0 g hc hd e
  have dz : (PyData.dict []).depth = 1 := by decide +kernel
  have hb : ReadAtMost h 0 [] := fun _ z => nomatch z
  refine ⟨⟨_, r⟩, [a], ReadAtMost.cons r (Nat.zero_le _) hb, ?_⟩
  rw [dz, shown_dic0]
  exact ReprK.dict g hc hd low (fun z => nomatch z) (ent0 e)
end
mutual
theorem Dx.shw (I : Inv X pins σ H s) : ∀ {v : V} {p : PyData} {u : Value}, Dx X.K H v p → RelV v u → p.showable = true → p.shown.length ≤ sizeLine → Shw X.prog X.w s.heap u p
  | _, _, _, .non, r, _, _ => by
    cases r
    exact shw_flat .none (by simp only [PyData.shown]; exact ReprIs.none)
  | _, _, _, .bl b, r, _, _ => by
    cases r
    exact shw_flat (.bool b) (by simp only [PyData.shown]; exact ReprIs.bool b)
  | _, _, _, .int i, r, hs, _ => by
    obtain ⟨t, rfl⟩ := r
    exact shw_flat (.int i t) (by simp only [PyData.shown]; exact ReprIs.int t (by simpa [PyData.showable] using hs))
  | _, _, _, .str x, r, _, hz => by
    obtain ⟨t, rfl⟩ := r
    exact shw_flat (.str x t) (by simp only [PyData.shown]; exact ReprIs.str x t (by simpa only [PyData.shown] using hz))
  | _, _, _, .lst (ps := ps) hs ha, r, sh, hz => by
    cases r
    obtain ⟨its, rv, ⟨o, n, ho, hc, _, hd⟩, _⟩ := I.list hs
    have hz2 : (listText (PyData.shownAll ps)).length ≤ sizeLine := by simpa only [PyData.shown] using hz
    exact shw_lst ho hc hd (DxL.shw I ha rv (by simpa [PyData.showable] using sh) fun t ht => Nat.le_trans (listText_mem_le ht) hz2)
  | _, _, _, .tup (ps := ps) hs ha, r, sh, hz => by
    cases r
    obtain ⟨its, rv, ⟨o, ho, hc, n, hd⟩, _⟩ := I.tuple hs
    have hz2 : (tupleText (PyData.shownAll ps)).length ≤ sizeLine := by simpa only [PyData.shown] using hz
    exact shw_tup ho hc hd (DxL.shw I ha rv (by simpa [PyData.showable] using sh) fun t ht => Nat.le_trans (tupleText_mem_le ht) hz2)
  | _, _, _, .dic hd, r, _, _ => by
    cases r
    obtain ⟨o, es, n, g, hc, dt, e, low⟩ := dic0_at I hd
    exact shw_dic g hc dt e low
theorem DxL.shw (I : Inv X pins σ H s) : ∀ {vs : List V} {ps : List PyData} {us : List Value}, DxL X.K H vs ps → Vals vs us → PyData.showableAll ps = true → (∀ t ∈ PyData.shownAll ps, t.length ≤ sizeLine) → ShwL X.prog X.w s.heap us ps
  | _, _, _, .nil, r, _, _ => by
    cases r
    exact ⟨⟨_, .nil⟩, [], (fun _ z => nomatch z), by simp only [PyData.shownAll]; exact .nil⟩
  | _, _, _, .cons (p := p) (ps := ps) a b, r, sh, hz => by
    cases r with
    | cons r1 r2 =>
      have sh2 : p.showable = true ∧ PyData.showableAll ps = true := by simpa [PyData.showableAll] using sh
      obtain ⟨⟨as, x1⟩, b1, y1, z1⟩ := Dx.shw I a r1 sh2.1 (hz _ (by simp only [PyData.shownAll]; exact List.mem_cons_self))
      obtain ⟨⟨bs, x2⟩, b2, y2, z2⟩ := DxL.shw I b r2 sh2.2 fun t ht => hz t (by simp only [PyData.shownAll]; exact List.mem_cons_of_mem _ ht)
      have d1 : p.depth ≤ PyData.depthAll (p :: ps) := by simp only [PyData.depthAll]; exact Nat.le_max_left _ _
      have d2 : PyData.depthAll ps ≤ PyData.depthAll (p :: ps) := by simp only [PyData.depthAll]; exact Nat.le_max_right _ _
      refine ⟨⟨_, .cons x1 x2⟩, b1 ++ b2, (y1.mono d1).append (y2.mono d2), ?_⟩
      rw [show PyData.shownAll (p :: ps) = p.shown :: PyData.shownAll ps by simp only [PyData.shownAll]]
      exact .cons ((z1.more fun b hb => List.mem_append_left _ hb).level_le d1) (z2.more_le (fun b hb => List.mem_append_right _ hb) d2)
end
end
end DL
set_option maxHeartbeats 2000000
/-! DL73: repr at the top, == with the empty tuple, bools in sums, str(int), upper. -/
namespace DL
open PySem PySem.Spec PyProof.Rows L2
variable [TabT]
section
variable {X : Cx} {pins : List (Addr × Obj)} {σ : L2.St} {H : Hp} {s : Shared}
theorem repr_top {a : Addr} {p : PyData} {Q E : Value → Shared → Prop} (I : Inv X pins σ H s) (d : Dx X.K H (.ref a) p) (sh : p.showable = true) (hz : p.shown.length ≤ sizeLine) (hg : X.A.guards = some []) (hu : X.A.units + 64 < cLine) (hd : p.depth ≤ 60)
    (hQ : ∀ h' t tk, (∀ b o, s.heap.get? b = some o → h'.get? b = some o) → Q (.str p.shown t) { s with heap := h', toks := tk }) : wpAny (model X.prog X.w) X.A (call (.builtin "repr") [.ref a]) Q E s := by
  have hg1 : X.A.in1.guards = some [] := hg
  cases d with
  | lst hs ha =>
    rename_i xs ps
    obtain ⟨its, rv, ⟨o, n, ho, hc, _, dt⟩, _⟩ := I.list hs
    have hz2 : (listText (PyData.shownAll ps)).length ≤ sizeLine := by simpa only [PyData.shown] using hz
    obtain ⟨⟨as, ra⟩, bs, hb, hk⟩ := DxL.shw I ha rv (by simpa [PyData.showable] using sh) fun t ht => Nat.le_trans (listText_mem_le ht) hz2
    have fresh : a ∉ bs := not_mem_of_deeper (Reads.list (vs := its.toArray) ho hc dt ra) (by rw [dep_lst]; exact Nat.lt_succ_self _) hb
    rw [dep_lst] at hd
    rw [show (PyData.list ps).shown = listText (PyData.shownAll ps) by simp only [PyData.shown]] at hQ
    refine call_repr_slot (by omega) ⟨o, ho, hc⟩ F.slot_list_repr.toG ?_
    match its, ra, hk, dt with
    | [], ra, hk, dt =>
      cases ra
      refine call_list_repr_empty ⟨o, ho, hc⟩ ho dt ⟨_, _, rfl, ?_⟩
      rw [show PyData.shownAll [] = [] by simp only [PyData.shownAll], listText_nil] at hQ
      exact hQ _ _ _ fun _ _ z => z
    | u :: us, ra, hk, dt =>
      exact call_list_reprK ho hc dt fresh (by rw [List.size_toArray]; exact hk.length_eq) (fun i y z => hk.item i y (by rw [← z, List.getElem?_toArray])) hg1 (fun b _ => Clear.nil b) (by show X.A.units + 1 + _ < cLine; omega) (fun _ _ z => z) (fun h' t tk k => ⟨_, _, rfl, hQ h' t tk k⟩) hz2
  | tup hs ha =>
    rename_i xs ps
    obtain ⟨its, rv, ⟨o, ho, hc, n, dt⟩, _⟩ := I.tuple hs
    have hz2 : (tupleText (PyData.shownAll ps)).length ≤ sizeLine := by simpa only [PyData.shown] using hz
    obtain ⟨⟨as, ra⟩, bs, hb, hk⟩ := DxL.shw I ha rv (by simpa [PyData.showable] using sh) fun t ht => Nat.le_trans (tupleText_mem_le ht) hz2
    have fresh : a ∉ bs := not_mem_of_deeper (Reads.tuple (vs := its.toArray) ho hc dt ra) (by rw [dep_tup]; exact Nat.lt_succ_self _) hb
    rw [dep_tup] at hd
    rw [show (PyData.tuple ps).shown = tupleText (PyData.shownAll ps) by simp only [PyData.shown]] at hQ
    refine call_repr_slot (by omega) ⟨o, ho, hc⟩ F.slot_tuple_repr ?_
    exact call_tuple_reprK ho hc dt fresh hk hg1 (fun b _ => Clear.nil b) (by show X.A.units + 1 + _ < cLine; omega) (fun _ _ z => z) (fun h' t tk k => ⟨_, _, rfl, hQ h' t tk k⟩) hz2
  | dic hr =>
    obtain ⟨o, es, n, g, hc, dt, e, low⟩ := dic0_at I hr
    rw [shown_dic0] at hQ
    refine call_repr_slot (by omega) ⟨o, g, hc⟩ F.slot_dict_repr ?_
    exact call_dict_reprK g hc dt low (List.not_mem_nil) (ent0 e) hg1 (fun b _ => Clear.nil b) (by show X.A.units + 1 + _ < cLine; omega) (fun _ _ z => z) (fun h' t tk k => ⟨_, _, rfl, hQ h' t tk k⟩) (by decide +kernel)
end
def rReprT (K : PySem.W.Frag) : List V → Hp → VK → Prop := fun xs H Q => ∃ a p, xs = [.ref a] ∧ Dx K H (.ref a) p ∧ p.showable = true ∧ p.depth ≤ 60 ∧ p.shown.length ≤ sizeLine ∧ Q (.str p.shown) H
theorem call_repr_dx {X : Cx} (hg : X.A.guards = some []) (hu : X.A.units + 64 < cLine) : CallR X (.builtin "repr") (rReprT X.K) := by
  intro pins s σ H xs us Q I r h
  obtain ⟨a, p, rfl, d, h1, h2, h3, q⟩ := h
  rw [Vals.ref1 r]
  exact repr_top I d h1 h3 hg hu h2 fun h' t tk k => ⟨.str p.shown, H, I.kept k, ⟨t, rfl⟩, q⟩
mutual
def D.toPyX : D → Option PyData
  | .non => some .none
  | .bl b => some (.bool b)
  | .int i => some (.int i)
  | .str x => some (.str x)
  | .tup xs => (toPyXL xs).map .tuple
  | .lst xs => (toPyXL xs).map .list
  | .dic [] [] => some (.dict [])
  | _ => none
def toPyXL : List D → Option (List PyData)
  | [] => some []
  | x :: xs => match D.toPyX x, toPyXL xs with
    | some p, some ps => some (p :: ps)
    | _, _ => none
end
section
variable {K : PySem.W.Frag} {F H : Hp}
mutual
theorem Rep.dx : ∀ {v : V} {d : D} {p : PyData}, Rep K H v d → d.toPyX = some p → Dx K H v p
  | _, _, _, .non, e => by simp only [D.toPyX] at e; cases e; exact .non
  | _, _, _, .bl b, e => by simp only [D.toPyX] at e; cases e; exact .bl b
  | _, _, _, .int i, e => by simp only [D.toPyX] at e; cases e; exact .int i
  | _, _, _, .str x, e => by simp only [D.toPyX] at e; cases e; exact .str x
  | _, _, _, .lst (ds := ds) h r, e => by
    simp only [D.toPyX] at e
    cases q : toPyXL ds with
    | none => rw [q] at e; cases e
    | some ps => rw [q] at e; cases e; exact .lst (.of h) (RepL.dx r q)
  | _, _, _, .tup (ds := ds) h r, e => by
    simp only [D.toPyX] at e
    cases q : toPyXL ds with
    | none => rw [q] at e; cases e
    | some ps => rw [q] at e; cases e; exact .tup h (RepL.dx r q)
  | _, _, _, .dic (ks := ks) (ds := ds) h l r, e => by
    match ks, ds, e with
    | [], [], e => simp only [D.toPyX] at e; cases e; exact .dic (.inr ⟨_, h⟩)
    | [], _ :: _, e => simp only [D.toPyX] at e; cases e
    | _ :: _, _, e => simp only [D.toPyX] at e; cases e
  | _, _, _, .scr _, e => by simp only [D.toPyX] at e; cases e
  | _, _, _, .ty _, e => by simp only [D.toPyX] at e; cases e
  | _, _, _, .obj .., e => by simp only [D.toPyX] at e; cases e
  | _, _, _, .ob0 .., e => by simp only [D.toPyX] at e; cases e
  | _, _, _, .ins .., e => by simp only [D.toPyX] at e; cases e
  | _, _, _, .pt _, e => by simp only [D.toPyX] at e; cases e
theorem RepL.dx : ∀ {vs : List V} {ds : List D} {ps : List PyData}, RepL K H vs ds → toPyXL ds = some ps → DxL K H vs ps
  | _, _, _, .nil, e => by simp only [toPyXL] at e; cases e; exact .nil
  | _, _, _, .cons (d := d) (ds := ds) a b, e => by
    simp only [toPyXL] at e
    cases q1 : d.toPyX with
    | none => rw [q1] at e; cases e
    | some p =>
      cases q2 : toPyXL ds with
      | none => rw [q1, q2] at e; cases e
      | some ps => rw [q1, q2] at e; cases e; exact .cons (Rep.dx a q1) (RepL.dx b q2)
end
theorem RepT.dx {v : V} {d : D} {p : PyData} (s : Same F H) (r : RepT K F H v d) (e : d.toPyX = some p) : Dx K H v p := by
  cases d with
  | lst ds => exact (r.rep (fun _ _ z => by cases z) s).dx e
  | dic ks ds =>
    obtain ⟨a, xs, rfl, h, l, r⟩ := r
    match ks, ds, e with
    | [], [], e => simp only [D.toPyX] at e; cases e; exact .dic h
    | [], _ :: _, e => simp only [D.toPyX] at e; cases e
    | _ :: _, _, e => simp only [D.toPyX] at e; cases e
  | _ => exact (r.rep (fun _ _ z => by cases z) s).dx e
end
/-- repr, empty dicts in the data or not -/
def reprT1 (a : D) : Option Val := match a.toPyX with
  | some p => if p.showable = true ∧ p.depth ≤ 60 ∧ p.shown.length ≤ sizeLine then some (.d (.str p.shown)) else none
  | none => none
def reprY : List D → Option Val
  | [.tup xs] => reprT1 (.tup xs)
  | [.lst xs] => reprT1 (.lst xs)
  | [.dic ks xs] => reprT1 (.dic ks xs)
  | xs => reprX xs
def rReprY (K : PySem.W.Frag) : List V → Hp → VK → Prop := fun xs H Q => rReprT K xs H Q ∨ rReprX K xs H Q
theorem CR_reprY {X : Cx} (hG : X.A.guards = some []) (hu : X.A.units + 64 < cLine) : CallR X (.builtin "repr") (rReprY X.K) := callr_or (call_repr_dx hG hu) (CR_reprX hG hu)
theorem reprT1_ok {K : PySem.W.Frag} {F H : Hp} {v : V} {a : D} {z : Val} {Q : VK} (s : Same F H) (r : RepT K F H v a) (hv : ∃ p, v = .ref p) (e : reprT1 a = some z) (q : ∀ u F' H', Gr F H F' H' → VN K H F' H' u z → Q u H') : rReprT K [v] H Q := by
  unfold reprT1 at e
  split at e
  · rename_i p hp
    split at e
    · rename_i c
      cases e
      obtain ⟨b, rfl⟩ := hv
      exact ⟨b, p, rfl, r.dx s hp, c.1, c.2.1, c.2.2, vn_str s q⟩
    · cases e
  · cases e
theorem cs_reprY {K : PySem.W.Frag} : CallS K (rReprY K) reprY := by
  intro F H vs as z Q s ra e q
  unfold reprY at e
  split at e
  · obtain ⟨v, rfl, r⟩ := rep1 ra
    obtain ⟨p, xs, rfl, _⟩ := r.tup s
    exact .inl (reprT1_ok s r ⟨p, rfl⟩ e q)
  · obtain ⟨v, rfl, r⟩ := rep1 ra
    obtain ⟨p, xs, rfl, _⟩ := r.lst
    exact .inl (reprT1_ok s r ⟨p, rfl⟩ e q)
  · obtain ⟨v, rfl, r⟩ := rep1 ra
    obtain ⟨p, xs, rfl, _⟩ := id r
    exact .inl (reprT1_ok s r ⟨p, rfl⟩ e q)
  · exact .inr (cs_reprX F H vs _ z Q s ra e q)
/-! ### == and != with the empty tuple -/
/-! ### sums with a bool on the left, the sign of a bool -/
def rBI (g : Bool → Int → Int) : R2 := fun x y H Q => ∃ k i, x = .bl k ∧ y = .int i ∧ Q (.int (g k i)) H
def biV (g : Bool → Int → Int) : D → D → Option Val
  | .bl k, .int i => some (.d (.int (g k i)))
  | _, _ => none
theorem os_bi {K : PySem.W.Frag} {g : Bool → Int → Int} : OpS K (rBI g) (biV g) := by
  intro F H v w a b z Q s ra rb e q
  unfold biV at e
  split at e
  · cases e
    obtain rfl := ra.bl
    obtain rfl := rb.int
    exact ⟨_, _, rfl, rfl, vn_int s q⟩
  · cases e
def bAdd (k : Bool) (i : Int) : Int := (if k = true then (1 : Int) else 0) + i
def bSub (k : Bool) (i : Int) : Int := (if k = true then (1 : Int) else 0) - i
theorem op_addBI {X : Cx} : OpR X (binaryOp .Add) (rBI bAdd) := by
  intro pins s σ H x y v u Q I rx ry h
  obtain ⟨k, i, rfl, rfl, q⟩ := h
  cases rx
  obtain ⟨t, rfl⟩ := ry
  exact PySem.IntBool.add_bool_int ⟨.int _, H, I.tok _, ⟨_, rfl⟩, q⟩
theorem op_subBI {X : Cx} : OpR X (binaryOp .Sub) (rBI bSub) := by
  intro pins s σ H x y v u Q I rx ry h
  obtain ⟨k, i, rfl, rfl, q⟩ := h
  cases rx
  obtain ⟨t, rfl⟩ := ry
  exact PySem.IntBool.sub_bool_int ⟨.int _, H, I.tok _, ⟨_, rfl⟩, q⟩
def addB : D → D → Option Val := fun a b => match biV bAdd a b with | some z => some z | none => addD a b
def subB : D → D → Option Val := fun a b => match biV bSub a b with | some z => some z | none => subD a b
section
variable {X : Cx} {E : WX} {a b e : Expr} {f g : EM} {pos : Pos}
theorem de_addB (ha : DE X E a f) (hb : DE X E b g) : DE X E (.BinOp a .Add b pos) (eOp addB f g) :=
  de_op (opr_u op_addBI (opr_u op_add (opr_u op_add_str (opr_u op_cat op_catA)))) (os_or os_bi (os_or os_int0 (os_or os_addS (os_or os_addL os_addT)))) ha hb
theorem de_subB (ha : DE X E a f) (hb : DE X E b g) : DE X E (.BinOp a .Sub b pos) (eOp subB f g) := de_op (opr_u op_subBI op_sub) (os_or os_bi os_int0) ha hb
end
theorem gives_neg_bool (b : Bool) : Gives (Builtin.«int.__neg__» ⟨[.bool b], []⟩) (.int (-(if b then 1 else 0))) := .of_eq (by cases b <;> rfl)
def rNegA : V → Hp → VK → Prop := fun x H Q => (∃ i, x = .int i ∧ Q (.int (-i)) H) ∨ ∃ k, x = .bl k ∧ Q (.int (-(if k then 1 else 0))) H
theorem un_negA {X : Cx} : UnR X (unaryOp .USub) rNegA := by
  intro pins s σ H x v Q I rx h
  rcases h with ⟨i, rfl, q⟩ | ⟨k, rfl, q⟩
  · exact un_neg pins s σ H _ v Q I rx ⟨i, rfl, q⟩
  · cases rx
    exact unaryOp_gives (PySem.typeIs_bool s k) rfl F.slot_bool_neg F.entry_int_neg (F.args_int_neg_1 _) (gives_neg_bool k) ⟨.int _, H, I.tok _, ⟨_, rfl⟩, q⟩
def negB : D → Option Val
  | .int i => some (.d (.int (-i)))
  | .bl k => some (.d (.int (-(if k then 1 else 0))))
  | _ => none
theorem de_negB {X : Cx} {E : WX} {a : Expr} {f : EM} {pos : Pos} (ha : DE X E a f) : DE X E (.UnaryOp .USub a pos) (eUn negB f) := de_un un_negA (by
  intro F H v a z Q s ra e q
  unfold negB at e
  split at e
  · obtain rfl := ra.int
    cases e
    exact .inl ⟨_, rfl, vn_int s q⟩
  · obtain rfl := ra.bl
    cases e
    exact .inr ⟨_, rfl, vn_int s q⟩
  · cases e) ha
/-! ### str of ints and bools, upper -/
def strX : List D → Option Val
  | [.int i] => if i.natAbs.log2 < 1920 then some (.d (.str (toString i))) else none
  | [.bl b] => some (.d (.str (if b then "True" else "False")))
  | _ => none
def rStrX : List V → Hp → VK → Prop := fun xs H Q => (∃ i, xs = [.int i] ∧ i.natAbs.log2 < 1920 ∧ Q (.str (toString i)) H) ∨ ∃ b, xs = [.bl b] ∧ Q (.str (if b then "True" else "False")) H
theorem call_strX {X : Cx} : CallR X (.type "str") rStrX := by
  intro pins s σ H xs us Q I r h
  rcases h with h | ⟨b, rfl, q⟩
  · exact call_str_int pins s σ H xs us Q I r h
  · obtain ⟨u, rfl, ru⟩ := vals1 r
    cases (show u = Value.bool b from ru)
    exact PySem.P.str_of_bool ⟨.str _, H, I.tok _, ⟨_, rfl⟩, q⟩
theorem cs_strX {K : PySem.W.Frag} : CallS K rStrX strX := by
  intro F H vs as z Q s ra e q
  unfold strX at e
  split at e
  · obtain ⟨v, rfl, r⟩ := rep1 ra
    obtain rfl := r.int
    split at e
    · rename_i h
      cases e
      exact .inl ⟨_, rfl, h, vn_str s q⟩
    · cases e
  · cases e
    obtain ⟨v, rfl, r⟩ := rep1 ra
    obtain rfl := r.bl
    exact .inr ⟨_, rfl, vn_str s q⟩
  · cases e
def upD : D → Option Val
  | .str x => if x.length ≤ 5592405 then some (.d (.str (Txt.upper x))) else none
  | _ => none
theorem us_up {K : PySem.W.Frag} : UnS K (fun x H Q => (∃ a, x = .str a) ∧ ∃ a, x = .str a ∧ ([] : List V) = [] ∧ a.length ≤ 5592405 ∧ Q (.str (Txt.upper a)) H) upD := by
  intro F H v a z Q s ra e q
  unfold upD at e
  split at e
  · obtain rfl := ra.str
    split at e
    · rename_i h
      cases e
      exact ⟨⟨_, rfl⟩, _, rfl, rfl, h, vn_str s q⟩
    · cases e
  · cases e
theorem de_upper {X : Cx} {W : WX} {a : Expr} {f : EM} {apos pos : Pos} (ha : DE X W a f) (hbase : attributeBase a "upper" X.env (eval a X.env) = eval a X.env := by rfl) (hline : (apos.endLine == pos.line) = true := by rfl) : DE X W (.Call (.Attribute a "upper" apos) [] [] pos) (eUn upD f) :=
  pe_conseq (pe_upper ha hbase hline) fun _ _ _ => one1 us_up
end DL
set_option maxHeartbeats 2000000
/-! DL74: defs that call themselves, some levels deep. -/
namespace DL
open PySem PySem.Spec PyProof.Rows L2
end DL
set_option maxHeartbeats 2000000
/-! DL75: values of any kind: short ASCII texts, ints not too great, empty dicts. -/
namespace DL
open PySem PySem.Spec PyProof.Rows L2
def ascB (m : Nat) (x : Str) : Bool := x.cps.toList.all (fun c => decide (c < 128)) && decide (x.length ≤ 33 + m)
mutual
def D.oddB (m : Nat) : D → Bool
  | .non => true
  | .bl _ => true
  | .int i => decide (i.natAbs ≤ 1000000000000000000000000000000 + m)
  | .str x => ascB m x
  | .tup xs => oddL m xs
  | .lst xs => oddL m xs
  | .dic [] [] => true
  | _ => false
def oddL (m : Nat) : List D → Bool
  | [] => true
  | x :: xs => x.oddB m && oddL m xs
end
theorem oddL_iff {m : Nat} {ds : List D} : oddL m ds = true ↔ ∀ x ∈ ds, x.oddB m = true := by
  induction ds with
  | nil => simp [oddL]
  | cons x xs ih => simp [oddL, ih]
theorem asc_ok {m : Nat} {x : Str} (h : ascB m x = true) : PyData.strOk x = true ∧ x.length ≤ 33 + m := by
  unfold ascB at h
  rw [Bool.and_eq_true, decide_eq_true_eq] at h
  refine ⟨?_, h.2⟩
  unfold PyData.strOk
  rw [Array.all_eq_true']
  intro c hc
  have h1 := List.all_eq_true.mp h.1 c (by simpa using hc)
  have h2 : c < 128 := of_decide_eq_true h1
  simp
  omega
theorem pos_cnt (d : D) : 1 ≤ d.cnt := by cases d <;> simp [D.cnt]
mutual
theorem odd_py {m : Nat} (hm : m ≤ 17) : ∀ (d : D), d.oddB m = true → ∃ p, d.toPyX = some p ∧ p.showable = true ∧ p.depth ≤ d.dep + 1 ∧ p.shown.length + 2 ≤ 2000 * d.cnt
  | .non, _ => ⟨.none, rfl, by simp only [PyData.showable], by decide, by simp only [PyData.shown]; decide⟩
  | .bl b, _ => ⟨.bool b, rfl, by simp only [PyData.showable], by simp [PyData.depth], by simp only [PyData.shown]; cases b <;> decide⟩
  | .int i, h => by
    have h2 : i.natAbs ≤ 1000000000000000000000000000000 + m := by simpa [D.oddB] using h
    have h3 : (1000000000000000000000000000000 + 17 : Nat) < 2 ^ 200 := by decide
    have := int_short (i := i) (by omega)
    exact ⟨.int i, rfl, this.1, by simp [PyData.depth], by have := this.2; simp only [D.cnt]; omega⟩
  | .str x, h => by
    obtain ⟨h1, h2⟩ := asc_ok (m := m) (x := x) (by simpa [D.oddB] using h)
    refine ⟨.str x, rfl, by simp only [PyData.showable], by simp [PyData.depth], ?_⟩
    simp only [PyData.shown, D.cnt]
    have h3 := StrLaws.reprText_len x (strOk_lt h1)
    omega
  | .tup xs, h => by
    obtain ⟨ps, h1, h2, h3, h5, h6⟩ := oddL_py hm xs (by simpa [D.oddB] using h)
    refine ⟨.tuple ps, by simp [D.toPyX, h1], by simpa [PyData.showable] using h2, by simp only [PyData.depth, D.dep]; omega, ?_⟩
    have := tupleText_len_le (PyData.shownAll ps)
    simp only [PyData.shown, D.cnt]
    rw [h5] at this
    omega
  | .lst xs, h => by
    obtain ⟨ps, h1, h2, h3, h5, h6⟩ := oddL_py hm xs (by simpa [D.oddB] using h)
    refine ⟨.list ps, by simp [D.toPyX, h1], by simpa [PyData.showable] using h2, by simp only [PyData.depth, D.dep]; omega, ?_⟩
    have := listText_len_le (PyData.shownAll ps)
    simp only [PyData.shown, D.cnt]
    rw [h5] at this
    omega
  | .dic [] [], _ => ⟨.dict [], rfl, by simp [PyData.showable, PyData.showableKv], by decide +kernel, by rw [shown_dic0]; decide +kernel⟩
  | .dic [] (_ :: _), h => by simp [D.oddB] at h
  | .dic (_ :: _) _, h => by simp [D.oddB] at h
  | .set _, h => by simp [D.oddB] at h
  | .scr _, h => by simp [D.oddB] at h
  | .ty _, h => by simp [D.oddB] at h
  | .obj _ _ _, h => by simp [D.oddB] at h
  | .ins _ _ _, h => by simp [D.oddB] at h
theorem oddL_py {m : Nat} (hm : m ≤ 17) : ∀ (ds : List D), oddL m ds = true → ∃ ps, toPyXL ds = some ps ∧ PyData.showableAll ps = true ∧ PyData.depthAll ps ≤ depL ds + 1 ∧ (PyData.shownAll ps).length = ds.length ∧ ((PyData.shownAll ps).map (·.length)).sum + 2 * ds.length ≤ 2000 * cntL ds
  | [], _ => ⟨[], rfl, by simp only [PyData.showableAll], by simp [PyData.depthAll], by simp [PyData.shownAll], by simp [PyData.shownAll, cntL]⟩
  | d :: ds, h => by
    have h : d.oddB m = true ∧ oddL m ds = true := by simpa [oddL] using h
    obtain ⟨p, a1, a2, a3, a5⟩ := odd_py hm d h.1
    obtain ⟨ps, b1, b2, b3, b5, b6⟩ := oddL_py hm ds h.2
    refine ⟨p :: ps, by simp [toPyXL, a1, b1], by simp [PyData.showableAll, a2, b2], ?_, by simp [PyData.shownAll, b5], ?_⟩
    · simp only [PyData.depthAll, depL]
      omega
    · simp only [PyData.shownAll, List.map_cons, List.sum_cons, List.length_cons, cntL]
      omega
end
def shownY (d : D) : Str := match d.toPyX with
  | some p => p.shown
  | none => ""
theorem oddR {m : Nat} {d : D} (h : d.oddB m = true) (hm : m ≤ 17) (hk : d.dep ≤ 58) (hn : d.cnt ≤ 8000) : reprY [d] = some (.d (.str (shownY d))) := by
  have gen : reprT1 d = some (.d (.str (shownY d))) := by
    obtain ⟨p, h1, h2, h3, h4⟩ := odd_py hm d h
    unfold reprT1 shownY
    rw [h1]
    dsimp only
    rw [if_pos ⟨h2, by omega, by unfold sizeLine; omega⟩]
  cases d with
  | tup xs => exact gen
  | lst xs => exact gen
  | dic ks xs => exact gen
  | bl b => cases b <;> rfl
  | non => rfl
  | str x =>
    obtain ⟨a1, a2⟩ := asc_ok (m := m) (x := x) (by simpa [D.oddB] using h)
    have h1 := StrLaws.reprText_len x (strOk_lt a1)
    show (if (reprText x).length ≤ sizeLine then some (Val.d (.str (reprText x))) else none) = _
    rw [if_pos (by rw [sizeLine_eq]; omega)]
    rfl
  | int i =>
    have h0 : i.natAbs ≤ 1000000000000000000000000000000 + m := by simpa [D.oddB] using h
    have h3 : (1000000000000000000000000000000 + 17 : Nat) < 2 ^ 200 := by decide
    have h2 : i.natAbs.log2 < 1920 := by
      by_cases h0 : i.natAbs = 0
      · rw [h0]; decide
      · have := (Nat.log2_lt h0).mpr (show i.natAbs < 2 ^ 200 by omega); omega
    show (if i.natAbs.log2 < 1920 then some (Val.d (.str (toString i))) else none) = _
    rw [if_pos h2]
    rfl
  | set _ => simp [D.oddB] at h
  | scr _ => simp [D.oddB] at h
  | ty _ => simp [D.oddB] at h
  | obj _ _ _ => simp [D.oddB] at h
  | ins _ _ _ => simp [D.oddB] at h
section
variable {ρ : DEnv} {xs : List Val} {a : D} {x y : Val} {Q : Val → DEnv → Prop} {X : Ex → DEnv → Prop}
theorem x_reprY {m : Nat} (h1 : peekL ρ xs = some [a]) (h : a.oddB m = true) (hm : m ≤ 17) (hk : a.dep ≤ 58) (hn : a.cnt ≤ 8000) (q : Q (.d (.str (shownY a))) ρ) : (callV reprY xs ρ).wp Q X := b_callV h1 (oddR h hm hk hn) q
end
end DL
set_option maxHeartbeats 2000000
/-! DL76: a tuple times an int. -/
namespace DL
open PySem PySem.Spec PyProof.Rows L2
end DL
set_option maxHeartbeats 2000000
/-! DL77: tuple(range(a, b, c)). -/
namespace DL
open PySem PySem.Spec PyProof.Rows L2
end DL
set_option maxHeartbeats 2000000
/-! DL78: x = y, where y's own object goes over to x (y is not looked at again ahead of its next store). -/
namespace DL
open PySem PySem.Spec PyProof.Rows L2
end DL
set_option maxHeartbeats 2000000
/-! DL79: instances of the program's classes as data: o.f, o.m(..). -/
namespace DL
open PySem PySem.Spec PyProof.Rows L2
variable [TabT]
def eFld (c nm : Str) (f : EM) : EM := fun ρ => (f ρ).bind fun x ρ1 => match x with
  | .d (.ins k ns ds) => if k = c then (match (ns.zip ds).lookup nm with | some d => .ok (.d d) ρ1 | none => .bad) else .bad
  | _ => .bad
def eMthI (c m : Str) (Fm : FM) (f : EM) (gl : M (List Val)) : EM := fun ρ => (f ρ).bind fun x ρ1 => match x with
  | .d (.ins k ns ds) => if k = c ∧ ns.contains m = false then (gl ρ1).bind fun xs ρ2 => callF Fm (.d (.ins k ns ds) :: xs) ρ2 else .bad
  | _ => .bad
end DL
set_option maxHeartbeats 2000000
/-! DL80: c(..), an instance of a class whose __init__ sets two fields, its arguments data. -/
namespace DL
open PySem PySem.Spec PyProof.Rows L2
variable [TabT]
section
variable {K : PySem.W.Frag} {mg : Str → Option Value} {F H : Hp} {σ : L2.St} {ρ : DEnv}
theorem sr_upd {a : Addr} {o o' : HO} (sr : SR K F H σ ρ) (fa : F a = none) (no : ¬ Ow σ ρ a) (ha : H a = some o) (nk : ¬ KT a o) : SR K F (upd H a o') σ ρ := by
  refine ⟨sr.len, fun b u e => ?_, fun i s e => ?_, sr.dist, sr.tab.own ha nk⟩
  · by_cases h : b = a
    · subst h; rw [fa] at e; cases e
    · rw [upd_ne h]; exact sr.sub b u e
  · obtain ⟨ov, h1, h2⟩ := sr.slot i s e
    refine ⟨ov, h1, ?_⟩
    cases s with
    | un => trivial
    | d x => exact h2
    | ow c m =>
      obtain ⟨b, e1, e2, e3⟩ := h2
      have hb : b ≠ a := fun z => by
        subst z
        exact no ⟨i, c, m, e, by rw [h1, e1]⟩
      exact ⟨b, e1, e2, e3.mono (.of (Same.refl _)) (upd_ne hb)⟩
end
end DL
set_option maxHeartbeats 2000000
/-! DL81: what is known of a class of the program, bundled; the rules with it. -/
namespace DL
open PySem PySem.Spec PyProof.Rows L2
end DL
set_option maxHeartbeats 2000000
/-! DL82: reading terms with fields, methods and instances (wp). -/
namespace DL
open PySem PySem.Spec PyProof.Rows L2
def fldV (c nm : Str) (x : Val) : EM := fun ρ => match x with
  | .d (.ins k ns ds) => if k = c then (match (ns.zip ds).lookup nm with | some d => .ok (.d d) ρ | none => .bad) else .bad
  | _ => .bad
def mthV (c m : Str) (Fm : FM) (gl : M (List Val)) (x : Val) : EM := fun ρ => match x with
  | .d (.ins k ns ds) => if k = c ∧ ns.contains m = false then (gl ρ).bind fun xs ρ2 => callF Fm (.d (.ins k ns ds) :: xs) ρ2 else .bad
  | _ => .bad
section
variable {ρ : DEnv} {c nm m : Str} {f : EM} {gl : M (List Val)} {Fm : FM} {ns : List Str} {ds : List D} {d : D} {Q : Val → DEnv → Prop} {X : Ex → DEnv → Prop}
theorem b_fld (q : (f ρ).wp (fun x ρ1 => (fldV c nm x ρ1).wp Q X) X) : (eFld c nm f ρ).wp Q X := b_bind q
theorem b_mth (q : (f ρ).wp (fun x ρ1 => (mthV c m Fm gl x ρ1).wp Q X) X) : (eMthI c m Fm f gl ρ).wp Q X := b_bind q
instance st_b_fld : St ((eFld c nm f ρ).wp Q X) ((f ρ).wp (fun x ρ1 => (fldV c nm x ρ1).wp Q X) X) := ⟨b_fld⟩
instance st_b_mth : St ((eMthI c m Fm f gl ρ).wp Q X) ((f ρ).wp (fun x ρ1 => (mthV c m Fm gl x ρ1).wp Q X) X) := ⟨b_mth⟩
end
end DL
set_option maxHeartbeats 2000000
/-! DL83: d == {} for a dict d. -/
namespace DL
open PySem PySem.Spec PyProof.Rows L2
/-! len(d) -/
end DL
namespace CM
open PySem PySem.Spec PyProof.Rows L2 DL
/-! l_pot: slots 0 script, 1 k, 2 cell, 3 own -/
def e_l_pot : SM := (sSeq (sAsg 2 (eOp addD (eOp mulD (eC (.int 19)) (eVar 1)) (eC (.int 6))))
    (sSeq (sIf (tst (eOp ltD (eVar 1) (eCallB lenD (aCons (eVar 0) aNil))))
    (sAsg 2 (eOp idxD (eVar 0) (eVar 1)))
    sSkip)
    (sSeq (sAsg 3 (eOp mulD (eOp modD (eCallB absD (aCons (eVar 2) aNil)) (eOp powD (eOp powD (eC (.int 10)) (eC (.int 60))) (eC (.int 5)))) (eCallB intD (aCons (eOp geD (eCallB absD (aCons (eVar 2) aNil)) (eOp powD (eC (.int 10)) (eC (.int 18)))) aNil))))
    (sRet (eLst (aCons (fz (eVar 3)) (aCons (fz (eOp modD (eOp addD (eOp addD (eOp mulD (eOp modD (eVar 2) (eC (.int 2305843009213693951))) (eC (.int 69767))) (eOp mulD (eOp mulD (eC (.int 8123)) (eVar 1)) (eVar 1))) (eC (.int 31))) (eC (.int 2305843009213693921)))) (aCons (eC (.int 0)) aNil))))))))
def s_l_pot : FM := fnD 2 2 e_l_pot
/-! l_draw: slots 0 pot_here, 1 many, 2 prime, 3 mixed_here, 4 digit -/
def e_l_draw : SM := (sSeq (sIf (tst (eOp gtD (eOp idxD (eVar 0) (eC (.int 0))) (eC (.int 0))))
    (sSeq (sAsg 4 (eOp modD (eOp idxD (eVar 0) (eC (.int 0))) (eVar 1)))
    (sSeq (sStore 0 (eC (.int 0)) (fz (eOp divD (eOp idxD (eVar 0) (eC (.int 0))) (eVar 1))))
    (sRet (eVar 4))))
    sSkip)
    (sSeq (sStore 0 (eC (.int 2)) (fz (eOp addD (eOp idxD (eVar 0) (eC (.int 2))) (eC (.int 1)))))
    (sSeq (sAsg 2 (eOp idxD (eLst (aCons (eC (.int 2147483647)) (aCons (eC (.int 2147483629)) (aCons (eC (.int 2147483587)) (aCons (eC (.int 2147483579)) (aCons (eC (.int 2147483563)) aNil)))))) (eOp modD (eOp idxD (eVar 0) (eC (.int 2))) (eC (.int 5)))))
    (sSeq (sAsg 3 (eOp modD (eOp powD (eOp addD (eOp addD (eOp idxD (eVar 0) (eC (.int 1))) (eOp mulD (eOp mulD (eC (.int 98321)) (eOp idxD (eVar 0) (eC (.int 2)))) (eOp idxD (eVar 0) (eC (.int 2))))) (eC (.int 47))) (eC (.int 3))) (eVar 2)))
    (sRet (eOp modD (eOp divD (eOp modD (eOp mulD (eVar 3) (eOp addD (eOp modD (eVar 3) (eC (.int 10007))) (eOp mulD (eC (.int 89)) (eOp idxD (eVar 0) (eC (.int 2)))))) (eC (.int 2305843009213693907))) (eC (.int 83))) (eVar 1)))))))
def s_l_draw : FM := fnD 2 3 e_l_draw
/-! l_any: slots 0 pot_here, 1 items -/
def e_l_any : SM := (sRet (eOp idxD (eVar 1) (eCall s_l_draw (aCons (eVar 0) (aCons (eCallB lenD (aCons (eVar 1) aNil)) aNil)))))
def s_l_any : FM := fnD 2 0 e_l_any
/-! l_mixed: slots 0 pot_here, 1 items, 2 left, 3 found -/
/-! l_wild: slots 0 pot_here, 1 most, 2 room, 3 turn, 4 found, 5 written, 6 begin, 7 kind, 8 worth, 9 some -/
/-! l_true: slots 0 pot_here, 1 many, 2 off, 3 step, 4 names, 5 turn, 6 found, 7 worth, 8 time, 9 kind, 10 ends, 11 begin, 12 end -/
/-! l_worths: slots 0 book, 1 one -/
end CM
namespace CM
open PySem PySem.Spec PyProof.Rows L2 DL
/-! values_of: slots 0 log, 1 kind, 2 value, 3 begin, 4 end -/
/-! ends_of: slots 0 log, 1 found, 2 kind, 3 value, 4 begin, 5 end, 6 first, 7 last -/
/-! check_value: slots 0 log, 1 value -/
/-! operations_of: slots 0 log, 1 value, 2 index, 3 one -/
/-! write_of: slots 0 log, 1 value, 2 found, 3 index -/
/-! first_end: slots 0 log, 1 value -/
/-! last_begin: slots 0 log, 1 value -/
/-! is_earlier: slots 0 ends, 1 tolerance, 2 one, 3 other -/
/-! is_before: slots 0 log, 1 tolerance, 2 one, 3 other -/
end CM
namespace CM
open PySem PySem.Spec PyProof.Rows L2 DL
/-! is_integer: slots 0 value, 1 least, 2 greatest -/
/-! check_index: slots 0 log, 1 value -/
/-! is_sure: slots 0 one, 1 other, 2 tolerance -/
/-! surely_before: slots 0 log, 1 tolerance, 2 one, 3 other -/
/-! are_stamps: slots 0 begin, 1 end -/
/-! is_operation: slots 0 value, 1 kind, 2 written, 3 begin, 4 end -/
/-! is_log: slots 0 value, 1 written, 2 one -/
/-! is_tolerance: slots 0 value -/
end CM
namespace CM
open PySem PySem.Spec PyProof.Rows L2 DL
/-! writes_of: slots 0 log, 1 index, 2 one -/
/-! single_faults: slots 0 log, 1 tolerance, 2 writes, 3 unwritten, 4 early, 5 index, 6 one -/
/-! marks_of: slots 0 log, 1 found, 2 index, 3 one, 4 first, 5 last -/
def l1_marks_of : SM := sFor (iEnu (eVar 0)) (tupG 2 (gsCons (asgV 2) (gsCons (asgV 3) gsNil)))
    (sSeq (sTgt (eGet2 (eVar 1) (eOp idxD (eVar 3) (eC (.int 1))) (eTup (aCons (fz (eVar 2)) (aCons (fz (eVar 2)) aNil)))) (tupG 2 (gsCons (asgV 4) (gsCons (asgV 5) gsNil))))
    (sStore 1 (eOp idxD (eVar 3) (eC (.int 1))) (fz (eTup (aCons (fz (eIf (tst (eOp ltD (eOp idxD (eVar 3) (eC (.int 3))) (eOp idxD (eOp idxD (eVar 0) (eVar 4)) (eC (.int 3))))) (eVar 2) (eVar 4))) (aCons (fz (eIf (tst (eOp gtD (eOp idxD (eVar 3) (eC (.int 2))) (eOp idxD (eOp idxD (eVar 0) (eVar 5)) (eC (.int 2))))) (eVar 2) (eVar 5))) aNil))))))
def e_marks_of : SM := (sSeq (sAsg 1 eNewD)
    (sSeq l1_marks_of
    (sRet (eVar 1))))
def s_marks_of : FM := fnD 1 5 e_marks_of
/-! pair_fault: slots 0 marks, 1 one, 2 other, 3 first, 4 last -/
/-! faults: slots 0 log, 1 tolerance, 2 some, 3 ends, 4 writes, 5 marks, 6 at, 7 one, 8 other, 9 value -/
/-! has_form: slots 0 log, 1 value, 2 index -/
/-! is_crossed: slots 0 some, 1 tolerance, 2 first, 3 second, 4 third, 5 fourth -/
/-! shows_fault: slots 0 log, 1 tolerance, 2 value, 3 word, 4 some, 5 index -/
/-! bound_of: slots 0 log, 1 fault, 2 some, 3 gaps, 4 index, 5 ahead, 6 later -/
end CM
namespace CM
open PySem PySem.Spec PyProof.Rows L2 DL
/-! without: slots 0 log, 1 values, 2 one -/
/-! checked: slots 0 log -/
/-! moved: slots 0 log, 1 amount, 2 kind, 3 value, 4 begin, 5 end -/
/-! widened: slots 0 log, 1 amount, 2 kind, 3 value, 4 begin, 5 end -/
end CM
namespace CM
open PySem PySem.Spec PyProof.Rows L2 DL
/-! l_is_fault: slots 0 book, 1 slack, 2 thing, 3 many, 4 some, 5 pairs, 6 is_written, 7 at, 8 one, 9 other -/
end CM
namespace CM
open PySem PySem.Spec PyProof.Rows L2 DL
/-! first_fault: slots 0 log, 1 tolerance, 2 fault -/
/-! can_explain: slots 0 log, 1 tolerance -/
/-! has_unwritten: slots 0 log, 1 fault -/
/-! least_tolerance: slots 0 log, 1 fault -/
/-! l_ends: slots 0 log_here, 1 found, 2 value, 3 own, 4 first, 5 one -/
/-! l_lost: slots 0 log_here, 1 written, 2 one, 3 value -/
/-! l_gaps: slots 0 log_here, 1 writes, 2 one, 3 some, 4 ends_here, 5 found, 6 at, 7 other, 8 value -/
/-! l_least: slots 0 log_here -/
/-! l_marks: slots 0 book, 1 found, 2 at, 3 one, 4 first, 5 last -/
/-! l_due_faults: slots 0 book, 1 slack, 2 some, 3 lost_here, 4 writes, 5 ends_here, 6 soon, 7 pairs, 8 marks_here, 9 at, 10 one, 11 other, 12 worth, 13 back -/
end CM
namespace CM
open PySem PySem.Spec PyProof.Rows L2 DL
/-! has_each_once: slots 0 log, 1 indexes, 2 index -/
/-! reads_right: slots 0 log, 1 indexes, 2 present, 3 index, 4 kind, 5 value, 6 begin, 7 end -/
/-! explains: slots 0 log, 1 tolerance, 2 value, 3 greatest, 4 index, 5 kind, 6 number, 7 begin, 8 end -/
/-! l_is_sure: slots 0 log, 1 tolerance, 2 one, 3 other -/
/-! l_fits: slots 0 log, 1 tolerance, 2 order, 3 value, 4 at, 5 index, 6 later -/
/-! l_all_orders: slots 0 many, 1 found, 2 turn, 3 longer, 4 some, 5 one -/
/-! moments: slots 0 log, 1 tolerance, 2 order, 3 index, 4 found, 5 present, 6 earliest -/
/-! l_are_moments: slots 0 log, 1 tolerance, 2 thing, 3 pair, 4 indexes, 5 times, 6 value, 7 index, 8 kind, 9 worth, 10 begin, 11 end -/
end CM
namespace CM
open PySem PySem.Spec PyProof.Rows L2 DL
/-! check_explained: slots 0 log, 1 tolerance, 2 fault -/
/-! ends_with: slots 0 ends, 1 read, 2 kind, 3 value, 4 begin, 5 end, 6 first, 7 last -/
/-! fits: slots 0 log, 1 tolerance, 2 ends, 3 read, 4 value, 5 writes, 6 first, 7 last, 8 other, 9 operation, 10 near, 11 far -/
/-! readable: slots 0 log, 1 tolerance, 2 begin, 3 end, 4 ends, 5 some, 6 value, 7 kind, 8 early, 9 late -/
/-! must_return: slots 0 log, 1 tolerance, 2 begin, 3 end, 4 found -/
/-! l_is_good: slots 0 log, 1 tolerance, 2 bound -/
end CM
namespace CM
open PySem PySem.Spec PyProof.Rows L2 DL
/-! free_value: slots 0 ends, 1 tolerance, 2 left, 3 firsts, 4 value, 5 rivals, 6 first, 7 rival -/
/-! value_order: slots 0 log, 1 tolerance, 2 left, 3 ends, 4 found, 5 value -/
/-! operations_along: slots 0 log, 1 values, 2 found, 3 value, 4 own, 5 index, 6 operation -/
/-! order_for: slots 0 log, 1 tolerance -/
end CM
namespace CM
open PySem PySem.Spec PyProof.Rows L2 DL
/-! tight: slots 0 log, 1 least, 2 fault -/
/-! evidence: slots 0 log, 1 found, 2 least, 3 barring -/
/-! is_integer_pair: slots 0 value, 1 part -/
/-! shows_moments: slots 0 log, 1 tolerance, 2 value, 3 indexes, 4 times, 5 index, 6 moment, 7 one, 8 other, 9 pair -/
/-! shows_least: slots 0 log, 1 tolerance, 2 value -/
end CM
namespace CM
open PySem PySem.Spec PyProof.Rows L2 DL
/-! l_is_faultO: slots 0 log, 1 tolerance, 2 fault, 3 word, 4 worths_here, 5 is_same, 6 a, 7 b, 8 c, 9 d, 10 one, 11 other -/
end CM
namespace CM
open PySem PySem.Spec PyProof.Rows L2 DL
/-! l_odd: slots 0 pot_here, 1 thing, 2 some -/
def e_l_odd : SM := (sSeq (sAsg 2 (eLst (aCons (eC .non) (aCons (eC (.bl true)) (aCons (eC (.bl false)) (aCons (eC (.int 0)) (aCons (eC (.int 1)) (aCons (fz (eUn negD (eC (.int 1)))) (aCons (eC (.int 7)) (aCons (fz (eOp addD (eOp powD (eC (.int 10)) (eC (.int 9))) (eC (.int 1)))) (aCons (fz (eOp powD (eC (.int 10)) (eC (.int 30)))) (aCons (eC (.str ("" : Str))) (aCons (eC (.str ("read" : Str))) (aCons (eC (.str ("write" : Str))) (aCons (fz (eTup aNil)) (aCons (fz (eLst aNil)) (aCons (fz eNewD) (aCons (fz (eTup (aCons (eC (.int 0)) aNil))) (aCons (fz (eTup (aCons (eC (.str ("a" : Str))) aNil))) (aCons (fz (eLst (aCons (eC (.int 0)) aNil))) aNil))))))))))))))))))))
    (sSeq (sIf (tst (eCallB isiD (aCons (eVar 1) (aCons (eC (.ty "tuple")) aNil))))
    (sAsg 2 (eOp addD (eVar 2) (eOp mulD (eLst (aCons (fz (eCallB listD (aCons (eVar 1) aNil))) (aCons (fz (eSl (eVar 1) oNone (oSome (eUn negD (eC (.int 1)))))) (aCons (fz (eOp addD (eVar 1) (eSl (eVar 1) (oSome (eUn negD (eC (.int 1)))) oNone))) (aCons (fz (eUn revD (eVar 1))) (aCons (fz (eTup (aCons (fz (eVar 1)) aNil))) (aCons (fz (eSl (eVar 1) (oSome (eC (.int 1))) oNone)) aNil))))))) (eC (.int 2)))))
    (sIf (tst (eCallB isiD (aCons (eVar 1) (aCons (eC (.ty "str")) aNil))))
    (sAsg 2 (eOp addD (eVar 2) (eOp mulD (eLst (aCons (fz (eOp addD (eVar 1) (eC (.str ("s" : Str))))) (aCons (fz (eSl (eVar 1) oNone (oSome (eUn negD (eC (.int 1)))))) (aCons (fz (eUn upD (eVar 1))) (aCons (fz (eTup (aCons (fz (eVar 1)) aNil))) (aCons (fz (eLst (aCons (fz (eVar 1)) aNil))) aNil)))))) (eC (.int 2)))))
    (sIf (tst (eCallB isiD (aCons (eVar 1) (aCons (eC (.ty "int")) aNil))))
    (sAsg 2 (eOp addD (eVar 2) (eOp mulD (eLst (aCons (fz (eOp addB (eVar 1) (eC (.int 1)))) (aCons (fz (eOp subB (eVar 1) (eC (.int 1)))) (aCons (fz (eCallB strX (aCons (eVar 1) aNil))) (aCons (fz (eOp eqV' (eVar 1) (eC (.int 1)))) (aCons (fz (eUn negB (eVar 1))) aNil)))))) (eC (.int 2)))))
    sSkip)))
    (sRet (eCall s_l_any (aCons (eVar 0) (aCons (eVar 2) aNil))))))
def s_l_odd : FM := fnD 2 1 e_l_odd
/-! l_bent: slots 0 pot_here, 1 thing, 2 deep, 3 at -/
/-! l_is_call: slots 0 thing -/
end CM
namespace CM
open PySem PySem.Spec PyProof.Rows L2 DL
/-! has_formY: slots 0 log, 1 value, 2 index -/
/-! shows_faultY: slots 0 log, 1 tolerance, 2 value, 3 word, 4 some, 5 index -/
/-! l_is_faultY: slots 0 book, 1 slack, 2 thing, 3 many, 4 some, 5 pairs, 6 is_written, 7 at, 8 one, 9 other -/
/-! l_drawn_fault: slots 0 pot_here, 1 book, 2 word, 3 many, 4 turn -/
end CM
namespace CM
open PySem PySem.Spec PyProof.Rows L2 DL
/-! Precedence: slots 0 self, 1 log, 2 tolerance -/
/-! Precedence_is_direct: slots 0 self, 1 one, 2 other -/
/-! Precedence_ahead_of: slots 0 self, 1 value, 2 near, 3 farthest, 4 others, 5 other -/
/-! precedence: slots 0 log, 1 tolerance, 2 wanted, 3 value -/
/-! must_precede: slots 0 log, 1 tolerance, 2 one, 3 other -/
/-! l_ahead: slots 0 log, 1 tolerance, 2 value, 3 turn, 4 ends_here, 5 found, 6 more, 7 near, 8 one -/
/-! l_fine: slots 0 pot_here, 1 most, 2 way, 3 log, 4 least_here, 5 some -/
/-! Precedence_behind: slots 0 self, 1 value, 2 other -/
/-! positions: slots 0 log, 1 tolerance, 2 value, 3 found -/
/-! order_with: slots 0 log, 1 tolerance, 2 value, 3 position, 4 found, 5 values, 6 loose, 7 first, 8 early, 9 ahead, 10 behind, 11 other -/
/-! final_values: slots 0 log, 1 tolerance, 2 found, 3 last, 4 value, 5 other -/
end CM
set_option maxHeartbeats 2000000
namespace CM
open PySem PySem.Spec PyProof.Rows L2 DL
structure Pot (c : Nat) (p : List D) : Prop where
  ex : ∃ a b k : Int, p = [.int a, .int b, .int k] ∧ 0 ≤ a ∧ 0 ≤ b ∧ b < 2305843009213693921 ∧ 0 ≤ k ∧ k ≤ c
theorem Pot.mono {c c' : Nat} {p : List D} (h : Pot c p) (hc : c ≤ c') : Pot c' p := by
  obtain ⟨a, b, k, e, h1, h2, h3, h4, h5⟩ := h.ex
  exact ⟨a, b, k, e, h1, h2, h3, h4, by omega⟩
theorem log_cube {b k : Int} (hb : 0 ≤ b) (hb2 : b < 2305843009213693921) (hk : 0 ≤ k) (hk2 : k ≤ 1000000000) : powI (b + 98321 * k * k + 47) 3 = some ((b + 98321 * k * k + 47) ^ (3 : Int).toNat) := by
  unfold powI
  rw [if_pos]
  refine ⟨by decide, ?_⟩
  have h1 : k * k ≤ 1000000000 * 1000000000 := Int.mul_le_mul hk2 hk2 hk (by decide)
  have h0 : 0 ≤ k * k := Int.mul_nonneg hk hk
  have h2 : (b + 98321 * k * k + 47).natAbs < 2 ^ 100 := by
    rw [Int.mul_assoc]
    have : (2 : Nat) ^ 100 = 1267650600228229401496703205376 := by decide
    omega
  have h3 : (b + 98321 * k * k + 47).natAbs ≠ 0 := by
    rw [Int.mul_assoc]
    omega
  have h4 := (Nat.log2_lt h3).mpr h2
  have h5 : (3 : Int).toNat = 3 := rfl
  rw [h5]
  omega
theorem atI_of {α : Type} {xs : List α} {i : Int} (h0 : 0 ≤ i) (h1 : i < xs.length) : ∃ x, atI xs i = some x ∧ xs[i.toNat]? = some x := by
  have : i.toNat < xs.length := by omega
  refine ⟨xs[i.toNat], ?_, List.getElem?_eq_getElem this⟩
  unfold atI ixN
  rw [if_pos h0, if_pos h1]
  exact List.getElem?_eq_getElem this
section
local macro_rules
  | `(tactic| infer_instance) => `(tactic| (first | with_reducible refine b_op ?_ | with_reducible refine b_cb ?_ | with_reducible refine b_un ?_ | with_reducible refine b_call ?_ | with_reducible refine b_cons ?_ | with_reducible refine b_nil ?_ | with_reducible refine b_C ?_ | with_reducible refine b_tup ?_ | with_reducible refine b_lst ?_ | with_reducible refine b_fz ?_ | with_reducible refine b_nsl ?_ | with_reducible refine b_nslD ?_ | with_reducible refine b_nslF ?_ | with_reducible refine b_nslS ?_ | with_reducible refine b_tst ?_ | with_reducible refine b_bT ?_ | with_reducible refine b_andK ?_ | with_reducible refine b_orK ?_ | with_reducible refine b_not ?_ | with_reducible refine b_eIf ?_ | with_reducible refine b_ok ?_ | with_reducible refine b_rng ?_ | with_reducible refine b_iseq ?_ | with_reducible refine b_yes ?_ | with_reducible refine s_seq ?_ | with_reducible refine s_skip ?_ | with_reducible refine s_drop ?_ | with_reducible refine s_ret ?_ | with_reducible refine s_retN ?_ | with_reducible refine s_break ?_ | with_reducible refine s_cont ?_ | with_reducible refine s_if ?_ | with_reducible refine s_asg ?_ | with_reducible refine s_par ?_ | with_reducible refine s_tgt ?_ | with_reducible refine s_for ?_ | with_reducible refine s_loop ?_ | with_reducible refine s_store ?_ | with_reducible refine s_asgsN ?_ | with_reducible refine f_d ?_ | with_reducible refine f_fr ?_ | ((with_reducible apply b_var_d); rfl) | ((with_reducible apply b_var_o); rfl) | ((with_reducible apply b_fzv); rfl) | ((with_reducible apply b_fzvA); rfl) | ((with_reducible apply s_asgV); rfl) | ((with_reducible apply s_asgs); rfl) | ((with_reducible apply s_asgsD); rfl; first | assumption | exact Fr.un | exact Fr.dat | exact Fr.own) | ((with_reducible apply s_asgsO); rfl; first | assumption | exact Fr.un | exact Fr.dat | exact Fr.own) | ((with_reducible apply s_asgF); rfl; first | assumption | exact Fr.un | exact Fr.dat | exact Fr.own) | ((with_reducible apply s_asgFO); rfl; first | assumption | exact Fr.un | exact Fr.dat | exact Fr.own) | ((with_reducible apply s_storeV); rfl) | ((with_reducible apply s_storeK); rfl) | ((with_reducible apply b_methL); rfl) | ((with_reducible apply b_methV); rfl) | ((with_reducible apply b_mkTup); rfl; exact Nat.le_of_ble_eq_true rfl) | ((with_reducible apply b_mkLst); rfl; exact Nat.le_of_ble_eq_true rfl) | ((with_reducible apply f_sl); rfl) | ((with_reducible apply f_sld); rfl) | ((with_reducible apply x_mul); rfl; rfl; (first | omega | decide)) | ((with_reducible apply x_mod); rfl; rfl; decide) | ((with_reducible apply x_div); rfl; rfl; (first | omega | decide)) | ((with_reducible apply b_opV); rfl; rfl; rfl) | ((with_reducible apply b_unV); rfl; rfl) | ((with_reducible apply b_callV); rfl; rfl) | ((with_reducible apply b_callF); rfl; rfl) | ((with_reducible apply b_rng1); (first | omega | decide)) | ((with_reducible apply b_rng2); (first | omega | decide))))
theorem draw_wp {p : List D} {n : Int} {c : Nat} {Q : Val → DEnv → Prop} {X : Ex → DEnv → Prop} (hp : Pot c p) (hc : c < 1000000000) (hn : 0 < n) (hn2 : n < 1000000000000000000) (q : ∀ r p', 0 ≤ r → r < n → Pot (c + 1) p' → Q (.d (.int r)) [.ow (.lst p') .bor, .d (.int n)]) : (s_l_draw [.ow (.lst p) .bor, .d (.int n)]).wp Q X := by
  obtain ⟨a, b, k, rfl, ha, hb, hb2, hk, hk2⟩ := hp.ex
  unfold s_l_draw e_l_draw
  refine f_fn rfl ?_
  repeat infer_instance
  refine ⟨fun h => ?_, fun h => ?_⟩
  · have ha0 : 0 < a := of_decide_eq_true h
    repeat infer_instance
    refine x_mod rfl rfl hn ?_
    repeat infer_instance
    exact q _ _ (Int.emod_nonneg _ (by omega)) (Int.emod_lt_of_pos _ hn) ⟨_, _, _, rfl, Int.ediv_nonneg ha (by omega), hb, hb2, hk, by omega⟩
  · repeat infer_instance
    have hx : ∃ pr, atI [D.int 2147483647, D.int 2147483629, D.int 2147483587, D.int 2147483579, D.int 2147483563] ((k + 1) % 5) = some (.int pr) ∧ 2147483563 ≤ pr ∧ pr ≤ 2147483647 := by
      have : (k + 1) % 5 = 0 ∨ (k + 1) % 5 = 1 ∨ (k + 1) % 5 = 2 ∨ (k + 1) % 5 = 3 ∨ (k + 1) % 5 = 4 := by omega
      rcases this with e | e | e | e | e <;> rw [e] <;> exact ⟨_, rfl, by decide, by decide⟩
    obtain ⟨pr, e, g1, g2⟩ := hx
    refine x_idx rfl rfl e ?_
    repeat infer_instance
    refine x_pow rfl rfl (log_cube hb hb2 (by omega) (by omega)) ?_
    repeat infer_instance
    refine x_modG rfl rfl (by omega) fun m m1 m2 _ => ?_
    repeat infer_instance
    refine x_mod rfl rfl hn ?_
    repeat infer_instance
    exact q _ _ (Int.emod_nonneg _ (by omega)) (Int.emod_lt_of_pos _ hn) ⟨_, _, _, rfl, ha, hb, hb2, by omega, by omega⟩
theorem any_wp {p : List D} {s : Slot} {ds : List D} {c : Nat} {Q : Val → DEnv → Prop} {X : Ex → DEnv → Prop} (hp : Pot c p) (hc : c < 1000000000) (hs : s = .ow (.lst ds) .own ∨ s = .ow (.lst ds) .bor ∨ s = .d (.lst ds) ∨ s = .d (.tup ds)) (hl : 0 < ds.length) (hl2 : ds.length < 1000000000)
    (q : ∀ x p', x ∈ ds → Pot (c + 1) p' → Q (.d x) [.ow (.lst p') .bor, backSlot s (some s)]) : (s_l_any [.ow (.lst p) .bor, s]).wp Q X := by
  rcases hs with rfl | rfl | rfl | rfl
  all_goals
    unfold s_l_any e_l_any
    refine f_fn rfl ?_
    repeat infer_instance
    refine draw_wp hp hc (by omega) (by omega) fun r p' h1 h2 hp' => ?_
    obtain ⟨x, e, e2⟩ := atI_of h1 h2
    first | refine x_idx rfl rfl e ?_ | refine x_idxT rfl rfl e ?_
    repeat infer_instance
    exact q x p' (List.mem_of_getElem? e2) hp'
theorem pot_pos {x : Int} {b : Bool} : 0 ≤ (if x < 0 then -x else x) % (10 ^ Int.toNat 60) ^ Int.toNat 5 * (if b = true then 1 else 0) := by
  refine Int.mul_nonneg (Int.emod_nonneg _ (by decide +kernel)) ?_
  split <;> decide
theorem pot_wp {ns : List Int} {i : Int} {Q : Val → DEnv → Prop} {X : Ex → DEnv → Prop} (h0 : 0 ≤ i) (h1 : i < 1000) (q : ∀ p, Pot 0 p → Q (.fr (.lst p)) [.d (.scr ns), .d (.int i)]) : (s_l_pot [.d (.scr ns), .d (.int i)]).wp Q X := by
  unfold s_l_pot e_l_pot
  refine f_fn rfl ?_
  repeat infer_instance
  refine ⟨fun h => ?_, fun h => ?_⟩
  · obtain ⟨x, e, e2⟩ := atI_of (xs := ns) h0 (of_decide_eq_true h)
    repeat infer_instance
    refine x_idxS rfl rfl e ?_
    repeat infer_instance
    exact q _ ⟨_, _, _, rfl, pot_pos, Int.emod_nonneg _ (by decide), Int.emod_lt_of_pos _ (by decide), by decide, by decide⟩
  · repeat infer_instance
    exact q _ ⟨_, _, _, rfl, pot_pos, Int.emod_nonneg _ (by decide), Int.emod_lt_of_pos _ (by decide), by decide, by decide⟩
/-! ### logs -/
def OpIs (d : D) (k : Str) (v b e : Int) : Prop := d = .tup [.str k, .int v, .int b, .int e]
structure OpOk (d : D) : Prop where
  ex : ∃ k v b e, OpIs d k v b e ∧ ((k = "write" ∧ 1 ≤ v) ∨ (k = "read" ∧ 0 ≤ v)) ∧ v ≤ 1000000000 ∧ -1000000000000000 ≤ b ∧ b ≤ e ∧ e ≤ 1000000000000000
def wroteOf : D → Option Int
  | .tup [.str k, .int v, .int _, .int _] => if k = "write" then some v else none
  | _ => none
def wrote (ds : List D) : List Int := ds.filterMap wroteOf
structure LogOk (ds : List D) : Prop where
  ops : ∀ d ∈ ds, OpOk d
  nd : (wrote ds).Nodup
end
section
local macro_rules
  | `(tactic| infer_instance) => `(tactic| (first | with_reducible refine b_op ?_ | with_reducible refine b_cb ?_ | with_reducible refine b_un ?_ | with_reducible refine b_call ?_ | with_reducible refine b_cons ?_ | with_reducible refine b_nil ?_ | with_reducible refine b_C ?_ | with_reducible refine b_tup ?_ | with_reducible refine b_lst ?_ | with_reducible refine b_fz ?_ | with_reducible refine b_nsl ?_ | with_reducible refine b_nslD ?_ | with_reducible refine b_nslF ?_ | with_reducible refine b_nslS ?_ | with_reducible refine b_tst ?_ | with_reducible refine b_bT ?_ | with_reducible refine b_andK ?_ | with_reducible refine b_orK ?_ | with_reducible refine b_not ?_ | with_reducible refine b_eIf ?_ | with_reducible refine b_ok ?_ | with_reducible refine b_rng ?_ | with_reducible refine b_iseq ?_ | with_reducible refine b_yes ?_ | with_reducible refine s_skip ?_ | with_reducible refine s_drop ?_ | with_reducible refine s_ret ?_ | with_reducible refine s_retN ?_ | with_reducible refine s_break ?_ | with_reducible refine s_cont ?_ | with_reducible refine s_if ?_ | with_reducible refine s_asg ?_ | with_reducible refine s_par ?_ | with_reducible refine s_tgt ?_ | with_reducible refine s_for ?_ | with_reducible refine s_loop ?_ | with_reducible refine s_store ?_ | with_reducible refine s_asgsN ?_ | with_reducible refine f_d ?_ | with_reducible refine f_fr ?_ | ((with_reducible apply s_seqN); exact (rfl : _ = [_, _, _, _, _, _, _, _, _, _])) | ((with_reducible apply b_var_d); rfl) | ((with_reducible apply b_var_o); rfl) | ((with_reducible apply b_fzv); rfl) | ((with_reducible apply b_fzvA); rfl) | ((with_reducible apply s_asgV); rfl) | ((with_reducible apply s_asgs); rfl) | ((with_reducible apply s_asgsD); rfl; first | assumption | exact Fr.un | exact Fr.dat | exact Fr.own) | ((with_reducible apply s_asgsO); rfl; first | assumption | exact Fr.un | exact Fr.dat | exact Fr.own) | ((with_reducible apply s_asgF); rfl; first | assumption | exact Fr.un | exact Fr.dat | exact Fr.own) | ((with_reducible apply s_asgFO); rfl; first | assumption | exact Fr.un | exact Fr.dat | exact Fr.own) | ((with_reducible apply s_storeV); rfl) | ((with_reducible apply s_storeK); rfl) | ((with_reducible apply b_methL); rfl) | ((with_reducible apply b_methV); rfl) | ((with_reducible apply b_mkTup); rfl; exact Nat.le_of_ble_eq_true rfl) | ((with_reducible apply b_mkLst); rfl; exact Nat.le_of_ble_eq_true rfl) | ((with_reducible apply f_sl); rfl) | ((with_reducible apply f_sld); rfl) | ((with_reducible apply x_mul); rfl; rfl; (first | omega | decide)) | ((with_reducible apply x_mod); rfl; rfl; decide) | ((with_reducible apply x_div); rfl; rfl; (first | omega | decide)) | ((with_reducible apply b_opV); rfl; rfl; rfl) | ((with_reducible apply b_unV); rfl; rfl) | ((with_reducible apply b_callV); rfl; rfl) | ((with_reducible apply b_callF); rfl; rfl) | ((with_reducible apply b_rng1); (first | omega | decide)) | ((with_reducible apply b_rng2); (first | omega | decide))))
end
end CM
set_option maxHeartbeats 2000000
namespace CM
open PySem PySem.Spec PyProof.Rows L2 DL
section
local macro_rules
  | `(tactic| infer_instance) => `(tactic| (first | with_reducible refine b_op ?_ | with_reducible refine b_cb ?_ | with_reducible refine b_un ?_ | with_reducible refine b_call ?_ | with_reducible refine b_cons ?_ | with_reducible refine b_nil ?_ | with_reducible refine b_C ?_ | with_reducible refine b_tup ?_ | with_reducible refine b_lst ?_ | with_reducible refine b_fz ?_ | with_reducible refine b_nsl ?_ | with_reducible refine b_nslD ?_ | with_reducible refine b_nslF ?_ | with_reducible refine b_nslS ?_ | with_reducible refine b_tst ?_ | with_reducible refine b_bT ?_ | with_reducible refine b_andK ?_ | with_reducible refine b_orK ?_ | with_reducible refine b_not ?_ | with_reducible refine b_eIf ?_ | with_reducible refine b_ok ?_ | with_reducible refine b_rng ?_ | with_reducible refine b_iseq ?_ | with_reducible refine b_yes ?_ | with_reducible refine s_skip ?_ | with_reducible refine s_drop ?_ | with_reducible refine s_ret ?_ | with_reducible refine s_retN ?_ | with_reducible refine s_break ?_ | with_reducible refine s_cont ?_ | with_reducible refine s_if ?_ | with_reducible refine s_asg ?_ | with_reducible refine s_par ?_ | with_reducible refine s_tgt ?_ | with_reducible refine s_for ?_ | with_reducible refine s_loop ?_ | with_reducible refine s_store ?_ | with_reducible refine s_asgsN ?_ | with_reducible refine f_d ?_ | with_reducible refine f_fr ?_ | ((with_reducible apply s_seqN); exact (rfl : _ = [_, _, _, _, _, _, _, _, _, _])) | ((with_reducible apply b_var_d); rfl) | ((with_reducible apply b_var_o); rfl) | ((with_reducible apply b_fzv); rfl) | ((with_reducible apply b_fzvA); rfl) | ((with_reducible apply s_asgV); rfl) | ((with_reducible apply s_asgs); rfl) | ((with_reducible apply s_asgsD); rfl; first | assumption | exact Fr.un | exact Fr.dat | exact Fr.own) | ((with_reducible apply s_asgsO); rfl; first | assumption | exact Fr.un | exact Fr.dat | exact Fr.own) | ((with_reducible apply s_asgF); rfl; first | assumption | exact Fr.un | exact Fr.dat | exact Fr.own) | ((with_reducible apply s_asgFO); rfl; first | assumption | exact Fr.un | exact Fr.dat | exact Fr.own) | ((with_reducible apply s_storeV); rfl) | ((with_reducible apply s_storeK); rfl) | ((with_reducible apply b_methL); rfl) | ((with_reducible apply b_methV); rfl) | ((with_reducible apply b_mkTup); rfl; exact Nat.le_of_ble_eq_true rfl) | ((with_reducible apply b_mkLst); rfl; exact Nat.le_of_ble_eq_true rfl) | ((with_reducible apply f_sl); rfl) | ((with_reducible apply f_sld); rfl) | ((with_reducible apply x_mul); rfl; rfl; (first | omega | decide)) | ((with_reducible apply x_mod); rfl; rfl; decide) | ((with_reducible apply x_div); rfl; rfl; (first | omega | decide)) | ((with_reducible apply b_opV); rfl; rfl; rfl) | ((with_reducible apply b_unV); rfl; rfl) | ((with_reducible apply b_callV); rfl; rfl) | ((with_reducible apply b_callF); rfl; rfl) | ((with_reducible apply b_rng1); (first | omega | decide)) | ((with_reducible apply b_rng2); (first | omega | decide))))
end
section
local macro_rules
  | `(tactic| infer_instance) => `(tactic| (first | with_reducible refine b_op ?_ | with_reducible refine b_cb ?_ | with_reducible refine b_un ?_ | with_reducible refine b_call ?_ | with_reducible refine b_cons ?_ | with_reducible refine b_nil ?_ | with_reducible refine b_C ?_ | with_reducible refine b_tup ?_ | with_reducible refine b_lst ?_ | with_reducible refine b_fz ?_ | with_reducible refine b_nsl ?_ | with_reducible refine b_nslD ?_ | with_reducible refine b_nslF ?_ | with_reducible refine b_nslS ?_ | with_reducible refine b_tst ?_ | with_reducible refine b_bT ?_ | with_reducible refine b_andK ?_ | with_reducible refine b_orK ?_ | with_reducible refine b_not ?_ | with_reducible refine b_eIf ?_ | with_reducible refine b_ok ?_ | with_reducible refine b_rng ?_ | with_reducible refine b_iseq ?_ | with_reducible refine b_yes ?_ | with_reducible refine s_skip ?_ | with_reducible refine s_drop ?_ | with_reducible refine s_ret ?_ | with_reducible refine s_retN ?_ | with_reducible refine s_break ?_ | with_reducible refine s_cont ?_ | with_reducible refine s_if ?_ | with_reducible refine s_asg ?_ | with_reducible refine s_par ?_ | with_reducible refine s_tgt ?_ | with_reducible refine s_for ?_ | with_reducible refine s_loop ?_ | with_reducible refine s_store ?_ | with_reducible refine s_asgsN ?_ | with_reducible refine f_d ?_ | with_reducible refine f_fr ?_ | ((with_reducible apply s_seqN); exact (rfl : _ = [_, _, _, _, _, _, _, _, _, _, _, _, _])) | ((with_reducible apply b_var_d); rfl) | ((with_reducible apply b_var_o); rfl) | ((with_reducible apply b_fzv); rfl) | ((with_reducible apply b_fzvA); rfl) | ((with_reducible apply s_asgV); rfl) | ((with_reducible apply s_asgs); rfl) | ((with_reducible apply s_asgsD); rfl; first | assumption | exact Fr.un | exact Fr.dat | exact Fr.own) | ((with_reducible apply s_asgsO); rfl; first | assumption | exact Fr.un | exact Fr.dat | exact Fr.own) | ((with_reducible apply s_asgF); rfl; first | assumption | exact Fr.un | exact Fr.dat | exact Fr.own) | ((with_reducible apply s_asgFO); rfl; first | assumption | exact Fr.un | exact Fr.dat | exact Fr.own) | ((with_reducible apply s_storeV); rfl) | ((with_reducible apply s_storeK); rfl) | ((with_reducible apply b_methL); rfl) | ((with_reducible apply b_methV); rfl) | ((with_reducible apply b_mkTup); rfl; exact Nat.le_of_ble_eq_true rfl) | ((with_reducible apply b_mkLst); rfl; exact Nat.le_of_ble_eq_true rfl) | ((with_reducible apply f_sl); rfl) | ((with_reducible apply f_sld); rfl) | ((with_reducible apply x_mul); rfl; rfl; (first | omega | decide)) | ((with_reducible apply x_mod); rfl; rfl; decide) | ((with_reducible apply x_div); rfl; rfl; (first | omega | decide)) | ((with_reducible apply b_opV); rfl; rfl; rfl) | ((with_reducible apply b_unV); rfl; rfl) | ((with_reducible apply b_callV); rfl; rfl) | ((with_reducible apply b_callF); rfl; rfl) | ((with_reducible apply b_rng1); (first | omega | decide)) | ((with_reducible apply b_rng2); (first | omega | decide))))
end
end CM
set_option maxHeartbeats 2000000
namespace CM
open PySem PySem.Spec PyProof.Rows L2 DL
section
local macro_rules
  | `(tactic| infer_instance) => `(tactic| (first | with_reducible refine b_op ?_ | with_reducible refine b_cb ?_ | with_reducible refine b_un ?_ | with_reducible refine b_call ?_ | with_reducible refine b_cons ?_ | with_reducible refine b_nil ?_ | with_reducible refine b_C ?_ | with_reducible refine b_tup ?_ | with_reducible refine b_lst ?_ | with_reducible refine b_fz ?_ | with_reducible refine b_nsl ?_ | with_reducible refine b_nslD ?_ | with_reducible refine b_nslF ?_ | with_reducible refine b_nslS ?_ | with_reducible refine b_tst ?_ | with_reducible refine b_bT ?_ | with_reducible refine b_andK ?_ | with_reducible refine b_orK ?_ | with_reducible refine b_not ?_ | with_reducible refine b_eIf ?_ | with_reducible refine b_ok ?_ | with_reducible refine b_rng ?_ | with_reducible refine b_iseq ?_ | with_reducible refine b_yes ?_ | with_reducible refine s_skip ?_ | with_reducible refine s_drop ?_ | with_reducible refine s_ret ?_ | with_reducible refine s_retN ?_ | with_reducible refine s_break ?_ | with_reducible refine s_cont ?_ | with_reducible refine s_if ?_ | with_reducible refine s_asg ?_ | with_reducible refine s_par ?_ | with_reducible refine s_tgt ?_ | with_reducible refine s_for ?_ | with_reducible refine s_loop ?_ | with_reducible refine s_store ?_ | with_reducible refine s_asgsN ?_ | with_reducible refine f_d ?_ | with_reducible refine f_fr ?_ | ((with_reducible apply s_seqN); exact (rfl : _ = [_, _, _, _, _, _, _, _, _, _, _, _, _])) | ((with_reducible apply b_var_d); rfl) | ((with_reducible apply b_var_o); rfl) | ((with_reducible apply b_fzv); rfl) | ((with_reducible apply b_fzvA); rfl) | ((with_reducible apply s_asgV); rfl) | ((with_reducible apply s_asgs); rfl) | ((with_reducible apply s_asgsD); rfl; first | assumption | exact Fr.un | exact Fr.dat | exact Fr.own) | ((with_reducible apply s_asgsO); rfl; first | assumption | exact Fr.un | exact Fr.dat | exact Fr.own) | ((with_reducible apply s_asgF); rfl; first | assumption | exact Fr.un | exact Fr.dat | exact Fr.own) | ((with_reducible apply s_asgFO); rfl; first | assumption | exact Fr.un | exact Fr.dat | exact Fr.own) | ((with_reducible apply s_storeV); rfl) | ((with_reducible apply s_storeK); rfl) | ((with_reducible apply b_methL); rfl) | ((with_reducible apply b_methV); rfl) | ((with_reducible apply b_mkTup); rfl; exact Nat.le_of_ble_eq_true rfl) | ((with_reducible apply b_mkLst); rfl; exact Nat.le_of_ble_eq_true rfl) | ((with_reducible apply f_sl); rfl) | ((with_reducible apply f_sld); rfl) | ((with_reducible apply x_mul); rfl; rfl; (first | omega | decide)) | ((with_reducible apply x_mod); rfl; rfl; decide) | ((with_reducible apply x_div); rfl; rfl; (first | omega | decide)) | ((with_reducible apply b_opV); rfl; rfl; rfl) | ((with_reducible apply b_unV); rfl; rfl) | ((with_reducible apply b_callV); rfl; rfl) | ((with_reducible apply b_callF); rfl; rfl) | ((with_reducible apply b_rng1); (first | omega | decide)) | ((with_reducible apply b_rng2); (first | omega | decide))))
def vOf : D → Int
  | .tup [_, .int v, _, _] => v
  | _ => 0
def keepD (ws : List Int) (d : D) : Bool := !decide (vOf d ∈ ws)
end
section
local macro_rules
  | `(tactic| infer_instance) => `(tactic| (first | with_reducible refine b_op ?_ | with_reducible refine b_cb ?_ | with_reducible refine b_un ?_ | with_reducible refine b_call ?_ | with_reducible refine b_cons ?_ | with_reducible refine b_nil ?_ | with_reducible refine b_C ?_ | with_reducible refine b_tup ?_ | with_reducible refine b_lst ?_ | with_reducible refine b_fz ?_ | with_reducible refine b_nsl ?_ | with_reducible refine b_nslD ?_ | with_reducible refine b_nslF ?_ | with_reducible refine b_nslS ?_ | with_reducible refine b_tst ?_ | with_reducible refine b_bT ?_ | with_reducible refine b_andK ?_ | with_reducible refine b_orK ?_ | with_reducible refine b_not ?_ | with_reducible refine b_eIf ?_ | with_reducible refine b_ok ?_ | with_reducible refine b_rng ?_ | with_reducible refine b_iseq ?_ | with_reducible refine b_yes ?_ | with_reducible refine s_skip ?_ | with_reducible refine s_drop ?_ | with_reducible refine s_ret ?_ | with_reducible refine s_retN ?_ | with_reducible refine s_break ?_ | with_reducible refine s_cont ?_ | with_reducible refine s_if ?_ | with_reducible refine s_asg ?_ | with_reducible refine s_par ?_ | with_reducible refine s_tgt ?_ | with_reducible refine s_for ?_ | with_reducible refine s_loop ?_ | with_reducible refine s_store ?_ | with_reducible refine s_asgsN ?_ | with_reducible refine f_d ?_ | with_reducible refine f_fr ?_ | ((with_reducible apply s_seqN); exact (rfl : _ = [_, _])) | ((with_reducible apply b_var_d); rfl) | ((with_reducible apply b_var_o); rfl) | ((with_reducible apply b_fzv); rfl) | ((with_reducible apply b_fzvA); rfl) | ((with_reducible apply s_asgV); rfl) | ((with_reducible apply s_asgs); rfl) | ((with_reducible apply s_asgsD); rfl; first | assumption | exact Fr.un | exact Fr.dat | exact Fr.own) | ((with_reducible apply s_asgsO); rfl; first | assumption | exact Fr.un | exact Fr.dat | exact Fr.own) | ((with_reducible apply s_asgF); rfl; first | assumption | exact Fr.un | exact Fr.dat | exact Fr.own) | ((with_reducible apply s_asgFO); rfl; first | assumption | exact Fr.un | exact Fr.dat | exact Fr.own) | ((with_reducible apply s_storeV); rfl) | ((with_reducible apply s_storeK); rfl) | ((with_reducible apply b_methL); rfl) | ((with_reducible apply b_methV); rfl) | ((with_reducible apply b_mkTup); rfl; exact Nat.le_of_ble_eq_true rfl) | ((with_reducible apply b_mkLst); rfl; exact Nat.le_of_ble_eq_true rfl) | ((with_reducible apply f_sl); rfl) | ((with_reducible apply f_sld); rfl) | ((with_reducible apply x_mul); rfl; rfl; (first | omega | decide)) | ((with_reducible apply x_mod); rfl; rfl; decide) | ((with_reducible apply x_div); rfl; rfl; (first | omega | decide)) | ((with_reducible apply b_opV); rfl; rfl; rfl) | ((with_reducible apply b_unV); rfl; rfl) | ((with_reducible apply b_callV); rfl; rfl) | ((with_reducible apply b_callF); rfl; rfl) | ((with_reducible apply b_rng1); (first | omega | decide)) | ((with_reducible apply b_rng2); (first | omega | decide))))
end
end CM
set_option maxHeartbeats 4000000
namespace CM
open PySem PySem.Spec PyProof.Rows L2 DL
theorem cutD_len {α : Type} {lo hi : Option Int} {ns : List α} : (DL.cutD ns lo hi).length ≤ ns.length := by
  unfold DL.cutD
  rw [List.length_take, List.length_drop]
  omega
theorem LogOk.filter {ds : List D} (h : LogOk ds) (p : D → Bool) : LogOk (ds.filter p) :=
  ⟨fun d hd => h.ops d (List.mem_filter.mp hd).1, by
    have : (wrote (ds.filter p)).Sublist (wrote ds) := List.Sublist.filterMap _ List.filter_sublist
    exact this.nodup h.nd⟩
end CM
set_option maxHeartbeats 2000000
namespace CM
open PySem PySem.Spec PyProof.Rows L2 DL
/-! typed operations and logs -/
structure Op where
  w : Bool
  v : Int
  b : Int
  e : Int
  deriving DecidableEq
def Op.k (o : Op) : Str := if o.w then "write" else "read"
def Op.d (o : Op) : D := .tup [.str o.k, .int o.v, .int o.b, .int o.e]
structure Op.Ok (o : Op) : Prop where
  lo : 0 ≤ o.v
  wr : o.w = true → 1 ≤ o.v
  hi : o.v ≤ 1000000000
  b : -1000000000000000 ≤ o.b
  be : o.b ≤ o.e
  e : o.e ≤ 1000000000000000
abbrev Log := List Op
def Log.d (l : Log) : D := .tup (l.map Op.d)
def Log.wr (l : Log) : List Int := (l.filter (·.w)).map (·.v)
structure Log.Ok (l : Log) : Prop where
  ops : ∀ o ∈ l, o.Ok
  nd : (Log.wr l).Nodup
  len : l.length ≤ 200
/-! what is good to compare and to show -/
theorem Gd.str {x : Str} (h : (D.str x).good = true) (h2 : (D.str x).short = true) : Gd 0 1 (.str x) := ⟨h, h2, Nat.le_refl _, Nat.le_refl _⟩
theorem Gd.bl {b : Bool} : Gd 0 1 (.bl b) := ⟨rfl, rfl, Nat.le_refl _, Nat.le_refl _⟩
theorem Gd.non : Gd 0 1 .non := ⟨rfl, rfl, Nat.le_refl _, Nat.le_refl _⟩
/-! values -/
def Log.vals (l : Log) : List Int := sortSetI (l.map (·.v))
def LOWEST : Int := -1000000000000000000
/-- the first end of a value -/
def Log.fe (l : Log) (v : Int) : Int := if v = 0 then LOWEST else minL ((l.filter (·.v = v)).map (·.e))
def Log.lb (l : Log) (v : Int) : Int := maxL ((l.filter (·.v = v)).map (·.b))
theorem mem_vals {l : Log} {v : Int} : v ∈ l.vals ↔ ∃ o ∈ l, o.v = v := by
  unfold Log.vals
  rw [mem_sortSetI, List.mem_map]
theorem vals_pw (l : Log) : l.vals.Pairwise (· < ·) := sortSetI_pw _
theorem vals_bd {l : Log} (h : l.Ok) {v : Int} (hv : v ∈ l.vals) : 0 ≤ v ∧ v ≤ 1000000000 := by
  obtain ⟨o, ho, rfl⟩ := mem_vals.mp hv
  exact ⟨(h.ops o ho).lo, (h.ops o ho).hi⟩
def Log.ends (l : Log) : D := .dic (ikeys l.vals) (l.vals.map fun v => .tup [.int (l.fe v), .int (l.lb v)])
end CM
set_option maxHeartbeats 4000000
namespace CM
open PySem PySem.Spec PyProof.Rows L2 DL
section
variable {ρ ρ' : DEnv} {Q : Val → DEnv → Prop} {X : Ex → DEnv → Prop} {xs : List Val} {a b : D} {x y : Val}
theorem way_eq {k : Str} {A B : Prop} (q : B) : Way (!decide (k = k)) A B := way_f (by simp) q
theorem way_eq' {k : Str} {A B : Prop} (q : A) : Way (decide (k = k)) A B := way_t (by simp) q
end
/-! laws: for each of the first three cells -/
section
local macro_rules
  | `(tactic| infer_instance) => `(tactic| (first | with_reducible refine b_op ?_ | with_reducible refine b_cb ?_ | with_reducible refine b_un ?_ | with_reducible refine b_call ?_ | with_reducible refine b_cons ?_ | with_reducible refine b_nil ?_ | with_reducible refine b_C ?_ | with_reducible refine b_tup ?_ | with_reducible refine b_lst ?_ | with_reducible refine b_fz ?_ | with_reducible refine b_nsl ?_ | with_reducible refine b_nslD ?_ | with_reducible refine b_nslF ?_ | with_reducible refine b_nslS ?_ | with_reducible refine b_tst ?_ | with_reducible refine b_bT ?_ | with_reducible refine b_not ?_ | with_reducible refine b_ok ?_ | with_reducible refine b_rng ?_ | with_reducible refine b_iseq ?_ | with_reducible refine b_yes ?_ | with_reducible refine s_skip ?_ | with_reducible refine s_drop ?_ | with_reducible refine s_ret ?_ | with_reducible refine s_retN ?_ | with_reducible refine s_break ?_ | with_reducible refine s_cont ?_ | with_reducible refine s_asg ?_ | with_reducible refine s_par ?_ | with_reducible refine s_tgt ?_ | with_reducible refine s_for ?_ | with_reducible refine s_loop ?_ | with_reducible refine s_store ?_ | with_reducible refine s_asgsN ?_ | with_reducible refine f_d ?_ | with_reducible refine f_fr ?_ | with_reducible refine b_sl ?_ | with_reducible refine b_oNone ?_ | with_reducible refine b_oSome ?_ | with_reducible refine b_oV ?_ | with_reducible refine b_isN ?_ | with_reducible refine b_notN ?_ | with_reducible refine b_isnD ?_ | with_reducible refine b_notnD ?_ | with_reducible refine b_ienu ?_ | with_reducible refine b_iany ?_ | with_reducible refine b_seqT ?_ | with_reducible refine s_gsCons ?_ | with_reducible refine s_gsNil ?_ | with_reducible refine b_seqL ?_ | with_reducible refine b_seqF ?_ | with_reducible refine b_callK ?_ | with_reducible refine b_blK ?_ | with_reducible refine b_dtK ?_ | with_reducible refine b_intK ?_ | with_reducible refine b_eAndK ?_ | with_reducible refine b_eOrK ?_ | with_reducible refine b_eNotK ?_ | with_reducible refine b_chainK ?_ | with_reducible refine b_andW ?_ | with_reducible refine b_orW ?_ | with_reducible refine b_eIfW ?_ | with_reducible refine s_ifW ?_ | with_reducible refine b_lcK ?_ | with_reducible refine b_sortScK ?_ | with_reducible refine b_dcK ?_ | with_reducible refine b_dcStepK ?_ | ((with_reducible apply b_pb); exact (rfl : _ = [_, _])) | ((with_reducible apply s_seqN); exact (rfl : _ = [_, _])) | ((with_reducible apply b_var_d); rfl) | ((with_reducible apply b_var_o); rfl) | ((with_reducible apply b_fzv); rfl) | ((with_reducible apply b_fzvA); rfl) | ((with_reducible apply s_asgV); rfl) | ((with_reducible apply s_asgs); rfl) | ((with_reducible apply s_asgsD); rfl; first | assumption | exact Fr.un | exact Fr.dat | exact Fr.own) | ((with_reducible apply s_asgsO); rfl; first | assumption | exact Fr.un | exact Fr.dat | exact Fr.own) | ((with_reducible apply s_asgF); rfl; first | assumption | exact Fr.un | exact Fr.dat | exact Fr.own) | ((with_reducible apply s_asgFO); rfl; first | assumption | exact Fr.un | exact Fr.dat | exact Fr.own) | ((with_reducible apply s_storeV); rfl) | ((with_reducible apply s_storeK); rfl) | ((with_reducible apply b_methL); rfl) | ((with_reducible apply b_methV); rfl) | ((with_reducible apply b_mkTup); rfl; exact Nat.le_of_ble_eq_true rfl) | ((with_reducible apply b_mkLst); rfl; exact Nat.le_of_ble_eq_true rfl) | ((with_reducible apply f_sl); rfl) | ((with_reducible apply f_sld); rfl) | ((with_reducible apply x_mul); rfl; rfl; (first | omega | decide)) | ((with_reducible apply x_mod); rfl; rfl; decide) | ((with_reducible apply x_div); rfl; rfl; (first | omega | decide)) | ((with_reducible apply b_opV); rfl; rfl; rfl) | ((with_reducible apply b_unV); rfl; rfl) | ((with_reducible apply b_callV); rfl; rfl) | ((with_reducible apply b_callFP); rfl; rfl) | ((with_reducible apply b_rng1); (first | omega | decide)) | ((with_reducible apply b_rng2); (first | omega | decide)) | ((with_reducible apply s_tupG); rfl; rfl) | ((with_reducible apply b_fzvA); rfl) | ((with_reducible apply b_seqO); rfl) | ((with_reducible apply b_selK); rfl) | ((with_reducible apply way_t); rfl) | ((with_reducible apply way_f); rfl)))
/-! logs whose writes may be of one value -/
end
end CM
set_option maxHeartbeats 4000000
namespace CM
open PySem PySem.Spec PyProof.Rows L2 DL
theorem seqS_tup {ρ : DEnv} {i : Nat} {ds : List D} {QI : Src → DEnv → Prop} {X : Ex → DEnv → Prop} (e : ρ[i]? = some (.d (.tup ds))) (q : QI (ds, none) ρ) : (seqSrc (.sl i) ρ).wp QI X := by
  unfold seqSrc
  dsimp only
  rw [e]
  exact q
section
local macro_rules
  | `(tactic| infer_instance) => `(tactic| (first | with_reducible refine b_op ?_ | with_reducible refine b_cb ?_ | with_reducible refine b_un ?_ | with_reducible refine b_call ?_ | with_reducible refine b_cons ?_ | with_reducible refine b_nil ?_ | with_reducible refine b_C ?_ | with_reducible refine b_tup ?_ | with_reducible refine b_lst ?_ | with_reducible refine b_fz ?_ | with_reducible refine b_nsl ?_ | with_reducible refine b_nslD ?_ | with_reducible refine b_nslF ?_ | with_reducible refine b_nslS ?_ | with_reducible refine b_tst ?_ | with_reducible refine b_bT ?_ | with_reducible refine b_not ?_ | with_reducible refine b_ok ?_ | with_reducible refine b_rng ?_ | with_reducible refine b_iseq ?_ | with_reducible refine b_yes ?_ | with_reducible refine s_skip ?_ | with_reducible refine s_drop ?_ | with_reducible refine s_ret ?_ | with_reducible refine s_retN ?_ | with_reducible refine s_break ?_ | with_reducible refine s_cont ?_ | with_reducible refine s_asg ?_ | with_reducible refine s_par ?_ | with_reducible refine s_tgt ?_ | with_reducible refine s_for ?_ | with_reducible refine s_loop ?_ | with_reducible refine s_store ?_ | with_reducible refine s_asgsN ?_ | with_reducible refine f_d ?_ | with_reducible refine f_fr ?_ | with_reducible refine b_sl ?_ | with_reducible refine b_oNone ?_ | with_reducible refine b_oSome ?_ | with_reducible refine b_oV ?_ | with_reducible refine b_isN ?_ | with_reducible refine b_notN ?_ | with_reducible refine b_isnD ?_ | with_reducible refine b_notnD ?_ | with_reducible refine b_ienu ?_ | with_reducible refine b_iany ?_ | with_reducible refine b_seqT ?_ | with_reducible refine s_gsCons ?_ | with_reducible refine s_gsNil ?_ | with_reducible refine b_seqL ?_ | with_reducible refine b_seqF ?_ | with_reducible refine b_callK ?_ | with_reducible refine b_blK ?_ | with_reducible refine b_dtK ?_ | with_reducible refine b_intK ?_ | with_reducible refine b_eAndK ?_ | with_reducible refine b_eOrK ?_ | with_reducible refine b_eNotK ?_ | with_reducible refine b_chainK ?_ | with_reducible refine b_andW ?_ | with_reducible refine b_orW ?_ | with_reducible refine b_eIfW ?_ | with_reducible refine s_ifW ?_ | with_reducible refine b_lcK ?_ | with_reducible refine b_sortScK ?_ | with_reducible refine b_dcK ?_ | with_reducible refine b_dcStepK ?_ | ((with_reducible apply b_pb); exact (rfl : _ = [_, _, _, _, _])) | ((with_reducible apply s_seqN); exact (rfl : _ = [_, _, _, _, _])) | ((with_reducible apply b_var_d); rfl) | ((with_reducible apply b_var_o); rfl) | ((with_reducible apply b_fzv); rfl) | ((with_reducible apply b_fzvA); rfl) | ((with_reducible apply s_asgV); rfl) | ((with_reducible apply s_asgs); rfl) | ((with_reducible apply s_asgsD); rfl; first | assumption | exact Fr.un | exact Fr.dat | exact Fr.own) | ((with_reducible apply s_asgsO); rfl; first | assumption | exact Fr.un | exact Fr.dat | exact Fr.own) | ((with_reducible apply s_asgF); rfl; first | assumption | exact Fr.un | exact Fr.dat | exact Fr.own) | ((with_reducible apply s_asgFO); rfl; first | assumption | exact Fr.un | exact Fr.dat | exact Fr.own) | ((with_reducible apply s_storeV); rfl) | ((with_reducible apply s_storeK); rfl) | ((with_reducible apply b_methL); rfl) | ((with_reducible apply b_methV); rfl) | ((with_reducible apply b_mkTup); rfl; exact Nat.le_of_ble_eq_true rfl) | ((with_reducible apply b_mkLst); rfl; exact Nat.le_of_ble_eq_true rfl) | ((with_reducible apply f_sl); rfl) | ((with_reducible apply f_sld); rfl) | ((with_reducible apply x_mul); rfl; rfl; (first | omega | decide)) | ((with_reducible apply x_mod); rfl; rfl; decide) | ((with_reducible apply x_div); rfl; rfl; (first | omega | decide)) | ((with_reducible apply b_opV); rfl; rfl; rfl) | ((with_reducible apply b_unV); rfl; rfl) | ((with_reducible apply b_callV); rfl; rfl) | ((with_reducible apply b_callFP); rfl; rfl) | ((with_reducible apply b_rng1); (first | omega | decide)) | ((with_reducible apply b_rng2); (first | omega | decide)) | ((with_reducible apply s_tupG); rfl; rfl) | ((with_reducible apply b_fzvA); rfl) | ((with_reducible apply b_seqO); rfl) | ((with_reducible apply b_selK); rfl) | ((with_reducible apply way_t); rfl) | ((with_reducible apply way_f); rfl)))
end
section
local macro_rules
  | `(tactic| infer_instance) => `(tactic| (first | with_reducible refine b_op ?_ | with_reducible refine b_cb ?_ | with_reducible refine b_un ?_ | with_reducible refine b_call ?_ | with_reducible refine b_cons ?_ | with_reducible refine b_nil ?_ | with_reducible refine b_C ?_ | with_reducible refine b_tup ?_ | with_reducible refine b_lst ?_ | with_reducible refine b_fz ?_ | with_reducible refine b_nsl ?_ | with_reducible refine b_nslD ?_ | with_reducible refine b_nslF ?_ | with_reducible refine b_nslS ?_ | with_reducible refine b_tst ?_ | with_reducible refine b_bT ?_ | with_reducible refine b_not ?_ | with_reducible refine b_ok ?_ | with_reducible refine b_rng ?_ | with_reducible refine b_iseq ?_ | with_reducible refine b_yes ?_ | with_reducible refine s_skip ?_ | with_reducible refine s_drop ?_ | with_reducible refine s_ret ?_ | with_reducible refine s_retN ?_ | with_reducible refine s_break ?_ | with_reducible refine s_cont ?_ | with_reducible refine s_asg ?_ | with_reducible refine s_par ?_ | with_reducible refine s_tgt ?_ | with_reducible refine s_for ?_ | with_reducible refine s_loop ?_ | with_reducible refine s_store ?_ | with_reducible refine s_asgsN ?_ | with_reducible refine f_d ?_ | with_reducible refine f_fr ?_ | with_reducible refine b_sl ?_ | with_reducible refine b_oNone ?_ | with_reducible refine b_oSome ?_ | with_reducible refine b_oV ?_ | with_reducible refine b_isN ?_ | with_reducible refine b_notN ?_ | with_reducible refine b_isnD ?_ | with_reducible refine b_notnD ?_ | with_reducible refine b_ienu ?_ | with_reducible refine b_iany ?_ | with_reducible refine b_seqT ?_ | with_reducible refine s_gsCons ?_ | with_reducible refine s_gsNil ?_ | with_reducible refine b_seqL ?_ | with_reducible refine b_seqF ?_ | with_reducible refine b_callK ?_ | with_reducible refine b_blK ?_ | with_reducible refine b_dtK ?_ | with_reducible refine b_intK ?_ | with_reducible refine b_eAndK ?_ | with_reducible refine b_eOrK ?_ | with_reducible refine b_eNotK ?_ | with_reducible refine b_chainK ?_ | with_reducible refine b_andW ?_ | with_reducible refine b_orW ?_ | with_reducible refine b_eIfW ?_ | with_reducible refine s_ifW ?_ | with_reducible refine b_lcK ?_ | with_reducible refine b_sortScK ?_ | with_reducible refine b_dcK ?_ | with_reducible refine b_dcStepK ?_ | ((with_reducible apply b_pb); exact (rfl : _ = [_, _, _, _, _, _, _, _])) | ((with_reducible apply s_seqN); exact (rfl : _ = [_, _, _, _, _, _, _, _])) | ((with_reducible apply b_var_d); rfl) | ((with_reducible apply b_var_o); rfl) | ((with_reducible apply b_fzv); rfl) | ((with_reducible apply b_fzvA); rfl) | ((with_reducible apply s_asgV); rfl) | ((with_reducible apply s_asgs); rfl) | ((with_reducible apply s_asgsD); rfl; first | assumption | exact Fr.un | exact Fr.dat | exact Fr.own) | ((with_reducible apply s_asgsO); rfl; first | assumption | exact Fr.un | exact Fr.dat | exact Fr.own) | ((with_reducible apply s_asgF); rfl; first | assumption | exact Fr.un | exact Fr.dat | exact Fr.own) | ((with_reducible apply s_asgFO); rfl; first | assumption | exact Fr.un | exact Fr.dat | exact Fr.own) | ((with_reducible apply s_storeV); rfl) | ((with_reducible apply s_storeK); rfl) | ((with_reducible apply b_methL); rfl) | ((with_reducible apply b_methV); rfl) | ((with_reducible apply b_mkTup); rfl; exact Nat.le_of_ble_eq_true rfl) | ((with_reducible apply b_mkLst); rfl; exact Nat.le_of_ble_eq_true rfl) | ((with_reducible apply f_sl); rfl) | ((with_reducible apply f_sld); rfl) | ((with_reducible apply x_mul); rfl; rfl; (first | omega | decide)) | ((with_reducible apply x_mod); rfl; rfl; decide) | ((with_reducible apply x_div); rfl; rfl; (first | omega | decide)) | ((with_reducible apply b_opV); rfl; rfl; rfl) | ((with_reducible apply b_unV); rfl; rfl) | ((with_reducible apply b_callV); rfl; rfl) | ((with_reducible apply b_callFP); rfl; rfl) | ((with_reducible apply b_rng1); (first | omega | decide)) | ((with_reducible apply b_rng2); (first | omega | decide)) | ((with_reducible apply s_tupG); rfl; rfl) | ((with_reducible apply b_fzvA); rfl) | ((with_reducible apply b_seqO); rfl) | ((with_reducible apply b_selK); rfl) | ((with_reducible apply way_t); rfl) | ((with_reducible apply way_f); rfl)))
end
section
local macro_rules
  | `(tactic| infer_instance) => `(tactic| (first | with_reducible refine b_op ?_ | with_reducible refine b_cb ?_ | with_reducible refine b_un ?_ | with_reducible refine b_call ?_ | with_reducible refine b_cons ?_ | with_reducible refine b_nil ?_ | with_reducible refine b_C ?_ | with_reducible refine b_tup ?_ | with_reducible refine b_lst ?_ | with_reducible refine b_fz ?_ | with_reducible refine b_nsl ?_ | with_reducible refine b_nslD ?_ | with_reducible refine b_nslF ?_ | with_reducible refine b_nslS ?_ | with_reducible refine b_tst ?_ | with_reducible refine b_bT ?_ | with_reducible refine b_not ?_ | with_reducible refine b_ok ?_ | with_reducible refine b_rng ?_ | with_reducible refine b_iseq ?_ | with_reducible refine b_yes ?_ | with_reducible refine s_skip ?_ | with_reducible refine s_drop ?_ | with_reducible refine s_ret ?_ | with_reducible refine s_retN ?_ | with_reducible refine s_break ?_ | with_reducible refine s_cont ?_ | with_reducible refine s_asg ?_ | with_reducible refine s_par ?_ | with_reducible refine s_tgt ?_ | with_reducible refine s_for ?_ | with_reducible refine s_loop ?_ | with_reducible refine s_store ?_ | with_reducible refine s_asgsN ?_ | with_reducible refine f_d ?_ | with_reducible refine f_fr ?_ | with_reducible refine b_sl ?_ | with_reducible refine b_oNone ?_ | with_reducible refine b_oSome ?_ | with_reducible refine b_oV ?_ | with_reducible refine b_isN ?_ | with_reducible refine b_notN ?_ | with_reducible refine b_isnD ?_ | with_reducible refine b_notnD ?_ | with_reducible refine b_ienu ?_ | with_reducible refine b_iany ?_ | with_reducible refine b_seqT ?_ | with_reducible refine s_gsCons ?_ | with_reducible refine s_gsNil ?_ | with_reducible refine b_seqL ?_ | with_reducible refine b_seqF ?_ | with_reducible refine b_callK ?_ | with_reducible refine b_blK ?_ | with_reducible refine b_dtK ?_ | with_reducible refine b_intK ?_ | with_reducible refine b_eAndK ?_ | with_reducible refine b_eOrK ?_ | with_reducible refine b_eNotK ?_ | with_reducible refine b_chainK ?_ | with_reducible refine b_andW ?_ | with_reducible refine b_orW ?_ | with_reducible refine b_eIfW ?_ | with_reducible refine s_ifW ?_ | with_reducible refine b_lcK ?_ | with_reducible refine b_sortScK ?_ | with_reducible refine b_dcK ?_ | with_reducible refine b_dcStepK ?_ | ((with_reducible apply b_pb); exact (rfl : _ = [_, _])) | ((with_reducible apply s_seqN); exact (rfl : _ = [_, _])) | ((with_reducible apply b_var_d); rfl) | ((with_reducible apply b_var_o); rfl) | ((with_reducible apply b_fzv); rfl) | ((with_reducible apply b_fzvA); rfl) | ((with_reducible apply s_asgV); rfl) | ((with_reducible apply s_asgs); rfl) | ((with_reducible apply s_asgsD); rfl; first | assumption | exact Fr.un | exact Fr.dat | exact Fr.own) | ((with_reducible apply s_asgsO); rfl; first | assumption | exact Fr.un | exact Fr.dat | exact Fr.own) | ((with_reducible apply s_asgF); rfl; first | assumption | exact Fr.un | exact Fr.dat | exact Fr.own) | ((with_reducible apply s_asgFO); rfl; first | assumption | exact Fr.un | exact Fr.dat | exact Fr.own) | ((with_reducible apply s_storeV); rfl) | ((with_reducible apply s_storeK); rfl) | ((with_reducible apply b_methL); rfl) | ((with_reducible apply b_methV); rfl) | ((with_reducible apply b_mkTup); rfl; exact Nat.le_of_ble_eq_true rfl) | ((with_reducible apply b_mkLst); rfl; exact Nat.le_of_ble_eq_true rfl) | ((with_reducible apply f_sl); rfl) | ((with_reducible apply f_sld); rfl) | ((with_reducible apply x_mul); rfl; rfl; (first | omega | decide)) | ((with_reducible apply x_mod); rfl; rfl; decide) | ((with_reducible apply x_div); rfl; rfl; (first | omega | decide)) | ((with_reducible apply b_opV); rfl; rfl; rfl) | ((with_reducible apply b_unV); rfl; rfl) | ((with_reducible apply b_callV); rfl; rfl) | ((with_reducible apply b_callFP); rfl; rfl) | ((with_reducible apply b_rng1); (first | omega | decide)) | ((with_reducible apply b_rng2); (first | omega | decide)) | ((with_reducible apply s_tupG); rfl; rfl) | ((with_reducible apply b_fzvA); rfl) | ((with_reducible apply b_seqO); rfl) | ((with_reducible apply b_selK); rfl) | ((with_reducible apply way_t); rfl) | ((with_reducible apply way_f); rfl)))
/-- the places at which a value stands -/
def Log.own (l : Log) (v : Int) : List Nat := (l.zipIdx.filter fun p => decide (p.1.v = v)).map (·.2)
theorem enumL_map {β : Type} {f : β → D} {bs : List β} : enumL (bs.map f) = bs.zipIdx.map fun p => .tup [.int (p.2 : Nat), f p.1] := by
  unfold enumL
  rw [List.zipIdx_map, List.map_map]
  rfl
def natsD (ns : List Nat) : List D := ns.map fun n => .int (n : Nat)
end
section
local macro_rules
  | `(tactic| infer_instance) => `(tactic| (first | with_reducible refine b_op ?_ | with_reducible refine b_cb ?_ | with_reducible refine b_un ?_ | with_reducible refine b_call ?_ | with_reducible refine b_cons ?_ | with_reducible refine b_nil ?_ | with_reducible refine b_C ?_ | with_reducible refine b_tup ?_ | with_reducible refine b_lst ?_ | with_reducible refine b_fz ?_ | with_reducible refine b_nsl ?_ | with_reducible refine b_nslD ?_ | with_reducible refine b_nslF ?_ | with_reducible refine b_nslS ?_ | with_reducible refine b_tst ?_ | with_reducible refine b_bT ?_ | with_reducible refine b_not ?_ | with_reducible refine b_ok ?_ | with_reducible refine b_rng ?_ | with_reducible refine b_iseq ?_ | with_reducible refine b_yes ?_ | with_reducible refine s_skip ?_ | with_reducible refine s_drop ?_ | with_reducible refine s_ret ?_ | with_reducible refine s_retN ?_ | with_reducible refine s_break ?_ | with_reducible refine s_cont ?_ | with_reducible refine s_asg ?_ | with_reducible refine s_par ?_ | with_reducible refine s_tgt ?_ | with_reducible refine s_for ?_ | with_reducible refine s_loop ?_ | with_reducible refine s_store ?_ | with_reducible refine s_asgsN ?_ | with_reducible refine f_d ?_ | with_reducible refine f_fr ?_ | with_reducible refine b_sl ?_ | with_reducible refine b_oNone ?_ | with_reducible refine b_oSome ?_ | with_reducible refine b_oV ?_ | with_reducible refine b_isN ?_ | with_reducible refine b_notN ?_ | with_reducible refine b_isnD ?_ | with_reducible refine b_notnD ?_ | with_reducible refine b_ienu ?_ | with_reducible refine b_iany ?_ | with_reducible refine b_seqT ?_ | with_reducible refine s_gsCons ?_ | with_reducible refine s_gsNil ?_ | with_reducible refine b_seqL ?_ | with_reducible refine b_seqF ?_ | with_reducible refine b_callK ?_ | with_reducible refine b_blK ?_ | with_reducible refine b_dtK ?_ | with_reducible refine b_intK ?_ | with_reducible refine b_eAndK ?_ | with_reducible refine b_eOrK ?_ | with_reducible refine b_eNotK ?_ | with_reducible refine b_chainK ?_ | with_reducible refine b_andW ?_ | with_reducible refine b_orW ?_ | with_reducible refine b_eIfW ?_ | with_reducible refine s_ifW ?_ | with_reducible refine b_lcK ?_ | with_reducible refine b_sortScK ?_ | with_reducible refine b_dcK ?_ | with_reducible refine b_dcStepK ?_ | ((with_reducible apply b_pb); exact (rfl : _ = [_, _, _, _])) | ((with_reducible apply s_seqN); exact (rfl : _ = [_, _, _, _])) | ((with_reducible apply b_var_d); rfl) | ((with_reducible apply b_var_o); rfl) | ((with_reducible apply b_fzv); rfl) | ((with_reducible apply b_fzvA); rfl) | ((with_reducible apply s_asgV); rfl) | ((with_reducible apply s_asgs); rfl) | ((with_reducible apply s_asgsD); rfl; first | assumption | exact Fr.un | exact Fr.dat | exact Fr.own) | ((with_reducible apply s_asgsO); rfl; first | assumption | exact Fr.un | exact Fr.dat | exact Fr.own) | ((with_reducible apply s_asgF); rfl; first | assumption | exact Fr.un | exact Fr.dat | exact Fr.own) | ((with_reducible apply s_asgFO); rfl; first | assumption | exact Fr.un | exact Fr.dat | exact Fr.own) | ((with_reducible apply s_storeV); rfl) | ((with_reducible apply s_storeK); rfl) | ((with_reducible apply b_methL); rfl) | ((with_reducible apply b_methV); rfl) | ((with_reducible apply b_mkTup); rfl; exact Nat.le_of_ble_eq_true rfl) | ((with_reducible apply b_mkLst); rfl; exact Nat.le_of_ble_eq_true rfl) | ((with_reducible apply f_sl); rfl) | ((with_reducible apply f_sld); rfl) | ((with_reducible apply x_mul); rfl; rfl; (first | omega | decide)) | ((with_reducible apply x_mod); rfl; rfl; decide) | ((with_reducible apply x_div); rfl; rfl; (first | omega | decide)) | ((with_reducible apply b_opV); rfl; rfl; rfl) | ((with_reducible apply b_unV); rfl; rfl) | ((with_reducible apply b_callV); rfl; rfl) | ((with_reducible apply b_callFP); rfl; rfl) | ((with_reducible apply b_rng1); (first | omega | decide)) | ((with_reducible apply b_rng2); (first | omega | decide)) | ((with_reducible apply s_tupG); rfl; rfl) | ((with_reducible apply b_fzvA); rfl) | ((with_reducible apply b_seqO); rfl) | ((with_reducible apply b_selK); rfl) | ((with_reducible apply way_t); rfl) | ((with_reducible apply way_f); rfl)))
theorem natsD_len {ns : List Nat} : (natsD ns).length = ns.length := by unfold natsD; rw [List.length_map]
theorem x_idxLog {ρ : DEnv} {x y : Val} {Q : Val → DEnv → Prop} {X : Ex → DEnv → Prop} {l : Log} {i : Nat} {o : Op} (h1 : x.peek ρ = some l.d) (h2 : y.peek ρ = some (.int (i : Nat))) (e : l[i]? = some o) (q : Q (.d o.d) ρ) : (opV idxD x y ρ).wp Q X := by
  refine x_idxT (xs := l.map Op.d) h1 h2 ?_ q
  have hl := (List.getElem?_eq_some_iff.mp e).1
  unfold atI ixN
  rw [if_pos (by omega), if_pos (by rw [List.length_map]; omega)]
  show (l.map Op.d)[((i : Nat) : Int).toNat]? = _
  rw [Int.toNat_natCast, List.getElem?_map, e]
  rfl
end
section
local macro_rules
  | `(tactic| infer_instance) => `(tactic| (first | with_reducible refine b_op ?_ | with_reducible refine b_cb ?_ | with_reducible refine b_un ?_ | with_reducible refine b_call ?_ | with_reducible refine b_cons ?_ | with_reducible refine b_nil ?_ | with_reducible refine b_C ?_ | with_reducible refine b_tup ?_ | with_reducible refine b_lst ?_ | with_reducible refine b_fz ?_ | with_reducible refine b_nsl ?_ | with_reducible refine b_nslD ?_ | with_reducible refine b_nslF ?_ | with_reducible refine b_nslS ?_ | with_reducible refine b_tst ?_ | with_reducible refine b_bT ?_ | with_reducible refine b_not ?_ | with_reducible refine b_ok ?_ | with_reducible refine b_rng ?_ | with_reducible refine b_iseq ?_ | with_reducible refine b_yes ?_ | with_reducible refine s_skip ?_ | with_reducible refine s_drop ?_ | with_reducible refine s_ret ?_ | with_reducible refine s_retN ?_ | with_reducible refine s_break ?_ | with_reducible refine s_cont ?_ | with_reducible refine s_asg ?_ | with_reducible refine s_par ?_ | with_reducible refine s_tgt ?_ | with_reducible refine s_for ?_ | with_reducible refine s_loop ?_ | with_reducible refine s_store ?_ | with_reducible refine s_asgsN ?_ | with_reducible refine f_d ?_ | with_reducible refine f_fr ?_ | with_reducible refine b_sl ?_ | with_reducible refine b_oNone ?_ | with_reducible refine b_oSome ?_ | with_reducible refine b_oV ?_ | with_reducible refine b_isN ?_ | with_reducible refine b_notN ?_ | with_reducible refine b_isnD ?_ | with_reducible refine b_notnD ?_ | with_reducible refine b_ienu ?_ | with_reducible refine b_iany ?_ | with_reducible refine b_seqT ?_ | with_reducible refine s_gsCons ?_ | with_reducible refine s_gsNil ?_ | with_reducible refine b_seqL ?_ | with_reducible refine b_seqF ?_ | with_reducible refine b_callK ?_ | with_reducible refine b_blK ?_ | with_reducible refine b_dtK ?_ | with_reducible refine b_intK ?_ | with_reducible refine b_eAndK ?_ | with_reducible refine b_eOrK ?_ | with_reducible refine b_eNotK ?_ | with_reducible refine b_chainK ?_ | with_reducible refine b_andW ?_ | with_reducible refine b_orW ?_ | with_reducible refine b_eIfW ?_ | with_reducible refine s_ifW ?_ | with_reducible refine b_lcK ?_ | with_reducible refine b_sortScK ?_ | with_reducible refine b_dcK ?_ | with_reducible refine b_dcStepK ?_ | ((with_reducible apply b_pb); exact (rfl : _ = [_, _])) | ((with_reducible apply s_seqN); exact (rfl : _ = [_, _])) | ((with_reducible apply b_var_d); rfl) | ((with_reducible apply b_var_o); rfl) | ((with_reducible apply b_fzv); rfl) | ((with_reducible apply b_fzvA); rfl) | ((with_reducible apply s_asgV); rfl) | ((with_reducible apply s_asgs); rfl) | ((with_reducible apply s_asgsD); rfl; first | assumption | exact Fr.un | exact Fr.dat | exact Fr.own) | ((with_reducible apply s_asgsO); rfl; first | assumption | exact Fr.un | exact Fr.dat | exact Fr.own) | ((with_reducible apply s_asgF); rfl; first | assumption | exact Fr.un | exact Fr.dat | exact Fr.own) | ((with_reducible apply s_asgFO); rfl; first | assumption | exact Fr.un | exact Fr.dat | exact Fr.own) | ((with_reducible apply s_storeV); rfl) | ((with_reducible apply s_storeK); rfl) | ((with_reducible apply b_methL); rfl) | ((with_reducible apply b_methV); rfl) | ((with_reducible apply b_mkTup); rfl; exact Nat.le_of_ble_eq_true rfl) | ((with_reducible apply b_mkLst); rfl; exact Nat.le_of_ble_eq_true rfl) | ((with_reducible apply f_sl); rfl) | ((with_reducible apply f_sld); rfl) | ((with_reducible apply x_mul); rfl; rfl; (first | omega | decide)) | ((with_reducible apply x_mod); rfl; rfl; decide) | ((with_reducible apply x_div); rfl; rfl; (first | omega | decide)) | ((with_reducible apply b_opV); rfl; rfl; rfl) | ((with_reducible apply b_unV); rfl; rfl) | ((with_reducible apply b_callV); rfl; rfl) | ((with_reducible apply b_callFP); rfl; rfl) | ((with_reducible apply b_rng1); (first | omega | decide)) | ((with_reducible apply b_rng2); (first | omega | decide)) | ((with_reducible apply s_tupG); rfl; rfl) | ((with_reducible apply b_fzvA); rfl) | ((with_reducible apply b_seqO); rfl) | ((with_reducible apply b_selK); rfl) | ((with_reducible apply way_t); rfl) | ((with_reducible apply way_f); rfl)))
/-- one value is before another one -/
def Log.bef (l : Log) (t a b : Int) : Bool := decide (a ≠ b) && decide (l.fe a + t < l.lb b)
end
section
local macro_rules
  | `(tactic| infer_instance) => `(tactic| (first | with_reducible refine b_op ?_ | with_reducible refine b_cb ?_ | with_reducible refine b_un ?_ | with_reducible refine b_call ?_ | with_reducible refine b_cons ?_ | with_reducible refine b_nil ?_ | with_reducible refine b_C ?_ | with_reducible refine b_tup ?_ | with_reducible refine b_lst ?_ | with_reducible refine b_fz ?_ | with_reducible refine b_nsl ?_ | with_reducible refine b_nslD ?_ | with_reducible refine b_nslF ?_ | with_reducible refine b_nslS ?_ | with_reducible refine b_tst ?_ | with_reducible refine b_bT ?_ | with_reducible refine b_not ?_ | with_reducible refine b_ok ?_ | with_reducible refine b_rng ?_ | with_reducible refine b_iseq ?_ | with_reducible refine b_yes ?_ | with_reducible refine s_skip ?_ | with_reducible refine s_drop ?_ | with_reducible refine s_ret ?_ | with_reducible refine s_retN ?_ | with_reducible refine s_break ?_ | with_reducible refine s_cont ?_ | with_reducible refine s_asg ?_ | with_reducible refine s_par ?_ | with_reducible refine s_tgt ?_ | with_reducible refine s_for ?_ | with_reducible refine s_loop ?_ | with_reducible refine s_store ?_ | with_reducible refine s_asgsN ?_ | with_reducible refine f_d ?_ | with_reducible refine f_fr ?_ | with_reducible refine b_sl ?_ | with_reducible refine b_oNone ?_ | with_reducible refine b_oSome ?_ | with_reducible refine b_oV ?_ | with_reducible refine b_isN ?_ | with_reducible refine b_notN ?_ | with_reducible refine b_isnD ?_ | with_reducible refine b_notnD ?_ | with_reducible refine b_ienu ?_ | with_reducible refine b_iany ?_ | with_reducible refine b_seqT ?_ | with_reducible refine s_gsCons ?_ | with_reducible refine s_gsNil ?_ | with_reducible refine b_seqL ?_ | with_reducible refine b_seqF ?_ | with_reducible refine b_callK ?_ | with_reducible refine b_blK ?_ | with_reducible refine b_dtK ?_ | with_reducible refine b_intK ?_ | with_reducible refine b_eAndK ?_ | with_reducible refine b_eOrK ?_ | with_reducible refine b_eNotK ?_ | with_reducible refine b_chainK ?_ | with_reducible refine b_andW ?_ | with_reducible refine b_orW ?_ | with_reducible refine b_eIfW ?_ | with_reducible refine s_ifW ?_ | with_reducible refine b_lcK ?_ | with_reducible refine b_sortScK ?_ | with_reducible refine b_dcK ?_ | with_reducible refine b_dcStepK ?_ | ((with_reducible apply b_pb); exact (rfl : _ = [_, _, _, _])) | ((with_reducible apply s_seqN); exact (rfl : _ = [_, _, _, _])) | ((with_reducible apply b_var_d); rfl) | ((with_reducible apply b_var_o); rfl) | ((with_reducible apply b_fzv); rfl) | ((with_reducible apply b_fzvA); rfl) | ((with_reducible apply s_asgV); rfl) | ((with_reducible apply s_asgs); rfl) | ((with_reducible apply s_asgsD); rfl; first | assumption | exact Fr.un | exact Fr.dat | exact Fr.own) | ((with_reducible apply s_asgsO); rfl; first | assumption | exact Fr.un | exact Fr.dat | exact Fr.own) | ((with_reducible apply s_asgF); rfl; first | assumption | exact Fr.un | exact Fr.dat | exact Fr.own) | ((with_reducible apply s_asgFO); rfl; first | assumption | exact Fr.un | exact Fr.dat | exact Fr.own) | ((with_reducible apply s_storeV); rfl) | ((with_reducible apply s_storeK); rfl) | ((with_reducible apply b_methL); rfl) | ((with_reducible apply b_methV); rfl) | ((with_reducible apply b_mkTup); rfl; exact Nat.le_of_ble_eq_true rfl) | ((with_reducible apply b_mkLst); rfl; exact Nat.le_of_ble_eq_true rfl) | ((with_reducible apply f_sl); rfl) | ((with_reducible apply f_sld); rfl) | ((with_reducible apply x_mul); rfl; rfl; (first | omega | decide)) | ((with_reducible apply x_mod); rfl; rfl; decide) | ((with_reducible apply x_div); rfl; rfl; (first | omega | decide)) | ((with_reducible apply b_opV); rfl; rfl; rfl) | ((with_reducible apply b_unV); rfl; rfl) | ((with_reducible apply b_callV); rfl; rfl) | ((with_reducible apply b_callFP); rfl; rfl) | ((with_reducible apply b_rng1); (first | omega | decide)) | ((with_reducible apply b_rng2); (first | omega | decide)) | ((with_reducible apply s_tupG); rfl; rfl) | ((with_reducible apply b_fzvA); rfl) | ((with_reducible apply b_seqO); rfl) | ((with_reducible apply b_selK); rfl) | ((with_reducible apply way_t); rfl) | ((with_reducible apply way_f); rfl)))
end
end CM
set_option maxHeartbeats 1000000
namespace CM
open PySem PySem.Spec PyProof.Rows L2 DL
section
variable {ρ ρ' : DEnv} {Q : Val → DEnv → Prop} {QI : Src → DEnv → Prop} {X : Ex → DEnv → Prop} {xs : List Val} {x y : Val} {l : Log} {i : Nat}
theorem b_seqLog (q : QI (l.map Op.d, none) ρ) : (seqSrc (.d l.d) ρ).wp QI X := q
instance st_b_seqLog : St ((seqSrc (.d l.d) ρ).wp QI X) (QI (l.map Op.d, none) ρ) := ⟨b_seqLog⟩
theorem b_seqLogS (e : ρ[i]? = some (.d l.d)) (q : QI (l.map Op.d, none) ρ) : (seqSrc (.sl i) ρ).wp QI X := seqS_tup e q
theorem x_lenLog (h1 : peekL ρ xs = some [l.d]) (q : Q (.d (.int (l.length : Nat))) ρ) : (callV lenD xs ρ).wp Q X := by
  refine b_callV h1 ?_ q
  show some (Val.d (.int ((l.map Op.d).length : Nat))) = _
  rw [List.length_map]
/-- the operation at an index -/
def IdxK (l : Log) (i : Nat) (Q : Val → DEnv → Prop) (ρ : DEnv) : Prop := ∃ o, l[i]? = some o ∧ Q (.d o.d) ρ
theorem b_idxK {o : Op} (e : l[i]? = some o) (q : Q (.d o.d) ρ) : IdxK l i Q ρ := ⟨o, e, q⟩
instance st_idxLog : St ((opV idxD (.d l.d) (.d (.int (i : Nat))) ρ).wp Q X) (IdxK l i Q ρ) := ⟨fun ⟨o, e, q⟩ => x_idxLog rfl rfl e q⟩
theorem cut_tail {α : Type} {a : α} {ds : List α} : DL.cutD (a :: ds) (some 1) none = ds := by
  unfold DL.cutD HT.sIx
  simp
theorem cut_ini2 {α : Type} {a b : α} {ds : List α} : DL.cutD (a :: b :: ds) none (some 2) = [a, b] := by
  unfold DL.cutD HT.sIx
  simp
theorem x_tailT {a : D} {ds : List D} (h1 : x.peek ρ = some (.tup (a :: ds))) (q : Q (.d (.tup ds)) ρ) : (unV (fun d => sliceD d (some 1) none) x ρ).wp Q X :=
  b_unV h1 (show some (Val.d (.tup (DL.cutD (a :: ds) (some 1) none))) = _ by rw [cut_tail]) q
theorem x_tailL {a : D} {ds : List D} (h1 : x.peek ρ = some (.lst (a :: ds))) (q : Q (.fr (.lst ds)) ρ) : (unV (fun d => sliceD d (some 1) none) x ρ).wp Q X :=
  b_unV h1 (show some (Val.fr (.lst (DL.cutD (a :: ds) (some 1) none))) = _ by rw [cut_tail]) q
theorem x_ini2 {a b : D} {ds : List D} (h1 : x.peek ρ = some (.tup (a :: b :: ds))) (q : Q (.d (.tup [a, b])) ρ) : (unV (fun d => sliceD d none (some 2)) x ρ).wp Q X :=
  b_unV h1 (show some (Val.d (.tup (DL.cutD (a :: b :: ds) none (some 2)))) = _ by rw [cut_ini2]) q
theorem b_anyDI {ks : List Int} {vs : List D} (e : x.peek ρ = some (.dic (ikeys ks) vs)) (e2 : x.fzA ρ = .ok (.d (.dic (ikeys ks) vs)) ρ') (q : QI (ks.map D.int, none) ρ') : (anySrc x ρ).wp QI X := b_anyDic e e2 (by rw [keys_ints]; exact q)
theorem blsD_map {β : Type} {p : β → Bool} {bs : List β} : blsD (bs.map fun b => D.bl (p b)) = some (bs.map p) := by
  rw [show (bs.map fun b => D.bl (p b)) = (bs.map p).map D.bl from by rw [List.map_map]; rfl]
  exact bls_map _
theorem x_allM {β : Type} {p : β → Bool} {bs : List β} (h1 : peekL ρ xs = some [.lst (bs.map fun b => D.bl (p b))]) (q : Q (.d (.bl (bs.all p))) ρ) : (callV allD xs ρ).wp Q X := by
  refine b_callV h1 ?_ q
  show (blsD _).map _ = _
  rw [blsD_map]
  show some (Val.d (.bl ((bs.map p).all id))) = _
  rw [List.all_map]; rfl
theorem x_anyM {β : Type} {p : β → Bool} {bs : List β} (h1 : peekL ρ xs = some [.lst (bs.map fun b => D.bl (p b))]) (q : Q (.d (.bl (bs.any p))) ρ) : (callV anyD xs ρ).wp Q X := by
  refine b_callV h1 ?_ q
  show (blsD _).map _ = _
  rw [blsD_map]
  show some (Val.d (.bl ((bs.map p).any id))) = _
  rw [List.any_map]; rfl
theorem intsD_mapf {β : Type} {p : β → Int} {bs : List β} : intsD (bs.map fun b => D.int (p b)) = some (bs.map p) := by
  rw [show (bs.map fun b => D.int (p b)) = (bs.map p).map D.int from by rw [List.map_map]; rfl]
  exact intsD_map _
theorem x_sumM {β : Type} {p : β → Int} {bs : List β} (h1 : peekL ρ xs = some [.lst (bs.map fun b => D.int (p b))]) (q : Q (.d (.int (bs.map p).sum)) ρ) : (callV sumD xs ρ).wp Q X := by
  refine b_callV h1 ?_ q
  show (intsD _).map _ = _
  rw [intsD_mapf]; rfl
theorem x_lenM {β : Type} {f : β → D} {bs : List β} (h1 : peekL ρ xs = some [.lst (bs.map f)]) (q : Q (.d (.int (bs.length : Nat))) ρ) : (callV lenD xs ρ).wp Q X := by
  refine b_callV h1 ?_ q
  show some (Val.d (.int ((bs.map f).length : Nat))) = _
  rw [List.length_map]
theorem x_lenMT {β : Type} {f : β → D} {bs : List β} (h1 : peekL ρ xs = some [.tup (bs.map f)]) (q : Q (.d (.int (bs.length : Nat))) ρ) : (callV lenD xs ρ).wp Q X := by
  refine b_callV h1 ?_ q
  show some (Val.d (.int ((bs.map f).length : Nat))) = _
  rw [List.length_map]
theorem k_write {o : Op} : decide (o.k = ("write" : Str)) = o.w := by
  obtain ⟨w, v, b, e⟩ := o; cases w
  · show decide (("read" : Str) = "write") = false; decide
  · show decide (("write" : Str) = "write") = true; decide
theorem k_read {o : Op} : decide (o.k = ("read" : Str)) = !o.w := by
  obtain ⟨w, v, b, e⟩ := o; cases w
  · show decide (("read" : Str) = "read") = !false; decide
  · show decide (("write" : Str) = "read") = !true; decide
theorem x_eqKw {o : Op} (h1 : x.peek ρ = some (.str o.k)) (h2 : y.peek ρ = some (.str "write")) (q : Q (.d (.bl o.w)) ρ) : (opV eqV' x y ρ).wp Q X := x_eq (k := decide (o.k = ("write" : Str))) h1 h2 rfl (by rw [k_write]; exact q)
theorem x_eqKr {o : Op} (h1 : x.peek ρ = some (.str o.k)) (h2 : y.peek ρ = some (.str "read")) (q : Q (.d (.bl !o.w)) ρ) : (opV eqV' x y ρ).wp Q X := x_eq (k := decide (o.k = ("read" : Str))) h1 h2 rfl (by rw [k_read]; exact q)
theorem x_neKw {o : Op} (h1 : x.peek ρ = some (.str o.k)) (h2 : y.peek ρ = some (.str "write")) (q : Q (.d (.bl !o.w)) ρ) : (opV neV' x y ρ).wp Q X := x_ne (k := decide (o.k = ("write" : Str))) h1 h2 rfl (by rw [k_write]; exact q)
theorem x_neKr {o : Op} (h1 : x.peek ρ = some (.str o.k)) (h2 : y.peek ρ = some (.str "read")) (q : Q (.d (.bl o.w)) ρ) : (opV neV' x y ρ).wp Q X := x_ne (k := decide (o.k = ("read" : Str))) h1 h2 rfl (by rw [k_read, Bool.not_not]; exact q)
instance st_x_eqKw {o : Op} : St ((opV eqV' (.d (.str o.k)) (.d (.str ("write" : Str))) ρ).wp Q X) (Q (.d (.bl (o.w))) ρ) := ⟨fun q => x_eqKw rfl rfl q⟩
instance st_x_eqKr {o : Op} : St ((opV eqV' (.d (.str o.k)) (.d (.str ("read" : Str))) ρ).wp Q X) (Q (.d (.bl (!o.w))) ρ) := ⟨fun q => x_eqKr rfl rfl q⟩
instance st_x_neKw {o : Op} : St ((opV neV' (.d (.str o.k)) (.d (.str ("write" : Str))) ρ).wp Q X) (Q (.d (.bl (!o.w))) ρ) := ⟨fun q => x_neKw rfl rfl q⟩
instance st_x_neKr {o : Op} : St ((opV neV' (.d (.str o.k)) (.d (.str ("read" : Str))) ρ).wp Q X) (Q (.d (.bl (o.w))) ρ) := ⟨fun q => x_neKr rfl rfl q⟩
def lenSetV (x : Val) : EM := unV (fun x => (setI x).map fun ns => .d (.int ((sortSetI ns).length : Nat))) x
def sortSetV (x : Val) : EM := unV (fun x => (setI x).map fun ns => .fr (.lst ((sortSetI ns).map D.int))) x
theorem b_lenSet {f : EM} (q : (f ρ).wp (fun x ρ1 => (lenSetV x ρ1).wp Q X) X) : (eLenSet f ρ).wp Q X := b_un q
theorem b_sortSet {f : EM} (q : (f ρ).wp (fun x ρ1 => (sortSetV x ρ1).wp Q X) X) : (eSortSet f ρ).wp Q X := b_un q
instance st_b_lenSet {f : EM} : St ((eLenSet f ρ).wp Q X) ((f ρ).wp (fun x ρ1 => (lenSetV x ρ1).wp Q X) X) := ⟨b_lenSet⟩
instance st_b_sortSet {f : EM} : St ((eSortSet f ρ).wp Q X) ((f ρ).wp (fun x ρ1 => (sortSetV x ρ1).wp Q X) X) := ⟨b_sortSet⟩
end
end CM
local macro_rules
  | `(tactic| case orE => $s:tacticSeq) => do
    let a := s.raw[0][0].getSepArgs
    if a.size ≤ 1 then Lean.Macro.throwUnsupported
    let b : Array (Lean.TSyntax `tactic) := (a.extract ((a.size + 1) / 2) a.size).map (fun x => ⟨x⟩)
    if b.size = 1 then return b[0]! else `(tactic| case orE => $[$b]*)
local macro_rules
  | `(tactic| case orE => $s:tacticSeq) => do
    let a := s.raw[0][0].getSepArgs
    let b : Array (Lean.TSyntax `tactic) := (a.extract 0 ((a.size + 1) / 2)).map (fun x => ⟨x⟩)
    if b.size = 1 then return b[0]! else `(tactic| case orE => $[$b]*)
local macro_rules
  | `(tactic| fail $n:str) => do
    unless n.getString.startsWith "WU" do Lean.Macro.throwUnsupported
    let w := (((n.getString.splitOn "WU").getD 1 "").splitOn "/").map String.toNat!
    match w with
    | [lo, hi, k] => if hi ≤ lo + 1 then Lean.Macro.throwUnsupported else `(tactic| fail $(Lean.quote s!"WU{(lo + hi + 1) / 2}/{hi}/{k}"))
    | _ => Lean.Macro.throwUnsupported
local macro_rules
  | `(tactic| fail $n:str) => do
    unless n.getString.startsWith "WU" do Lean.Macro.throwUnsupported
    let w := (((n.getString.splitOn "WU").getD 1 "").splitOn "/").map String.toNat!
    match w with
    | [k] => `(tactic| fail $(Lean.quote s!"WU0/20/{k}"))
    | [lo, hi, k] =>
      let mk := fun (a b : Nat) => (Lean.quote s!"WU{a}/{b}/{k}" : Lean.TSyntax `str)
      if lo + 1 < hi then `(tactic| fail $(mk lo ((lo + hi + 1) / 2))) else
      let us : Array (Lean.TSyntax `term) := Array.replicate (if lo ∈ [3, 58, 73, 83] then k else 0) (← `(_))
      match lo with
      | 0 => `(tactic| (with_reducible refine DL.St.ap ?_))
      | 1 => `(tactic| ((with_reducible change DL.R.wp _ _ _); fail $(mk 20 73)))
      | 2 => `(tactic| ((with_reducible change DL.RS.wp _ _); fail $(mk 73 84)))
      | 3 => `(tactic| ((with_reducible refine DL.b_pb (by with_unfolding_all exact (rfl : _ = [$us,*])) ?_)))
      | 4 => `(tactic| ((with_reducible refine DL.b_isDK (by with_unfolding_all exact rfl) ?_)))
      | 5 => `(tactic| ((with_reducible refine DL.s_storeK (by with_unfolding_all exact rfl) ?_)))
      | 6 => `(tactic| ((with_reducible refine DL.b_selK (by with_unfolding_all exact rfl) ?_)))
      | 7 => `(tactic| (with_reducible refine CM.way_eq ?_))
      | 8 => `(tactic| (with_reducible refine CM.way_eq' ?_))
      | 9 => `(tactic| ((with_reducible refine DL.way_t (by decide +kernel) ?_)))
      | 10 => `(tactic| ((with_reducible refine DL.way_f (by decide +kernel) ?_)))
      | 11 => `(tactic| ((with_reducible refine DL.way_t (by (first | with_unfolding_all exact rfl | assumption | (simp only [decide_eq_true_eq, decide_eq_false_iff_not, Bool.not_eq_true', Bool.not_eq_false', Bool.and_eq_true, Bool.or_eq_true]; first | assumption | omega))) ?_)))
      | 12 => `(tactic| ((with_reducible refine DL.way_f (by (first | with_unfolding_all exact rfl | assumption | (simp only [decide_eq_true_eq, decide_eq_false_iff_not, Bool.not_eq_true', Bool.not_eq_false', Bool.and_eq_true, Bool.or_eq_true]; first | assumption | omega))) ?_)))
      | 13 => `(tactic| ((with_reducible refine DL.b_compK (by with_unfolding_all exact rfl) (by (first | ((try simp only [List.length_map, List.length_range, List.length_zipIdx, DL.enumL_len, List.length_cons, List.length_nil, List.length_append, List.length_replicate, List.length_take, List.length_drop, CM.natsD_len]); omega) | decide)) ?_)))
      | 14 => `(tactic| (with_reducible refine DL.b_itV (by with_unfolding_all exact rfl)))
      | 15 => `(tactic| (with_reducible refine DL.b_diV ?_))
      | 16 => `(tactic| ((with_reducible refine DL.b_diK (by with_unfolding_all exact rfl) (fun hk => ?_))))
      | 17 => `(tactic| ((with_reducible refine DL.b_itK (by with_unfolding_all exact rfl) (fun hk => ?_))))
      | 18 => `(tactic| ((with_reducible change DL.RF.wp _ _ _); fail $(mk 84 86)))
      | 19 => `(tactic| ((with_reducible change DL.GRS.wp _ _); fail $(mk 86 87)))
      | 20 => `(tactic| ((with_reducible refine DL.b_var_d (by with_unfolding_all exact rfl) ?_)))
      | 21 => `(tactic| ((with_reducible refine DL.b_var_o (by with_unfolding_all exact rfl) ?_)))
      | 22 => `(tactic| ((with_reducible refine CM.b_seqLogS (by with_unfolding_all exact rfl) ?_)))
      | 23 => `(tactic| ((with_reducible refine CM.x_lenLog (by with_unfolding_all exact rfl) ?_)))
      | 24 => `(tactic| ((with_reducible refine CM.x_tailT (by with_unfolding_all exact rfl) ?_)))
      | 25 => `(tactic| ((with_reducible refine CM.x_tailL (by with_unfolding_all exact rfl) ?_)))
      | 26 => `(tactic| ((with_reducible refine CM.x_ini2 (by with_unfolding_all exact rfl) ?_)))
      | 27 => `(tactic| ((with_reducible refine CM.x_allM (by with_unfolding_all exact rfl) ?_)))
      | 28 => `(tactic| ((with_reducible refine CM.x_anyM (by with_unfolding_all exact rfl) ?_)))
      | 29 => `(tactic| ((with_reducible refine CM.x_sumM (by with_unfolding_all exact rfl) ?_)))
      | 30 => `(tactic| ((with_reducible refine CM.x_lenM (by with_unfolding_all exact rfl) ?_)))
      | 31 => `(tactic| ((with_reducible refine CM.x_lenMT (by with_unfolding_all exact rfl) ?_)))
      | 32 => `(tactic| ((with_reducible refine DL.x_inD (by with_unfolding_all exact rfl) (by with_unfolding_all exact rfl) ?_)))
      | 33 => `(tactic| ((with_reducible refine DL.x_ninD (by with_unfolding_all exact rfl) (by with_unfolding_all exact rfl) ?_)))
      | 34 => `(tactic| ((with_reducible refine DL.x_inI (by with_unfolding_all exact rfl) (by with_unfolding_all exact rfl) ?_)))
      | 35 => `(tactic| ((with_reducible refine DL.x_ninI (by with_unfolding_all exact rfl) (by with_unfolding_all exact rfl) ?_)))
      | 36 => `(tactic| ((with_reducible refine DL.x_inIT (by with_unfolding_all exact rfl) (by with_unfolding_all exact rfl) ?_)))
      | 37 => `(tactic| ((with_reducible refine DL.x_ninIT (by with_unfolding_all exact rfl) (by with_unfolding_all exact rfl) ?_)))
      | 38 => `(tactic| ((with_reducible refine DL.x_getV (by with_unfolding_all exact rfl) (by with_unfolding_all exact rfl) ?_)))
      | 39 => `(tactic| ((with_reducible refine CM.b_anyDI (by with_unfolding_all exact rfl) (by with_unfolding_all exact rfl) ?_)))
      | 40 => `(tactic| ((with_reducible refine DL.b_anySeq (by with_unfolding_all exact rfl) ?_)))
      | 41 => `(tactic| ((with_reducible refine DL.b_igenV (by with_unfolding_all exact rfl) ?_)))
      | 42 => `(tactic| ((with_reducible refine DL.b_fzv (by with_unfolding_all exact rfl) ?_)))
      | 43 => `(tactic| ((with_reducible refine DL.b_fzvA (by with_unfolding_all exact rfl) ?_)))
      | 44 => `(tactic| ((with_reducible refine DL.b_methL (by with_unfolding_all exact rfl) ?_)))
      | 45 => `(tactic| ((with_reducible refine DL.b_methV (by with_unfolding_all exact rfl) ?_)))
      | 46 => `(tactic| ((with_reducible refine DL.b_mkTup (by with_unfolding_all exact rfl) (by with_unfolding_all exact Nat.le_of_ble_eq_true rfl) ?_)))
      | 47 => `(tactic| ((with_reducible refine DL.b_mkLst (by with_unfolding_all exact rfl) (by with_unfolding_all exact Nat.le_of_ble_eq_true rfl) ?_)))
      | 48 => `(tactic| ((with_reducible refine DL.x_mul (by with_unfolding_all exact rfl) (by with_unfolding_all exact rfl) (by (first | omega | decide)) ?_)))
      | 49 => `(tactic| ((with_reducible refine DL.x_mod (by with_unfolding_all exact rfl) (by with_unfolding_all exact rfl) (by decide) ?_)))
      | 50 => `(tactic| ((with_reducible refine DL.x_div (by with_unfolding_all exact rfl) (by with_unfolding_all exact rfl) (by (first | omega | decide)) ?_)))
      | 51 => `(tactic| ((with_reducible refine DL.b_unV (by with_unfolding_all exact rfl) (by with_unfolding_all exact rfl) ?_)))
      | 52 => `(tactic| ((with_reducible refine DL.b_callV (by with_unfolding_all exact rfl) (by with_unfolding_all exact rfl) ?_)))
      | 53 => `(tactic| ((with_reducible refine DL.b_callFP (by with_unfolding_all exact rfl) (by with_unfolding_all exact rfl) ?_)))
      | 54 => `(tactic| ((with_reducible refine DL.b_rng1 (by (first | omega | decide)) ?_)))
      | 55 => `(tactic| ((with_reducible refine DL.b_rng2 (by (first | omega | decide)) ?_)))
      | 56 => `(tactic| ((with_reducible refine DL.b_fzvA (by with_unfolding_all exact rfl) ?_)))
      | 57 => `(tactic| ((with_reducible refine DL.b_seqO (by with_unfolding_all exact rfl) ?_)))
      | 58 => `(tactic| (((with_reducible refine DL.compN (by with_unfolding_all exact ((rfl : _ = [$us,*]))) ?_); (first | with_reducible refine DL.comp_nil ?_ | with_reducible refine DL.comp_cons0 ?_ | with_reducible refine DL.comp_cons ?_ | ((with_reducible refine' DL.comp_all (fun b hb => ?_) ?_); rotate_left) | ((with_reducible refine' DL.comp_mapK (fun b hb => ?_) ?_); rotate_left 2)))))
      | 59 => `(tactic| ((with_reducible refine DL.b_opV (op := DL.idxD) (by with_unfolding_all exact rfl) (by with_unfolding_all exact rfl) (by with_unfolding_all exact rfl) ?_)))
      | 60 => `(tactic| ((with_reducible refine DL.b_opV (op := DL.addD) (by with_unfolding_all exact rfl) (by with_unfolding_all exact rfl) (by with_unfolding_all exact rfl) ?_)))
      | 61 => `(tactic| ((with_reducible refine DL.b_opV (op := DL.subD) (by with_unfolding_all exact rfl) (by with_unfolding_all exact rfl) (by with_unfolding_all exact rfl) ?_)))
      | 62 => `(tactic| ((with_reducible refine DL.b_opV (op := DL.ltD) (by with_unfolding_all exact rfl) (by with_unfolding_all exact rfl) (by with_unfolding_all exact rfl) ?_)))
      | 63 => `(tactic| ((with_reducible refine DL.b_opV (op := DL.leD) (by with_unfolding_all exact rfl) (by with_unfolding_all exact rfl) (by with_unfolding_all exact rfl) ?_)))
      | 64 => `(tactic| ((with_reducible refine DL.b_opV (op := DL.gtD) (by with_unfolding_all exact rfl) (by with_unfolding_all exact rfl) (by with_unfolding_all exact rfl) ?_)))
      | 65 => `(tactic| ((with_reducible refine DL.b_opV (op := DL.geD) (by with_unfolding_all exact rfl) (by with_unfolding_all exact rfl) (by with_unfolding_all exact rfl) ?_)))
      | 66 => `(tactic| ((with_reducible refine DL.b_opV (op := DL.powD) (by with_unfolding_all exact rfl) (by with_unfolding_all exact rfl) (by with_unfolding_all exact rfl) ?_)))
      | 67 => `(tactic| ((with_reducible refine DL.b_opV (op := DL.inD) (by with_unfolding_all exact rfl) (by with_unfolding_all exact rfl) (by with_unfolding_all exact rfl) ?_)))
      | 68 => `(tactic| ((with_reducible refine DL.b_opV (op := DL.ninD) (by with_unfolding_all exact rfl) (by with_unfolding_all exact rfl) (by with_unfolding_all exact rfl) ?_)))
      | 69 => `(tactic| ((with_reducible refine DL.b_opV (op := DL.isBD) (by with_unfolding_all exact rfl) (by with_unfolding_all exact rfl) (by with_unfolding_all exact rfl) ?_)))
      | 70 => `(tactic| ((with_reducible refine DL.b_opV (op := DL.isnotBD) (by with_unfolding_all exact rfl) (by with_unfolding_all exact rfl) (by with_unfolding_all exact rfl) ?_)))
      | 71 => `(tactic| ((with_reducible refine DL.b_opV (op := DL.lrgD) (by with_unfolding_all exact rfl) (by with_unfolding_all exact rfl) (by with_unfolding_all exact rfl) ?_)))
      | 72 => `(tactic| ((with_reducible refine DL.b_opV (op := DL.trgD) (by with_unfolding_all exact rfl) (by with_unfolding_all exact rfl) (by with_unfolding_all exact rfl) ?_)))
      | 73 => `(tactic| ((with_reducible refine DL.s_seqNW (by with_unfolding_all exact (rfl : _ = [$us,*])) ?_)))
      | 74 => `(tactic| ((with_reducible refine DL.s_tupGL (by with_unfolding_all exact rfl) (by with_unfolding_all exact rfl) ?_)))
      | 75 => `(tactic| ((with_reducible refine DL.s_asgV (by with_unfolding_all exact rfl) ?_)))
      | 76 => `(tactic| ((with_reducible refine DL.s_asgs (by with_unfolding_all exact rfl) ?_)))
      | 77 => `(tactic| ((with_reducible refine DL.s_asgsD (by with_unfolding_all exact rfl) (by first | assumption | exact DL.Fr.un | exact DL.Fr.dat | exact DL.Fr.own) ?_)))
      | 78 => `(tactic| ((with_reducible refine DL.s_asgsO (by with_unfolding_all exact rfl) (by first | assumption | exact DL.Fr.un | exact DL.Fr.dat | exact DL.Fr.own) ?_)))
      | 79 => `(tactic| ((with_reducible refine DL.s_asgF (by with_unfolding_all exact rfl) (by first | assumption | exact DL.Fr.un | exact DL.Fr.dat | exact DL.Fr.own) ?_)))
      | 80 => `(tactic| ((with_reducible refine DL.s_asgFO (by with_unfolding_all exact rfl) (by first | assumption | exact DL.Fr.un | exact DL.Fr.dat | exact DL.Fr.own) ?_)))
      | 81 => `(tactic| ((with_reducible refine DL.s_storeV (by with_unfolding_all exact rfl) ?_)))
      | 82 => `(tactic| ((with_reducible refine DL.s_tupG (by with_unfolding_all exact rfl) (by with_unfolding_all exact rfl) ?_)))
      | 83 => `(tactic| (((with_reducible refine DL.loopN (by with_unfolding_all exact ((rfl : _ = [$us,*]))) ?_); (first | with_reducible refine DL.loop_nil ?_ | with_reducible refine DL.loop_consW ?_))))
      | 84 => `(tactic| ((with_reducible refine DL.f_sl (by with_unfolding_all exact rfl) ?_)))
      | 85 => `(tactic| ((with_reducible refine DL.f_sld (by with_unfolding_all exact rfl) ?_)))
      | 86 => `(tactic| ((with_reducible refine DL.g_yield (by omega) ?_)))
      | _ => Lean.Macro.throwUnsupported
    | _ => Lean.Macro.throwUnsupported
namespace CM
open PySem PySem.Spec PyProof.Rows L2 DL
end CM
set_option maxHeartbeats 1000000
namespace CM
open PySem PySem.Spec PyProof.Rows L2 DL
end CM
set_option maxHeartbeats 1000000
namespace CM
open PySem PySem.Spec PyProof.Rows L2 DL
/-! what the faults of a log are -/
instance : Inhabited Op := ⟨⟨false, 0, 0, 0⟩⟩
def Log.at (l : Log) (i : Nat) : Op := l.getD i default
theorem at_get {l : Log} {i : Nat} (h : i < l.length) : l[i]? = some (l.at i) := by
  unfold Log.at
  rw [List.getD_eq_getElem?_getD, List.getElem?_eq_getElem h]; rfl
theorem at_of {l : Log} {i : Nat} {o : Op} (h : l[i]? = some o) : l.at i = o := by
  unfold Log.at
  rw [List.getD_eq_getElem?_getD, h]; rfl
/-- the index of the write of a value -/
def Log.wix (l : Log) (v : Int) : Nat := l.findIdx fun o => o.w && decide (o.v = v)
theorem mem_wr {l : Log} {v : Int} : v ∈ l.wr ↔ ∃ o ∈ l, o.w = true ∧ o.v = v := by
  unfold Log.wr
  rw [List.mem_map]
  constructor
  · rintro ⟨o, h, rfl⟩
    obtain ⟨h1, h2⟩ := List.mem_filter.mp h
    exact ⟨o, h1, h2, rfl⟩
  · rintro ⟨o, h1, h2, rfl⟩
    exact ⟨o, List.mem_filter.mpr ⟨h1, h2⟩, rfl⟩
theorem wix_at {l : Log} {v : Int} (h : v ∈ l.wr) : l.wix v < l.length ∧ (l.at (l.wix v)).w = true ∧ (l.at (l.wix v)).v = v := by
  obtain ⟨o, h1, h2, h3⟩ := mem_wr.mp h
  have hl : l.wix v < l.length := List.findIdx_lt_length_of_exists ⟨o, h1, by simp [h2, h3]⟩
  refine ⟨hl, ?_⟩
  have := List.findIdx_getElem (xs := l) (p := fun o : Op => o.w && decide (o.v = v)) (w := hl)
  have e : l.at (l.wix v) = l[l.wix v] := at_of (List.getElem?_eq_getElem hl)
  rw [e]
  simp only [Bool.and_eq_true, decide_eq_true_eq] at this
  exact this
/-- writes at two indexes are of two values -/
theorem wr_inj : ∀ {l : Log} {i j : Nat} {a b : Op}, (Log.wr l).Nodup → l[i]? = some a → l[j]? = some b → a.w = true → b.w = true → a.v = b.v → i = j
  | [], i, j, a, b, _, h, _, _, _, _ => by simp at h
  | o :: l, i, j, a, b, nd, h1, h2, w1, w2, e => by
    have sub : (Log.wr l).Nodup := by
      unfold Log.wr at nd ⊢
      rw [List.filter_cons] at nd
      split at nd
      · rw [List.map_cons, List.nodup_cons] at nd; exact nd.2
      · exact nd
    have no : ∀ {k : Nat} {c : Op}, l[k]? = some c → c.w = true → o.w = true → o.v = c.v → False := fun {k c} hk hw ow ev => by
      unfold Log.wr at nd
      rw [List.filter_cons, if_pos ow, List.map_cons, List.nodup_cons] at nd
      exact nd.1 (List.mem_map.mpr ⟨c, List.mem_filter.mpr ⟨List.mem_of_getElem? hk, hw⟩, ev.symm⟩)
    cases i with
    | zero =>
      cases j with
      | zero => rfl
      | succ j =>
        have h1 : o = a := by simpa using h1
        subst h1
        exact (no (k := j) (by simpa using h2) w2 w1 e).elim
    | succ i =>
      cases j with
      | zero =>
        have h2 : o = b := by simpa using h2
        subst h2
        exact (no (k := i) (by simpa using h1) w1 w2 e.symm).elim
      | succ j => exact congrArg (· + 1) (wr_inj sub (by simpa using h1) (by simpa using h2) w1 w2 e)
theorem wix_of {l : Log} {i : Nat} {o : Op} (nd : l.wr.Nodup) (h : l[i]? = some o) (hw : o.w = true) : l.wix o.v = i := by
  obtain ⟨h1, h2, h3⟩ := wix_at (mem_wr.mpr ⟨o, List.mem_of_getElem? h, hw, rfl⟩)
  exact wr_inj nd (at_get h1) h h2 hw h3
inductive Flt where
  | unw (r : Nat) | early (r w : Nat) | crossed (a b c d : Nat) | late (c d : Nat)
  deriving DecidableEq
def nD (n : Nat) : D := .int (n : Nat)
def Flt.d : Flt → D
  | .unw r => .tup [.str "unwritten", .int (r : Nat)]
  | .early r w => .tup [.str "early", .int (r : Nat), .int (w : Nat)]
  | .crossed a b c d => .tup [.str "crossed", .int (a : Nat), .int (b : Nat), .int (c : Nat), .int (d : Nat)]
  | .late c d => .tup [.str "late", .int (c : Nat), .int (d : Nat)]
def Flt.ixs : Flt → List Nat
  | .unw r => [r]
  | .early r w => [r, w]
  | .crossed a b c d => [a, b, c, d]
  | .late c d => [c, d]
def Flt.In (n : Nat) (f : Flt) : Prop := ∀ i ∈ f.ixs, i < n
def sureB (l : Log) (t : Int) (i j : Nat) : Bool := decide ((l.at i).e + t < (l.at j).b)
/-- whether it is a fault, its indexes given -/
def Flt.is (l : Log) (t : Int) : Flt → Bool
  | .unw r => !(l.at r).w && decide ((l.at r).v ≠ 0) && !decide ((l.at r).v ∈ l.wr)
  | .early r w => !(l.at r).w && (l.at w).w && decide ((l.at r).v = (l.at w).v) && sureB l t r w
  | .crossed a b c d => decide ((l.at a).v = (l.at d).v) && decide ((l.at b).v = (l.at c).v) && decide ((l.at a).v ≠ (l.at b).v) && decide ((l.at a).v ≠ 0) && decide ((l.at b).v ≠ 0) && sureB l t a b && sureB l t c d
  | .late c d => decide ((l.at c).v ≠ 0) && !(l.at d).w && decide ((l.at d).v = 0) && sureB l t c d
def Log.unw (l : Log) : List Nat := (l.zipIdx.filter fun p => !p.1.w && decide (p.1.v ≠ 0) && !decide (p.1.v ∈ l.wr)).map (·.2)
def Log.early (l : Log) (t : Int) : List Nat := (l.zipIdx.filter fun p => !p.1.w && decide (p.1.v ≠ 0) && decide (p.1.v ∈ l.wr) && decide (p.1.e + t < (l.at (l.wix p.1.v)).b)).map (·.2)
def Log.singles (l : Log) (t : Int) : List Flt := l.unw.map .unw ++ (l.early t).map fun i => .early i (l.wix (l.at i).v)
theorem mem_zipx {α : Type} {l : List α} {p : α × Nat} (h : p ∈ l.zipIdx) : l[p.2]? = some p.1 := List.mem_zipIdx_iff_getElem?.mp h
theorem mem_unw {l : Log} {i : Nat} : i ∈ l.unw ↔ i < l.length ∧ Flt.is l 0 (.unw i) = true := by
  unfold Log.unw Flt.is
  constructor
  · intro h
    obtain ⟨p, hp, rfl⟩ := List.mem_map.mp h
    obtain ⟨h1, h2⟩ := List.mem_filter.mp hp
    have e := mem_zipx h1
    exact ⟨(List.getElem?_eq_some_iff.mp e).1, by dsimp only; rw [at_of e]; exact h2⟩
  · rintro ⟨h1, h2⟩
    exact List.mem_map.mpr ⟨(l.at i, i), List.mem_filter.mpr ⟨List.mem_zipIdx_iff_getElem?.mpr (at_get h1), h2⟩, rfl⟩
theorem mem_early {l : Log} {t : Int} {i : Nat} : i ∈ l.early t ↔ i < l.length ∧ (l.at i).w = false ∧ (l.at i).v ≠ 0 ∧ (l.at i).v ∈ l.wr ∧ (l.at i).e + t < (l.at (l.wix (l.at i).v)).b := by
  unfold Log.early
  constructor
  · intro h
    obtain ⟨p, hp, rfl⟩ := List.mem_map.mp h
    obtain ⟨h1, h2⟩ := List.mem_filter.mp hp
    have e := mem_zipx h1
    rw [at_of e]
    simp only [Bool.and_eq_true, Bool.not_eq_true', decide_eq_true_eq] at h2
    exact ⟨(List.getElem?_eq_some_iff.mp e).1, h2.1.1.1, h2.1.1.2, h2.1.2, h2.2⟩
  · rintro ⟨h1, h2, h3, h4, h5⟩
    exact List.mem_map.mpr ⟨(l.at i, i), List.mem_filter.mpr ⟨List.mem_zipIdx_iff_getElem?.mpr (at_get h1), by simp only [Bool.and_eq_true, Bool.not_eq_true', decide_eq_true_eq]; exact ⟨⟨⟨h2, h3⟩, h4⟩, h5⟩⟩, rfl⟩
/-! marks -/
def mkStep (l : Log) (m : Int → Option (Nat × Nat)) (o : Op) (i : Nat) : Int → Option (Nat × Nat) := fun v => if v = o.v then
    (let p := (m v).getD (i, i); some (if o.e < (l.at p.1).e then i else p.1, if (l.at p.2).b < o.b then i else p.2)) else m v
def mkAt (l : Log) : Nat → Int → Option (Nat × Nat)
  | 0 => fun _ => none
  | k + 1 => mkStep l (mkAt l k) (l.at k) k
def seen (l : Log) : Nat → List Int
  | 0 => []
  | k + 1 => if (l.at k).v ∈ seen l k then seen l k else seen l k ++ [(l.at k).v]
def Log.fi (l : Log) (v : Int) : Nat := ((mkAt l l.length v).getD (0, 0)).1
def Log.la (l : Log) (v : Int) : Nat := ((mkAt l l.length v).getD (0, 0)).2
theorem mem_seen {l : Log} {v : Int} : ∀ {k : Nat}, v ∈ seen l k ↔ ∃ i, i < k ∧ (l.at i).v = v
  | 0 => by simp [seen]
  | k + 1 => by
    unfold seen
    have ih := mem_seen (l := l) (v := v) (k := k)
    split
    · rename_i h
      rw [ih]
      constructor
      · rintro ⟨i, hi, e⟩; exact ⟨i, by omega, e⟩
      · rintro ⟨i, hi, e⟩
        by_cases z : i = k
        · subst z; rw [e] at h; exact ih.mp h
        · exact ⟨i, by omega, e⟩
    · rw [List.mem_append, List.mem_singleton, ih]
      constructor
      · rintro (⟨i, hi, e⟩ | e)
        · exact ⟨i, by omega, e⟩
        · exact ⟨k, by omega, e.symm⟩
      · rintro ⟨i, hi, e⟩
        by_cases z : i = k
        · subst z; exact .inr e.symm
        · exact .inl ⟨i, by omega, e⟩
/-- what stands for a value behind k operations -/
structure MkOk (l : Log) (k : Nat) (v : Int) (f a : Nat) : Prop where
  fk : f < k
  ak : a < k
  fv : (l.at f).v = v
  av : (l.at a).v = v
  fm : ∀ i, i < k → (l.at i).v = v → (l.at f).e ≤ (l.at i).e
  am : ∀ i, i < k → (l.at i).v = v → (l.at i).b ≤ (l.at a).b
theorem mkAt_ok {l : Log} {v : Int} : ∀ {k : Nat}, match mkAt l k v with | some (f, a) => MkOk l k v f a | none => ∀ i, i < k → (l.at i).v ≠ v
  | 0 => by
    show ∀ i, i < 0 → _
    intro i hi; omega
  | k + 1 => by
    have ih := mkAt_ok (l := l) (v := v) (k := k)
    show match mkStep l (mkAt l k) (l.at k) k v with | some (f, a) => MkOk l (k + 1) v f a | none => ∀ i, i < k + 1 → (l.at i).v ≠ v
    unfold mkStep
    by_cases hv : v = (l.at k).v
    · rw [if_pos hv]
      cases hm : mkAt l k v with
      | none =>
        rw [hm] at ih
        have ih : ∀ i, i < k → (l.at i).v ≠ v := ih
        show MkOk l (k + 1) v (if (l.at k).e < (l.at k).e then k else k) (if (l.at k).b < (l.at k).b then k else k)
        rw [if_neg (by omega), if_neg (by omega)]
        refine ⟨by omega, by omega, hv.symm, hv.symm, fun i hi e => ?_, fun i hi e => ?_⟩
        · by_cases z : i = k
          · subst z; omega
          · exact absurd e (ih i (by omega))
        · by_cases z : i = k
          · subst z; omega
          · exact absurd e (ih i (by omega))
      | some p =>
        obtain ⟨f, a⟩ := p
        rw [hm] at ih
        have ih : MkOk l k v f a := ih
        show MkOk l (k + 1) v (if (l.at k).e < (l.at f).e then k else f) (if (l.at a).b < (l.at k).b then k else a)
        obtain ⟨h1, h2, h3, h4, h5, h6⟩ := ih
        refine ⟨by split <;> omega, by split <;> omega, by split <;> simp_all, by split <;> simp_all, fun i hi e => ?_, fun i hi e => ?_⟩
        · by_cases z : i = k
          · subst z; split <;> omega
          · have := h5 i (by omega) e
            split <;> omega
        · by_cases z : i = k
          · subst z; split <;> omega
          · have := h6 i (by omega) e
            split <;> omega
    · rw [if_neg hv]
      cases hm : mkAt l k v with
      | none =>
        rw [hm] at ih
        have ih : ∀ i, i < k → (l.at i).v ≠ v := ih
        intro i hi e
        by_cases z : i = k
        · subst z; exact hv e.symm
        · exact ih i (by omega) e
      | some p =>
        obtain ⟨f, a⟩ := p
        rw [hm] at ih
        obtain ⟨h1, h2, h3, h4, h5, h6⟩ := (ih : MkOk l k v f a)
        have nk : ∀ i, i < k + 1 → (l.at i).v = v → i < k := fun i hi e => by
          by_cases z : i = k
          · subst z; exact absurd e.symm hv
          · omega
        exact ⟨by omega, by omega, h3, h4, fun i hi e => h5 i (nk i hi e) e, fun i hi e => h6 i (nk i hi e) e⟩
theorem at_v {l : Log} {v : Int} : v ∈ l.vals ↔ ∃ i, i < l.length ∧ (l.at i).v = v := by
  rw [mem_vals]
  constructor
  · rintro ⟨o, ho, e⟩
    obtain ⟨i, hi⟩ := List.getElem?_of_mem ho
    exact ⟨i, (List.getElem?_eq_some_iff.mp hi).1, by rw [at_of hi]; exact e⟩
  · rintro ⟨i, hi, e⟩
    exact ⟨l.at i, List.mem_of_getElem? (at_get hi), e⟩
theorem mk_some {l : Log} {v : Int} (h : v ∈ l.vals) : mkAt l l.length v = some (l.fi v, l.la v) := by
  have ok := mkAt_ok (l := l) (v := v) (k := l.length)
  unfold Log.fi Log.la
  cases hm : mkAt l l.length v with
  | none =>
    rw [hm] at ok
    obtain ⟨i, hi, e⟩ := at_v.mp h
    exact absurd e ((ok : ∀ i, i < l.length → (l.at i).v ≠ v) i hi)
  | some p => rfl
theorem fi_ok {l : Log} {v : Int} (h : v ∈ l.vals) : MkOk l l.length v (l.fi v) (l.la v) := by
  have ok := mkAt_ok (l := l) (v := v) (k := l.length)
  rw [mk_some h] at ok
  exact ok
theorem minL_iff {xs : List Int} {m : Int} (h : m ∈ xs) (hm : ∀ x ∈ xs, m ≤ x) : minL xs = m := by
  have h1 : minL xs ∈ xs := minL_mem fun z => by rw [z] at h; simp at h
  have h2 := minL_le h
  have := hm _ h1
  omega
theorem maxL_iff {xs : List Int} {m : Int} (h : m ∈ xs) (hm : ∀ x ∈ xs, x ≤ m) : maxL xs = m := by
  have h1 : maxL xs ∈ xs := maxL_mem fun z => by rw [z] at h; simp at h
  have h2 := maxL_le h
  have := hm _ h1
  omega
theorem fe_fi {l : Log} {v : Int} (h : v ∈ l.vals) (h0 : v ≠ 0) : l.fe v = (l.at (l.fi v)).e := by
  obtain ⟨h1, h2, h3, h4, h5, h6⟩ := fi_ok h
  unfold Log.fe
  rw [if_neg h0]
  refine minL_iff (List.mem_map.mpr ⟨l.at (l.fi v), List.mem_filter.mpr ⟨List.mem_of_getElem? (at_get h1), by simpa using h3⟩, rfl⟩) fun x hx => ?_
  obtain ⟨o, ho, rfl⟩ := List.mem_map.mp hx
  obtain ⟨hm, e⟩ := List.mem_filter.mp ho
  obtain ⟨i, hi⟩ := List.getElem?_of_mem hm
  have := h5 i (List.getElem?_eq_some_iff.mp hi).1 (by rw [at_of hi]; simpa using e)
  rw [at_of hi] at this
  exact this
theorem lb_la {l : Log} {v : Int} (h : v ∈ l.vals) : l.lb v = (l.at (l.la v)).b := by
  obtain ⟨h1, h2, h3, h4, h5, h6⟩ := fi_ok h
  unfold Log.lb
  refine maxL_iff (List.mem_map.mpr ⟨l.at (l.la v), List.mem_filter.mpr ⟨List.mem_of_getElem? (at_get h2), by simpa using h4⟩, rfl⟩) fun x hx => ?_
  obtain ⟨o, ho, rfl⟩ := List.mem_map.mp hx
  obtain ⟨hm, e⟩ := List.mem_filter.mp ho
  obtain ⟨i, hi⟩ := List.getElem?_of_mem hm
  have := h6 i (List.getElem?_eq_some_iff.mp hi).1 (by rw [at_of hi]; simpa using e)
  rw [at_of hi] at this
  exact this
/-! pairs -/
def Log.somes (l : Log) : List Int := l.vals.filter fun v => decide (v = 0) || decide (v ∈ l.wr)
def pairF (l : Log) (a b : Int) : Flt := if a = 0 then .late (l.fi b) (l.la a) else .crossed (l.fi a) (l.la b) (l.fi b) (l.la a)
def pairsOf (l : Log) (t : Int) : List Int → List Flt
  | [] => []
  | a :: as => (as.filter fun b => l.bef t a b && l.bef t b a).map (pairF l a) ++ pairsOf l t as
def Log.pairs (l : Log) (t : Int) : List Flt := pairsOf l t l.somes
def Log.flts (l : Log) (t : Int) : List Flt := l.singles t ++ l.pairs t
end CM
set_option maxHeartbeats 1000000
namespace CM
open PySem PySem.Spec PyProof.Rows L2 DL
end CM
set_option maxHeartbeats 1000000
namespace CM
open PySem PySem.Spec PyProof.Rows L2 DL
theorem seen_len {l : Log} : ∀ {k : Nat}, (seen l k).length ≤ k
  | 0 => by simp [seen]
  | k + 1 => by
    have := seen_len (l := l) (k := k)
    unfold seen
    split
    · omega
    · rw [List.length_append, List.length_singleton]; omega
/-- the entry of a value behind k operations -/
def mkD (l : Log) (k : Nat) (v : Int) : D := match mkAt l k v with
  | some (f, a) => .tup [.int (f : Nat), .int (a : Nat)]
  | none => .non
abbrev marksAt (l : Log) (k : Nat) : Cont := .dic (ikeys (seen l k)) ((seen l k).map (mkD l k))
theorem mkD_ok {l : Log} {k : Nat} {v : Int} (h : v ∈ seen l k) : ∃ f a, mkAt l k v = some (f, a) ∧ f < k ∧ a < k ∧ mkD l k v = .tup [.int (f : Nat), .int (a : Nat)] := by
  have ok := mkAt_ok (l := l) (v := v) (k := k)
  cases hm : mkAt l k v with
  | none =>
    rw [hm] at ok
    obtain ⟨i, hi, e⟩ := mem_seen.mp h
    exact absurd e ((ok : ∀ i, i < k → (l.at i).v ≠ v) i hi)
  | some p =>
    rw [hm] at ok
    have ok : MkOk l k v p.1 p.2 := ok
    exact ⟨p.1, p.2, rfl, ok.fk, ok.ak, by unfold mkD; rw [hm]⟩
theorem mk_none {l : Log} {k : Nat} {v : Int} (h : v ∉ seen l k) : mkAt l k v = none := by
  have ok := mkAt_ok (l := l) (v := v) (k := k)
  cases hm : mkAt l k v with
  | none => rfl
  | some p =>
    rw [hm] at ok
    have ok : MkOk l k v p.1 p.2 := ok
    exact absurd (mem_seen.mpr ⟨p.1, ok.fk, ok.fv⟩) h
/-- what is stored at the operation k -/
theorem marks_step {l : Log} {k f a f2 a2 : Nat} (hf : (mkAt l k (l.at k).v).getD (k, k) = (f, a)) (h1 : f2 = if (l.at k).e < (l.at f).e then k else f) (h2 : a2 = if (l.at a).b < (l.at k).b then k else a) :
    (if (l.at k).v ∈ seen l k then Cont.dic (ikeys (seen l k)) ((seen l k).map fun w => if w = (l.at k).v then D.tup [.int (f2 : Nat), .int (a2 : Nat)] else mkD l k w)
      else .dic (ikeys (seen l k ++ [(l.at k).v])) ((seen l k).map (mkD l k) ++ [D.tup [.int (f2 : Nat), .int (a2 : Nat)]])) = marksAt l (k + 1) := by
  have e0 : mkAt l (k + 1) (l.at k).v = some (f2, a2) := by
    show mkStep l (mkAt l k) (l.at k) k (l.at k).v = _
    unfold mkStep
    rw [if_pos rfl, hf, h1, h2]
  have e1 : mkD l (k + 1) (l.at k).v = .tup [.int (f2 : Nat), .int (a2 : Nat)] := by unfold mkD; rw [e0]
  have e2 : ∀ w, w ≠ (l.at k).v → mkD l (k + 1) w = mkD l k w := fun w hw => by
    unfold mkD
    show (match mkStep l (mkAt l k) (l.at k) k w with | some (f, a) => D.tup [.int (f : Nat), .int (a : Nat)] | none => .non) = _
    unfold mkStep
    rw [if_neg hw]
  unfold marksAt
  by_cases h : (l.at k).v ∈ seen l k
  · rw [if_pos h]
    have es : seen l (k + 1) = seen l k := by
      show (if (l.at k).v ∈ seen l k then _ else _) = _
      rw [if_pos h]
    rw [es]
    congr 1
    refine List.map_congr_left fun w _ => ?_
    by_cases hw : w = (l.at k).v
    · rw [if_pos hw, hw, e1]
    · rw [if_neg hw, e2 w hw]
  · rw [if_neg h]
    have es : seen l (k + 1) = seen l k ++ [(l.at k).v] := by
      show (if (l.at k).v ∈ seen l k then _ else _) = _
      rw [if_neg h]
    rw [es, List.map_append]
    congr 2
    · refine List.map_congr_left fun w hw => ?_
      exact (e2 w fun z => h (z ▸ hw)).symm
    · show [_] = [_]
      rw [e1]
theorem ifN {c : Bool} {a b : Nat} : (if c = true then ((a : Nat) : Int) else (b : Nat)) = ((if c = true then a else b : Nat) : Int) := by cases c <;> rfl
theorem marks_loop {l : Log} {s2 s3 s4 s5 : DL.Slot} {P : Po} (hl : l.length ≤ 400) (f2 : Fr s2) (f3 : Fr s3) (f4 : Fr s4) (f5 : Fr s5)
    (q : ∀ s2 s3 s4 s5, P.nx [.d l.d, .ow (marksAt l l.length) .own, s2, s3, s4, s5]) : (l1_marks_of [.d l.d, .ow (.dic [] []) .own, s2, s3, s4, s5]).wp P := by
  unfold l1_marks_of
  repeat fail "WU6"
  rw [enumL_map]
  refine loopN (ρ' := [.d l.d, .ow (.dic [] []) .own, s2, s3, s4, s5]) rfl ?_
  refine loop_map (fun k ρ => ∃ s2 s3 s4 s5, ρ = [.d l.d, .ow (marksAt l k) .own, s2, s3, s4, s5] ∧ Fr s2 ∧ Fr s3 ∧ Fr s4 ∧ Fr s5) ⟨s2, s3, s4, s5, rfl, f2, f3, f4, f5⟩ (fun j p ρ hj hI => ?_) fun ρ hI => ?_
  · obtain ⟨s2, s3, s4, s5, rfl, f2, f3, f4, f5⟩ := hI
    have hjl : j < l.length := by have := (List.getElem?_eq_some_iff.mp hj).1; rwa [List.length_zipIdx] at this
    have hp : p = (l.at j, j) := by
      rw [List.getElem?_zipIdx, at_get hjl] at hj
      simpa using hj.symm
    subst hp
    have hsl := seen_len (l := l) (k := j)
    have main : ∀ f a, f < l.length → a < l.length → (mkAt l j (l.at j).v).getD (j, j) = (f, a) → (if (l.at j).v ∈ seen l j then mkD l j (l.at j).v else .tup [.int (j : Nat), .int (j : Nat)]) = .tup [.int (f : Nat), .int (a : Nat)] := fun f a _ _ h => by
      split
      · rename_i hs
        obtain ⟨f', a', e1, _, _, e2⟩ := mkD_ok hs
        rw [e1] at h
        cases h
        exact e2
      · rename_i hs
        rw [mk_none hs] at h
        cases h
        rfl
    obtain ⟨f, a, hf, ha, hfa⟩ : ∃ f a, f < l.length ∧ a < l.length ∧ (mkAt l j (l.at j).v).getD (j, j) = (f, a) := by
      by_cases hs : (l.at j).v ∈ seen l j
      · obtain ⟨f, a, e, h1, h2, _⟩ := mkD_ok hs
        exact ⟨f, a, by omega, by omega, by rw [e]; rfl⟩
      · exact ⟨j, j, hjl, hjl, by rw [mk_none hs]; rfl⟩
    have hm := main f a hf ha hfa
    (repeat (case orE => (with_reducible refine b_eIfI ?_); (fail "WU6"); ((rw [hm])); (with_reducible refine b_idxK (at_get hf) ?_); (with_reducible refine b_idxK (at_get ha) ?_)))
    simp only [ifN]
    have hs16 : (seen l j).length < 16777216 := by omega
    by_cases hs : (l.at j).v ∈ seen l j
    · refine x_storeD (v := (l.at j).v) (ks := seen l j) (g := mkD l j) rfl (.inl rfl) rfl hs hs16 ?_
      have st := marks_step (l := l) (k := j) hfa rfl rfl
      rw [if_pos hs] at st
      rw [← st]
      refine ⟨_, _, _, _, by simp only [decide_eq_true_eq]; rfl, Fr.dat, Fr.dat, Fr.dat, Fr.dat⟩
    · refine x_storeDn (v := (l.at j).v) (ks := seen l j) (g := mkD l j) rfl (.inl rfl) rfl hs hs16 ?_
      have st := marks_step (l := l) (k := j) hfa rfl rfl
      rw [if_neg hs] at st
      rw [← st]
      refine ⟨_, _, _, _, by simp only [decide_eq_true_eq]; rfl, Fr.dat, Fr.dat, Fr.dat, Fr.dat⟩
  · obtain ⟨s2, s3, s4, s5, rfl, f2, f3, f4, f5⟩ := hI
    rw [List.length_zipIdx]
    exact q s2 s3 s4 s5
end CM
set_option maxHeartbeats 1000000
namespace CM
open PySem PySem.Spec PyProof.Rows L2 DL
theorem marks_wp {l : Log} {Q : Val → DEnv → Prop} {X : Ex → DEnv → Prop} (hl : l.length ≤ 400) (q : Q (.fr (marksAt l l.length)) [.d l.d]) : (s_marks_of [.d l.d]).wp Q X := by
  unfold s_marks_of e_marks_of; with_reducible refine f_fnW (by with_unfolding_all exact rfl) ?_
  repeat fail "WU6"
  refine marks_loop hl Fr.un Fr.un Fr.un Fr.un fun s2 s3 s4 s5 => ?_
  repeat fail "WU6"
  exact q
theorem somes_mem {l : Log} {v : Int} (h : v ∈ l.somes) : v ∈ l.vals := (List.mem_filter.mp h).1
end CM
set_option maxHeartbeats 1000000
namespace CM
open PySem PySem.Spec PyProof.Rows L2 DL
/-- all that is given is a fault -/
theorem bef_iff {l : Log} {t a b : Int} : l.bef t a b = true ↔ a ≠ b ∧ l.fe a + t < l.lb b := by
  unfold Log.bef
  simp
end CM
set_option maxHeartbeats 1000000
namespace CM
open PySem PySem.Spec PyProof.Rows L2 DL
end CM
set_option maxHeartbeats 1000000
namespace CM
open PySem PySem.Spec PyProof.Rows L2 DL
end CM
set_option maxHeartbeats 400000
namespace CM
open PySem PySem.Spec PyProof.Rows L2 DL
/-! other logs -/
end CM
set_option maxHeartbeats 2000000
namespace CM
open PySem PySem.Spec PyProof.Rows L2 DL
/-! a drawn log, its stamps within the room -/
section
local macro_rules
  | `(tactic| infer_instance) => `(tactic| (first | with_reducible refine b_op ?_ | with_reducible refine b_cb ?_ | with_reducible refine b_un ?_ | with_reducible refine b_call ?_ | with_reducible refine b_cons ?_ | with_reducible refine b_nil ?_ | with_reducible refine b_C ?_ | with_reducible refine b_tup ?_ | with_reducible refine b_lst ?_ | with_reducible refine b_fz ?_ | with_reducible refine b_nsl ?_ | with_reducible refine b_nslD ?_ | with_reducible refine b_nslF ?_ | with_reducible refine b_nslS ?_ | with_reducible refine b_tst ?_ | with_reducible refine b_bT ?_ | with_reducible refine b_andK ?_ | with_reducible refine b_orK ?_ | with_reducible refine b_not ?_ | with_reducible refine b_eIf ?_ | with_reducible refine b_ok ?_ | with_reducible refine b_rng ?_ | with_reducible refine b_iseq ?_ | with_reducible refine b_yes ?_ | with_reducible refine s_skip ?_ | with_reducible refine s_drop ?_ | with_reducible refine s_ret ?_ | with_reducible refine s_retN ?_ | with_reducible refine s_break ?_ | with_reducible refine s_cont ?_ | with_reducible refine s_if ?_ | with_reducible refine s_asg ?_ | with_reducible refine s_par ?_ | with_reducible refine s_tgt ?_ | with_reducible refine s_for ?_ | with_reducible refine s_loop ?_ | with_reducible refine s_store ?_ | with_reducible refine s_asgsN ?_ | with_reducible refine f_d ?_ | with_reducible refine f_fr ?_ | ((with_reducible apply s_seqN); exact (rfl : _ = [_, _, _, _, _, _, _, _, _, _])) | ((with_reducible apply b_var_d); rfl) | ((with_reducible apply b_var_o); rfl) | ((with_reducible apply b_fzv); rfl) | ((with_reducible apply b_fzvA); rfl) | ((with_reducible apply s_asgV); rfl) | ((with_reducible apply s_asgs); rfl) | ((with_reducible apply s_asgsD); rfl; first | assumption | exact Fr.un | exact Fr.dat | exact Fr.own) | ((with_reducible apply s_asgsO); rfl; first | assumption | exact Fr.un | exact Fr.dat | exact Fr.own) | ((with_reducible apply s_asgF); rfl; first | assumption | exact Fr.un | exact Fr.dat | exact Fr.own) | ((with_reducible apply s_asgFO); rfl; first | assumption | exact Fr.un | exact Fr.dat | exact Fr.own) | ((with_reducible apply s_storeV); rfl) | ((with_reducible apply s_storeK); rfl) | ((with_reducible apply b_methL); rfl) | ((with_reducible apply b_methV); rfl) | ((with_reducible apply b_mkTup); rfl; exact Nat.le_of_ble_eq_true rfl) | ((with_reducible apply b_mkLst); rfl; exact Nat.le_of_ble_eq_true rfl) | ((with_reducible apply f_sl); rfl) | ((with_reducible apply f_sld); rfl) | ((with_reducible apply x_mul); rfl; rfl; (first | omega | decide)) | ((with_reducible apply x_mod); rfl; rfl; decide) | ((with_reducible apply x_div); rfl; rfl; (first | omega | decide)) | ((with_reducible apply b_opV); rfl; rfl; rfl) | ((with_reducible apply b_unV); rfl; rfl) | ((with_reducible apply b_callV); rfl; rfl) | ((with_reducible apply b_callF); rfl; rfl) | ((with_reducible apply b_rng1); (first | omega | decide)) | ((with_reducible apply b_rng2); (first | omega | decide))))
end
end CM
set_option maxHeartbeats 1000000
namespace CM
open PySem PySem.Spec PyProof.Rows L2 DL
/-! lists that can be shown, counted part by part -/
structure GL (k n : Nat) (ds : List D) : Prop where
  good : goodL ds = true
  short : shortL ds = true
  dep : depL ds ≤ k
  cnt : cntL ds ≤ n
theorem GL.mono {k n k' n' : Nat} {ds : List D} (h : GL k n ds) (hk : k ≤ k') (hn : n ≤ n') : GL k' n' ds := ⟨h.good, h.short, Nat.le_trans h.dep hk, Nat.le_trans h.cnt hn⟩
theorem GL.nil {k n : Nat} : GL k n [] := ⟨rfl, rfl, Nat.zero_le _, Nat.zero_le _⟩
theorem GL.cons {k n m : Nat} {d : D} {ds : List D} (h : Gd k n d) (h2 : GL k m ds) : GL k (n + m) (d :: ds) := by
  refine ⟨by simp [goodL, h.good, h2.good], by simp [shortL, h.short, h2.short], ?_, ?_⟩
  · simp only [depL]; exact Nat.max_le.mpr ⟨h.dep, h2.dep⟩
  · simp only [cntL]; exact Nat.add_le_add h.cnt h2.cnt
theorem GL.app {k n m : Nat} : ∀ {ds es : List D}, GL k n ds → GL k m es → GL k (n + m) (ds ++ es)
  | [], es, h, h2 => h2.mono (Nat.le_refl _) (by omega)
  | d :: ds, es, h, h2 => by
    obtain ⟨h1, h3, h4, h5⟩ := h
    simp only [goodL, Bool.and_eq_true] at h1
    simp only [shortL, Bool.and_eq_true] at h3
    simp only [depL] at h4
    simp only [cntL] at h5
    have hd : Gd k d.cnt d := ⟨h1.1, h3.1, Nat.le_trans (Nat.le_max_left _ _) h4, Nat.le_refl _⟩
    have hr : GL k (cntL ds) ds := ⟨h1.2, h3.2, Nat.le_trans (Nat.le_max_right _ _) h4, Nat.le_refl _⟩
    exact (GL.cons hd (hr.app h2)).mono (Nat.le_refl _) (by omega)
theorem GL.lst {k n : Nat} {ds : List D} (h : GL k n ds) : Gd (k + 1) (n + 1) (.lst ds) := ⟨by simpa [D.good] using h.good, by simpa [D.short] using h.short, by simpa [D.dep] using h.dep, by simp only [D.cnt]; have := h.cnt; omega⟩
theorem GL.tup {k n : Nat} {ds : List D} (h : GL k n ds) : Gd (k + 1) (n + 1) (.tup ds) := ⟨by simpa [D.good] using h.good, by simpa [D.short] using h.short, by simpa [D.dep] using h.dep, by simp only [D.cnt]; have := h.cnt; omega⟩
theorem GL.of {k n : Nat} {ds : List D} (h : ∀ x ∈ ds, Gd k n x) : GL k (n * ds.length) ds := by
  induction ds with
  | nil => exact GL.nil
  | cons d ds ih => exact (GL.cons (h d List.mem_cons_self) (ih fun x hx => h x (List.mem_cons_of_mem _ hx))).mono (Nat.le_refl _) (by rw [List.length_cons, Nat.mul_succ]; omega)
end CM
set_option maxHeartbeats 1000000
namespace CM
open PySem PySem.Spec PyProof.Rows L2 DL
/-! a fault that is one at all is so by one that is given, whose bound is not less -/
def Flt.bi (l : Log) : Flt → Int
  | .unw _ => 0
  | .early r w => (l.at w).b - (l.at r).e
  | .crossed a b c d => min ((l.at b).b - (l.at a).e) ((l.at d).b - (l.at c).e)
  | .late c d => (l.at d).b - (l.at c).e
def Flt.isU : Flt → Bool
  | .unw _ => true
  | _ => false
theorem pairs_in {l : Log} {t a b : Int} : ∀ {vs : List Int}, vs.Pairwise (· < ·) → a ∈ vs → b ∈ vs → a < b → l.bef t a b = true → l.bef t b a = true → pairF l a b ∈ pairsOf l t vs
  | [], _, h, _, _, _, _ => by simp at h
  | v :: vs, hp, ha, hb, hab, h1, h2 => by
    obtain ⟨p1, p2⟩ := List.pairwise_cons.mp hp
    show pairF l a b ∈ (vs.filter fun b => l.bef t v b && l.bef t b v).map (pairF l v) ++ pairsOf l t vs
    rw [List.mem_append]
    rcases List.mem_cons.mp ha with ea | ma
    · subst ea
      rcases List.mem_cons.mp hb with eb | mb
      · omega
      · exact .inl (List.mem_map.mpr ⟨b, List.mem_filter.mpr ⟨mb, by rw [h1, h2]; rfl⟩, rfl⟩)
    · rcases List.mem_cons.mp hb with eb | mb
      · have := p1 a ma; omega
      · exact .inr (pairs_in p2 ma mb hab h1 h2)
theorem fe_le {l : Log} {i : Nat} {v : Int} (ok : l.Ok) (hi : i < l.length) (e : (l.at i).v = v) : l.fe v ≤ (l.at i).e := by
  by_cases h0 : v = 0
  · unfold Log.fe LOWEST
    rw [if_pos h0]
    have o := ok.ops _ (List.mem_of_getElem? (at_get hi))
    have := o.b; have := o.be
    omega
  · have hv : v ∈ l.vals := at_v.mpr ⟨i, hi, e⟩
    rw [fe_fi hv h0]
    exact (fi_ok hv).fm i hi e
theorem le_lb {l : Log} {i : Nat} {v : Int} (hi : i < l.length) (e : (l.at i).v = v) : (l.at i).b ≤ l.lb v := by
  have hv : v ∈ l.vals := at_v.mpr ⟨i, hi, e⟩
  rw [lb_la hv]
  exact (fi_ok hv).am i hi e
theorem somes_of {l : Log} {v : Int} (h : v ∈ l.vals) (hw : v = 0 ∨ v ∈ l.wr) : v ∈ l.somes := by
  unfold Log.somes
  refine List.mem_filter.mpr ⟨h, ?_⟩
  rcases hw with rfl | hw
  · simp
  · simp [hw]
theorem bef_of {l : Log} {t a b : Int} (hab : a ≠ b) (h : l.fe a + t < l.lb b) : l.bef t a b = true := bef_iff.mpr ⟨hab, h⟩
/-- the pair of two values, the lesser one first -/
theorem pair_bi {l : Log} {t a b : Int} (ok : l.Ok) (ht : t ≤ 10000000000000000) (ha : a ∈ l.somes) (hb : b ∈ l.somes) (hab : a ≠ b) (h1 : l.fe a + t < l.lb b) (h2 : l.fe b + t < l.lb a) :
    ∃ g ∈ l.flts t, g.isU = false ∧ (a ≠ 0 → b ≠ 0 → g.bi l = min (l.lb b - l.fe a) (l.lb a - l.fe b)) ∧ (a = 0 → g.bi l = l.lb a - l.fe b) ∧ (b = 0 → g.bi l = l.lb b - l.fe a) := by
  have key : ∀ a b : Int, a ∈ l.somes → b ∈ l.somes → a < b → l.fe a + t < l.lb b → l.fe b + t < l.lb a → ∃ g ∈ l.flts t, g.isU = false ∧ (a ≠ 0 → g.bi l = min (l.lb b - l.fe a) (l.lb a - l.fe b)) ∧ (a = 0 → g.bi l = l.lb a - l.fe b) := fun a b ha hb hab h1 h2 => by
    have va := somes_mem ha
    have vb := somes_mem hb
    have b0 : b ≠ 0 := by have := (vals_bd ok va).1; omega
    refine ⟨pairF l a b, List.mem_append_right _ (pairs_in ((vals_pw l).filter _) ha hb hab (bef_of (by omega) h1) (bef_of (by omega) h2)), ?_, fun a0 => ?_, fun a0 => ?_⟩
    · unfold pairF; split <;> rfl
    · unfold pairF
      rw [if_neg a0, fe_fi va a0, fe_fi vb b0, lb_la va, lb_la vb]
      rfl
    · unfold pairF
      rw [if_pos a0, fe_fi vb b0, lb_la va]
      rfl
  have va := (vals_bd ok (somes_mem ha)).1
  have vb := (vals_bd ok (somes_mem hb)).1
  rcases Int.lt_or_gt_of_ne hab with z | z
  · obtain ⟨g, hg, hu, h3, h4⟩ := key a b ha hb z h1 h2
    exact ⟨g, hg, hu, fun a0 _ => h3 a0, h4, fun b0 => by omega⟩
  · obtain ⟨g, hg, hu, h3, h4⟩ := key b a hb ha z h2 h1
    exact ⟨g, hg, hu, fun _ b0 => by rw [h3 b0, Int.min_comm], fun a0 => by omega, h4⟩
theorem dom {l : Log} {t : Int} {f : Flt} (ok : l.Ok) (ht : t ≤ 10000000000000000) (hf : f.In l.length) (h : f.is l t = true) (hw : ∀ i ∈ f.ixs, (l.at i).v = 0 ∨ (l.at i).v ∈ l.wr) :
    f.isU = false ∧ ∃ g ∈ l.flts t, g.isU = false ∧ f.bi l ≤ g.bi l := by
  cases f with
  | unw r =>
    simp only [Flt.is, Bool.and_eq_true, Bool.not_eq_true', decide_eq_true_eq, decide_eq_false_iff_not] at h
    rcases hw r (by simp [Flt.ixs]) with z | z
    · exact absurd z h.1.2
    · exact absurd z h.2
  | early r w =>
    simp only [Flt.is, sureB, Bool.and_eq_true, Bool.not_eq_true', decide_eq_true_eq] at h
    obtain ⟨⟨⟨h1, h2⟩, h3⟩, h4⟩ := h
    have hr := hf r (by simp [Flt.ixs])
    have hwl := hf w (by simp [Flt.ixs])
    have wx : l.wix (l.at r).v = w := by rw [h3]; exact wix_of ok.nd (at_get hwl) h2
    have o := (ok.ops _ (List.mem_of_getElem? (at_get hwl))).wr h2
    refine ⟨rfl, .early r w, List.mem_append_left _ (List.mem_append_right _ (List.mem_map.mpr ⟨r, mem_early.mpr ⟨hr, h1, by omega, ?_, by rw [wx]; exact h4⟩, by rw [wx]⟩)), rfl, Int.le_refl _⟩
    exact mem_wr.mpr ⟨l.at w, List.mem_of_getElem? (at_get hwl), h2, h3.symm⟩
  | late c d =>
    simp only [Flt.is, sureB, Bool.and_eq_true, Bool.not_eq_true', decide_eq_true_eq] at h
    obtain ⟨⟨⟨h1, h2⟩, h3⟩, h4⟩ := h
    have hc := hf c (by simp [Flt.ixs])
    have hd := hf d (by simp [Flt.ixs])
    have vc : (l.at c).v ∈ l.vals := at_v.mpr ⟨c, hc, rfl⟩
    have v0 : (0 : Int) ∈ l.vals := at_v.mpr ⟨d, hd, h3⟩
    have f1 := fe_le ok hc rfl
    have f2 := le_lb hd h3
    have f3 := le_lb hc rfl
    have oc := ok.ops _ (List.mem_of_getElem? (at_get hc))
    have f0 : l.fe 0 = -1000000000000000000 := by unfold Log.fe; rw [if_pos rfl]; rfl
    have ocb := oc.b
    obtain ⟨g, hg, hu, _, g2, _⟩ := pair_bi (a := 0) (b := (l.at c).v) ok ht (somes_of v0 (.inl rfl)) (somes_of vc (.inr ((hw c (by simp [Flt.ixs])).resolve_left h1))) (by omega) (by omega) (by omega)
    refine ⟨rfl, g, hg, hu, ?_⟩
    rw [g2 rfl]
    show (l.at d).b - (l.at c).e ≤ _
    omega
  | crossed a b c d =>
    simp only [Flt.is, sureB, Bool.and_eq_true, decide_eq_true_eq] at h
    obtain ⟨⟨⟨⟨⟨⟨h1, h2⟩, h3⟩, h4⟩, h5⟩, h6⟩, h7⟩ := h
    have ha := hf a (by simp [Flt.ixs])
    have hb := hf b (by simp [Flt.ixs])
    have hc := hf c (by simp [Flt.ixs])
    have hd := hf d (by simp [Flt.ixs])
    have va : (l.at a).v ∈ l.vals := at_v.mpr ⟨a, ha, rfl⟩
    have vb : (l.at b).v ∈ l.vals := at_v.mpr ⟨b, hb, rfl⟩
    have f1 := fe_le ok ha rfl
    have f2 := le_lb hb rfl
    have f3 := fe_le ok hc h2.symm
    have f4 := le_lb hd h1.symm
    obtain ⟨g, hg, hu, g1, _, _⟩ := pair_bi (a := (l.at a).v) (b := (l.at b).v) ok ht (somes_of va (.inr ((hw a (by simp [Flt.ixs])).resolve_left h4))) (somes_of vb (.inr ((hw b (by simp [Flt.ixs])).resolve_left h5))) h3 (by omega) (by omega)
    refine ⟨rfl, g, hg, hu, ?_⟩
    rw [g1 h4 h5]
    show min ((l.at b).b - (l.at a).e) ((l.at d).b - (l.at c).e) ≤ _
    omega
/-- there is some that is given if there is any -/
theorem some_of {l : Log} {t : Int} {f : Flt} (ok : l.Ok) (ht : t ≤ 10000000000000000) (hf : f.In l.length) (h : f.is l t = true) : l.flts t ≠ [] := by
  by_cases hw : ∀ i ∈ f.ixs, (l.at i).v = 0 ∨ (l.at i).v ∈ l.wr
  · obtain ⟨_, g, hg, _⟩ := dom ok ht hf h hw
    exact List.ne_nil_of_mem hg
  · simp only [Classical.not_forall, not_or] at hw
    obtain ⟨i, hi, h0, hn⟩ := hw
    have hil := hf i hi
    refine List.ne_nil_of_mem (a := .unw i) (List.mem_append_left _ (List.mem_append_left _ (List.mem_map.mpr ⟨i, mem_unw.mpr ⟨hil, ?_⟩, rfl⟩)))
    have hwf : (l.at i).w = false := by
      rw [Bool.eq_false_iff]
      intro z
      exact hn (mem_wr.mpr ⟨l.at i, List.mem_of_getElem? (at_get hil), z, rfl⟩)
    simp [Flt.is, hwf, h0, hn]
end CM
set_option maxHeartbeats 1000000
namespace CM
open PySem PySem.Spec PyProof.Rows L2 DL
/-! dict(pairs), the keys whole numbers -/
theorem s_as {ρ ρ' : DEnv} {f : SM} {P : Po} (e : ρ = ρ') (q : (f ρ').wp P) : (f ρ).wp P := by subst e; exact q
/-! first_fault, can_explain -/
end CM
set_option maxHeartbeats 1000000
namespace CM
open PySem PySem.Spec PyProof.Rows L2 DL
/-! the gaps of a log: by how much it is amiss; the least tolerance -/
/-! the law's own -/
/-! gaps -/
end CM
set_option maxHeartbeats 1000000
namespace CM
open PySem PySem.Spec PyProof.Rows L2 DL
end CM
set_option maxHeartbeats 1000000
namespace CM
open PySem PySem.Spec PyProof.Rows L2 DL
/-! the faults within a tolerance are those within 0 whose bound is greater -/
theorem x_neSame {ρ : DEnv} {x y : Val} {Q : Val → DEnv → Prop} {X : Ex → DEnv → Prop} {a b : D} {k n : Nat} (h1 : x.peek ρ = some a) (h2 : y.peek ρ = some b) (g : Gd k n a) (hk : k ≤ 64) (e : b = a) (q : Q (.d (.bl false)) ρ) : (opV neV' x y ρ).wp Q X := by
  subst e
  exact x_ne h1 h2 (g.eq g hk hk) (by rw [eqG_refl g.good]; exact q)
end CM
set_option maxHeartbeats 1000000
namespace CM
open PySem PySem.Spec PyProof.Rows L2 DL
/-! another value in the place of a part -/
theorem p9o : ((10 : Int) ^ Int.toNat 9) = 1000000000 := by decide +kernel
theorem p30o : ((10 : Int) ^ Int.toNat 30) = 1000000000000000000000000000000 := by decide +kernel
mutual
theorem odd_mono {m m' : Nat} (h : m ≤ m') : ∀ (d : D), d.oddB m = true → d.oddB m' = true
  | .non, _ => rfl
  | .bl _, _ => rfl
  | .int i, e => by simp only [D.oddB, decide_eq_true_eq] at e ⊢; omega
  | .str x, e => by
    simp only [D.oddB, ascB, Bool.and_eq_true, decide_eq_true_eq] at e ⊢
    exact ⟨e.1, by omega⟩
  | .tup xs, e => by simp only [D.oddB] at e ⊢; exact oddL_mono h xs e
  | .lst xs, e => by simp only [D.oddB] at e ⊢; exact oddL_mono h xs e
  | .dic [] [], _ => rfl
  | .dic [] (_ :: _), e => by simp [D.oddB] at e
  | .dic (_ :: _) _, e => by simp [D.oddB] at e
  | .set _, e => by simp [D.oddB] at e
  | .scr _, e => by simp [D.oddB] at e
  | .ty _, e => by simp [D.oddB] at e
  | .obj _ _ _, e => by simp [D.oddB] at e
  | .ins _ _ _, e => by simp [D.oddB] at e
theorem oddL_mono {m m' : Nat} (h : m ≤ m') : ∀ (ds : List D), oddL m ds = true → oddL m' ds = true
  | [], _ => rfl
  | d :: ds, e => by
    simp only [oddL, Bool.and_eq_true] at e ⊢
    exact ⟨odd_mono h d e.1, oddL_mono h ds e.2⟩
end
/-- a value that stands for a bent one -/
structure Bnt (m : Nat) (d y : D) : Prop where
  odd : y.oddB (m + 1) = true
  dep : y.dep ≤ d.dep + 1
  cnt : y.cnt ≤ 2 * d.cnt + 1
theorem cntL_app {as bs : List D} : cntL (as ++ bs) = cntL as + cntL bs := by
  induction as with
  | nil => simp [cntL]
  | cons a as ih => simp only [List.cons_append, cntL, ih]; omega
theorem cntL_sub {as bs : List D} (h : as.Sublist bs) : cntL as ≤ cntL bs := by
  induction h with
  | slnil => exact Nat.le_refl _
  | cons a _ ih => simp only [cntL]; omega
  | cons_cons a _ ih => simp only [cntL]; omega
theorem cntL_rev {as : List D} : cntL as.reverse = cntL as := by
  induction as with
  | nil => rfl
  | cons a as ih => rw [List.reverse_cons, cntL_app, ih]; simp only [cntL]; omega
theorem cntL_one {d : D} : cntL [d] = d.cnt := by simp [cntL]
theorem cut_sub {α : Type} {xs : List α} {lo hi : Option Int} : (DL.cutD xs lo hi).Sublist xs := (List.take_sublist _ _).trans (List.drop_sublist _ _)
theorem depL_of {as bs : List D} (h : ∀ x ∈ as, x ∈ bs) : depL as ≤ depL bs := depL_le.mpr fun x hx => depL_le.mp (Nat.le_refl (depL bs)) x (h x hx)
theorem oddL_of {m : Nat} {as bs : List D} (e : oddL m bs = true) (h : ∀ x ∈ as, x ∈ bs) : oddL m as = true := oddL_iff.mpr fun x hx => oddL_iff.mp e x (h x hx)
theorem bnt_seq {m : Nat} {d : D} {xs as : List D} (e : oddL m xs = true) (hd : depL xs + 1 ≤ d.dep) (hc : cntL xs + 1 ≤ d.cnt) (h : ∀ x ∈ as, x ∈ xs) (hl : cntL as ≤ 2 * cntL xs) : Bnt m d (.tup as) ∧ Bnt m d (.lst as) := by
  have e2 := oddL_mono (Nat.le_succ m) _ (oddL_of e h)
  have h2 := depL_of h
  exact ⟨⟨by simpa [D.oddB] using e2, by simp only [D.dep]; omega, by simp only [D.cnt]; omega⟩, ⟨by simpa [D.oddB] using e2, by simp only [D.dep]; omega, by simp only [D.cnt]; omega⟩⟩
theorem bnt_wrap {m : Nat} {d : D} (e : d.oddB m = true) : Bnt m d (.tup [d]) ∧ Bnt m d (.lst [d]) := by
  have e2 := odd_mono (Nat.le_succ m) _ e
  have := pos_cnt d
  exact ⟨⟨by simp [D.oddB, oddL, e2], by simp [D.dep, depL], by simp only [D.cnt, cntL_one]; omega⟩, ⟨by simp [D.oddB, oddL, e2], by simp [D.dep, depL], by simp only [D.cnt, cntL_one]; omega⟩⟩
def oddC : List D := [.non, .bl true, .bl false, .int 0, .int 1, .int (-1), .int 7, .int 1000000001, .int 1000000000000000000000000000000, .str "", .str "read", .str "write", .tup [], .lst [], .dic [] [], .tup [.int 0], .tup [.str "a"], .lst [.int 0]]
theorem oddC_ok : (oddC.all fun x => x.oddB 0 && decide (x.dep ≤ 1) && decide (x.cnt ≤ 2)) = true := by decide +kernel
theorem bnt_c {m : Nat} {d y : D} (h : y ∈ oddC) : Bnt m d y := by
  have := List.all_eq_true.mp oddC_ok y h
  simp only [Bool.and_eq_true, decide_eq_true_eq] at this
  have hc := pos_cnt d
  exact ⟨odd_mono (Nat.zero_le _) _ this.1.1, by omega, by omega⟩
theorem bnt_flat {m : Nat} {d y : D} (h : y.oddB (m + 1) = true) (h2 : y.dep = 0) (h3 : y.cnt = 1) : Bnt m d y := ⟨h, by omega, by omega⟩
theorem bnt_int {m : Nat} {d : D} {i : Int} (h : i.natAbs ≤ 1000000000000000000000000000000 + m + 1) : Bnt m d (.int i) := bnt_flat (by simp only [D.oddB, decide_eq_true_eq]; omega) rfl rfl
theorem bnt_bl {m : Nat} {d : D} {b : Bool} : Bnt m d (.bl b) := bnt_flat rfl rfl rfl
theorem bnt_str {m : Nat} {d : D} {x : Str} (h : ascB (m + 1) x = true) : Bnt m d (.str x) := bnt_flat h rfl rfl
/-! texts -/
theorem asc_app {m : Nat} {x : Str} (h : ascB m x = true) : ascB (m + 1) (x ++ "s") = true := by
  simp only [ascB, Bool.and_eq_true, decide_eq_true_eq, List.all_eq_true] at h ⊢
  have e : (x ++ ("s" : Str)).cps = x.cps ++ #[115] := rfl
  refine ⟨fun c hc => ?_, ?_⟩
  · rw [e, Array.toList_append] at hc
    rcases List.mem_append.mp hc with z | z
    · exact h.1 c z
    · rw [List.mem_singleton.mp z]; decide
  · show (x ++ ("s" : Str)).cps.size ≤ _
    rw [e, Array.size_append]
    have : x.cps.size ≤ 33 + m := h.2
    show x.cps.size + 1 ≤ _
    omega
theorem asc_slice {m : Nat} {x : Str} {l u : Option Int} (h : ascB m x = true) : ascB (m + 1) (Txt.slice x l u) = true := by
  simp only [ascB, Bool.and_eq_true, decide_eq_true_eq, List.all_eq_true] at h ⊢
  refine ⟨fun c hc => ?_, by have := Txt.slice_le x l u; omega⟩
  unfold Txt.slice at hc
  split at hc
  · exact h.1 c hc
  · obtain ⟨i, _, hi⟩ := List.mem_filterMap.mp (by simpa using hc)
    exact h.1 c (by
      obtain ⟨hl, rfl⟩ := Array.getElem?_eq_some_iff.mp hi
      simp)
theorem asc_upper {m : Nat} {x : Str} (h : ascB m x = true) : ascB (m + 1) (Txt.upper x) = true := by
  have h' := h
  simp only [ascB, Bool.and_eq_true, decide_eq_true_eq, List.all_eq_true] at h'
  rw [PyProof.Rows.upper_ascii h'.1]
  simp only [ascB, Bool.and_eq_true, decide_eq_true_eq, List.all_eq_true]
  refine ⟨fun c hc => ?_, ?_⟩
  · obtain ⟨b, hb, rfl⟩ := (by simpa using hc : ∃ a, a ∈ x.cps ∧ up1 a = c)
    have := h'.1 b (by simpa using hb)
    unfold up1
    split <;> omega
  · show (x.cps.map up1).size ≤ _
    rw [Array.size_map]
    have : x.cps.size ≤ 33 + m := h'.2
    omega
theorem asc_dig {m : Nat} {i : Int} (h : i.natAbs ≤ 1000000000000000000000000000000 + m) (hm : m ≤ 15) : ascB (m + 1) (toString i : String) = true := by
  simp only [ascB, Bool.and_eq_true, decide_eq_true_eq, List.all_eq_true]
  refine ⟨fun c hc => ?_, ?_⟩
  · rcases Nat.lt_or_ge c 128 with z | z
    · exact z
    · exact absurd hc (int_text_free' c ⟨by omega, .inr (by omega)⟩ i)
  · have h1 := int_text_length_le10 (a := i) (k := 31) (by decide) (by
      have : (10 : Nat) ^ 31 = 10000000000000000000000000000000 := by decide
      omega)
    have h2 : (Str.ofString (toString i)).length = (toString i).length := PySem.ofString_length _
    show (Str.ofString (toString i)).length ≤ _
    omega
/-! the law's bending -/
theorem x_addBB {ρ : DEnv} {x y : Val} {b : Bool} {i : Int} {Q : Val → DEnv → Prop} {X : Ex → DEnv → Prop} (h1 : x.peek ρ = some (.bl b)) (h2 : y.peek ρ = some (.int i)) (q : Q (.d (.int (bAdd b i))) ρ) : (opV addB x y ρ).wp Q X := b_opV h1 h2 rfl q
theorem x_addBI {ρ : DEnv} {x y : Val} {j i : Int} {Q : Val → DEnv → Prop} {X : Ex → DEnv → Prop} (h1 : x.peek ρ = some (.int j)) (h2 : y.peek ρ = some (.int i)) (q : Q (.d (.int (j + i))) ρ) : (opV addB x y ρ).wp Q X := b_opV h1 h2 rfl q
theorem x_subBB {ρ : DEnv} {x y : Val} {b : Bool} {i : Int} {Q : Val → DEnv → Prop} {X : Ex → DEnv → Prop} (h1 : x.peek ρ = some (.bl b)) (h2 : y.peek ρ = some (.int i)) (q : Q (.d (.int (bSub b i))) ρ) : (opV subB x y ρ).wp Q X := b_opV h1 h2 rfl q
theorem x_subBI {ρ : DEnv} {x y : Val} {j i : Int} {Q : Val → DEnv → Prop} {X : Ex → DEnv → Prop} (h1 : x.peek ρ = some (.int j)) (h2 : y.peek ρ = some (.int i)) (q : Q (.d (.int (j - i))) ρ) : (opV subB x y ρ).wp Q X := b_opV h1 h2 rfl q
theorem x_eqB1 {ρ : DEnv} {x y : Val} {b : Bool} {Q : Val → DEnv → Prop} {X : Ex → DEnv → Prop} (h1 : x.peek ρ = some (.bl b)) (h2 : y.peek ρ = some (.int 1)) (q : Q (.d (.bl b)) ρ) : (opV eqV' x y ρ).wp Q X := b_opV h1 h2 (by
  cases b
  · show bV (if SeqAt.shaped (.bool false) = true ∧ SeqAt.shaped (.int 1) = true then some (PyData.eqv (.bool false) (.int 1)) else none) = _
    rw [if_pos ⟨by decide +kernel, by decide +kernel⟩]
    simp only [PyData.eqv]
    rfl
  · show bV (if SeqAt.shaped (.bool true) = true ∧ SeqAt.shaped (.int 1) = true then some (PyData.eqv (.bool true) (.int 1)) else none) = _
    rw [if_pos ⟨by decide +kernel, by decide +kernel⟩]
    simp only [PyData.eqv]
    rfl) q
theorem x_strI {ρ : DEnv} {xs : List Val} {i : Int} {Q : Val → DEnv → Prop} {X : Ex → DEnv → Prop} (h1 : peekL ρ xs = some [.int i]) (h : i.natAbs ≤ 1000000000000000000000000000000 + 15) (q : Q (.d (.str (toString i))) ρ) : (callV strX xs ρ).wp Q X := b_callV h1 (by
  have h3 : (1000000000000000000000000000000 + 15 : Nat) < 2 ^ 200 := by decide
  have h2 : i.natAbs.log2 < 1920 := by
    by_cases h0 : i.natAbs = 0
    · rw [h0]; decide
    · have := (Nat.log2_lt h0).mpr (show i.natAbs < 2 ^ 200 by omega); omega
  exact if_pos h2) q
theorem x_strB {ρ : DEnv} {xs : List Val} {b : Bool} {Q : Val → DEnv → Prop} {X : Ex → DEnv → Prop} (h1 : peekL ρ xs = some [.bl b]) (q : Q (.d (.str (if b then "True" else "False"))) ρ) : (callV strX xs ρ).wp Q X := b_callV h1 rfl q
theorem asc_TF {m : Nat} {b : Bool} : ascB m (if b then "True" else "False") = true := by
  have h : ascB 0 (if b then "True" else "False") = true := by cases b <;> decide +kernel
  exact odd_mono (Nat.zero_le m) (.str _) h
abbrev oddS : SM := sRet (eCall CM.s_l_any (aCons (eVar 0) (aCons (eVar 2) aNil)))
theorem oddS_wp {p : List D} {c m : Nat} {d : D} {ds : List D} {P : Po} (hp : Pot c p) (hc : c < 900000000) (h : ∀ y ∈ ds, Bnt m d y) (h0 : 0 < ds.length) (hl : ds.length ≤ 1000)
    (q : ∀ y p', Bnt m d y → Pot (c + 1) p' → P.rt (.d y) [.ow (.lst p') .bor, .d d, .ow (.lst ds) .own]) : (oddS [.ow (.lst p) .bor, .d d, .ow (.lst ds) .own]).wp P := by
  unfold oddS
  repeat fail "WU3"
  refine any_wp hp (by omega) (.inr (.inl rfl)) h0 (by omega) fun y p' hy hp' => ?_
  repeat fail "WU3"
  exact q y p' (h y hy) hp'
theorem mem_two {α : Type} {as bs : List α} {x : α} (h : x ∈ as ++ (List.replicate (Int.toNat 2) bs).flatten) : x ∈ as ∨ x ∈ bs := by
  rcases List.mem_append.mp h with h | h
  · exact .inl h
  · obtain ⟨l, hl, hx⟩ := List.mem_flatten.mp h
    rw [List.eq_of_mem_replicate hl] at hx
    exact .inr hx
def oddT (xs : List D) : List D := [.lst xs, .tup (DL.cutD xs none (some (-1))), .tup (xs ++ DL.cutD xs (some (-1)) none), .tup xs.reverse, .tup [.tup xs], .tup (DL.cutD xs (some 1) none)]
theorem oddT_ok {m : Nat} {xs : List D} (h : oddL m xs = true) : ∀ y ∈ oddT xs, Bnt m (.tup xs) y := fun y hy => by
  have hd : depL xs + 1 ≤ (D.tup xs).dep := by simp only [D.dep]; omega
  have hc : cntL xs + 1 ≤ (D.tup xs).cnt := by simp only [D.cnt]; omega
  simp only [oddT, List.mem_cons, List.not_mem_nil, or_false] at hy
  rcases hy with rfl | rfl | rfl | rfl | rfl | rfl
  · exact (bnt_seq h hd hc (fun x hx => hx) (by omega)).2
  · exact (bnt_seq h hd hc (fun x hx => cut_sub.subset hx) (by have := cntL_sub (cut_sub (xs := xs) (lo := none) (hi := some (-1))); omega)).1
  · refine (bnt_seq h hd hc (fun x hx => ?_) (by rw [cntL_app]; have := cntL_sub (cut_sub (xs := xs) (lo := some (-1)) (hi := none)); omega)).1
    rcases List.mem_append.mp hx with z | z
    · exact z
    · exact cut_sub.subset z
  · exact (bnt_seq h hd hc (fun x hx => List.mem_reverse.mp hx) (by rw [cntL_rev]; omega)).1
  · exact (bnt_wrap (by simpa [D.oddB] using h)).1
  · exact (bnt_seq h hd hc (fun x hx => cut_sub.subset hx) (by have := cntL_sub (cut_sub (xs := xs) (lo := some 1) (hi := none)); omega)).1
theorem odd_tup {p : List D} {c m : Nat} {xs : List D} {Q : Val → DEnv → Prop} {X : Ex → DEnv → Prop} (hp : Pot c p) (hc : c < 900000000) (h : oddL m xs = true) (hl : xs.length ≤ 100000)
    (q : ∀ y p', Bnt m (.tup xs) y → Pot (c + 1) p' → Q (.d y) [.ow (.lst p') .bor, .d (.tup xs)]) : (s_l_odd [.ow (.lst p) .bor, .d (.tup xs)]).wp Q X := by
  have hcl := cutD_len (ns := xs) (lo := some (-1)) (hi := none)
  unfold s_l_odd e_l_odd; with_reducible refine f_fnW (by with_unfolding_all exact rfl) ?_
  repeat fail "WU3"
  rw [p9o, p30o]
  (repeat (case orE => ((with_reducible refine s_as (f := oddS) (ρ' := [.ow (.lst p) .bor, .d (.tup xs), .ow (.lst (oddC ++ (List.replicate (Int.toNat 2) (oddT xs)).flatten)) .own]) (by with_unfolding_all exact rfl) (oddS_wp hp hc (m := m) ?_ ?_ ?_ (fun y p' hy hp' => ?_)))); (fail "WU3"); (with_reducible refine x_addT (by with_unfolding_all exact rfl) (by with_unfolding_all exact rfl) (by omega) ?_); (with_reducible refine x_repL (k := 2) (by with_unfolding_all exact rfl) (by with_unfolding_all exact rfl) (by omega) (by simp) ?_); (with_reducible refine x_addL (by with_unfolding_all exact rfl) (by with_unfolding_all exact rfl) (by simp) ?_)))
  · intro y hy
    rcases mem_two hy with z | z
    · exact bnt_c z
    · exact oddT_ok h y z
  · rw [List.length_append]; exact Nat.lt_of_lt_of_le (by decide : 0 < oddC.length) (Nat.le_add_right _ _)
  · simp [oddC, oddT]
  · with_unfolding_all exact q y p' hy hp'
def oddW (x : Str) : List D := [.str (x ++ "s"), .str (Txt.slice x none (some (-1))), .str (Txt.upper x), .tup [.str x], .lst [.str x]]
theorem x_addSs {ρ : DEnv} {x y : Val} {a b : Str} {Q : Val → DEnv → Prop} {X : Ex → DEnv → Prop} (h1 : x.peek ρ = some (.str a)) (h2 : y.peek ρ = some (.str b)) (h : a.length + b.length ≤ 10000000) (q : Q (.d (.str (a ++ b))) ρ) : (opV addD x y ρ).wp Q X := b_opV h1 h2 (by
  have e : addS (.str a) (.str b) = some (.d (.str (a ++ b))) := if_pos (by rw [sizeLine_eq]; omega)
  show (match addS (.str a) (.str b) with | some z => some z | none => match addL (.str a) (.str b) with | some z => some z | none => addT (.str a) (.str b)) = _
  rw [e]) q
theorem x_slS {ρ : DEnv} {x : Val} {a : Str} {lo hi : Option Int} {Q : Val → DEnv → Prop} {X : Ex → DEnv → Prop} (h1 : x.peek ρ = some (.str a)) (h : a.length ≤ 1000) (q : Q (.d (.str (Txt.slice a lo hi))) ρ) : (unV (fun d => sliceD d lo hi) x ρ).wp Q X := b_unV h1 (if_pos (by omega)) q
theorem x_up {ρ : DEnv} {x : Val} {a : Str} {Q : Val → DEnv → Prop} {X : Ex → DEnv → Prop} (h1 : x.peek ρ = some (.str a)) (h : a.length ≤ 1000) (q : Q (.d (.str (Txt.upper a))) ρ) : (unV upD x ρ).wp Q X := b_unV h1 (if_pos (by omega)) q
theorem oddW_ok {m : Nat} {x : Str} (h : ascB m x = true) : ∀ y ∈ oddW x, Bnt m (.str x) y := fun y hy => by
  simp only [oddW, List.mem_cons, List.not_mem_nil, or_false] at hy
  rcases hy with rfl | rfl | rfl | rfl | rfl
  · exact bnt_str (asc_app h)
  · exact bnt_str (asc_slice h)
  · exact bnt_str (asc_upper h)
  · exact (bnt_wrap (d := .str x) h).1
  · exact (bnt_wrap (d := .str x) h).2
theorem odd_str {p : List D} {c m : Nat} {x : Str} {Q : Val → DEnv → Prop} {X : Ex → DEnv → Prop} (hp : Pot c p) (hc : c < 900000000) (hm : m ≤ 15) (h : ascB m x = true)
    (q : ∀ y p', Bnt m (.str x) y → Pot (c + 1) p' → Q (.d y) [.ow (.lst p') .bor, .d (.str x)]) : (s_l_odd [.ow (.lst p) .bor, .d (.str x)]).wp Q X := by
  have hx := (asc_ok h).2
  have h1 : ("s" : Str).length = 1 := by decide +kernel
  unfold s_l_odd e_l_odd; with_reducible refine f_fnW (by with_unfolding_all exact rfl) ?_
  (repeat (case orE => ((rw [p9o])); ((rw [p30o])); ((with_reducible refine s_as (f := oddS) (ρ' := [.ow (.lst p) .bor, .d (.str x), .ow (.lst (oddC ++ (List.replicate (Int.toNat 2) (oddW x)).flatten)) .own]) (by with_unfolding_all exact rfl) (oddS_wp hp hc (m := m) ?_ ?_ ?_ (fun y p' hy hp' => ?_)))); (fail "WU3"); (with_reducible refine x_addSs (by with_unfolding_all exact rfl) (by with_unfolding_all exact rfl) (by omega) ?_); (with_reducible refine x_slS (by with_unfolding_all exact rfl) (by omega) ?_); (with_reducible refine x_up (by with_unfolding_all exact rfl) (by omega) ?_); (with_reducible refine x_repL (k := 2) (by with_unfolding_all exact rfl) (by with_unfolding_all exact rfl) (by omega) (by simp) ?_); (with_reducible refine x_addL (by with_unfolding_all exact rfl) (by with_unfolding_all exact rfl) (by simp) ?_)))
  · intro y hy
    rcases mem_two hy with z | z
    · exact bnt_c z
    · exact oddW_ok h y z
  · rw [List.length_append]; exact Nat.lt_of_lt_of_le (by decide : 0 < oddC.length) (Nat.le_add_right _ _)
  · simp [oddC, oddW]
  · with_unfolding_all exact q y p' hy hp'
def oddI (i : Int) : List D := [.int (i + 1), .int (i - 1), .str (toString i : String), .bl (decide (i = 1)), .int (-i)]
theorem odd_int {p : List D} {c m : Nat} {i : Int} {Q : Val → DEnv → Prop} {X : Ex → DEnv → Prop} (hp : Pot c p) (hc : c < 900000000) (hm : m ≤ 15) (h : i.natAbs ≤ 1000000000000000000000000000000 + m)
    (q : ∀ y p', Bnt m (.int i) y → Pot (c + 1) p' → Q (.d y) [.ow (.lst p') .bor, .d (.int i)]) : (s_l_odd [.ow (.lst p) .bor, .d (.int i)]).wp Q X := by
  unfold s_l_odd e_l_odd; with_reducible refine f_fnW (by with_unfolding_all exact rfl) ?_
  (repeat (case orE => ((rw [p9o])); ((rw [p30o])); ((with_reducible refine s_as (f := oddS) (ρ' := [.ow (.lst p) .bor, .d (.int i), .ow (.lst (oddC ++ (List.replicate (Int.toNat 2) (oddI i)).flatten)) .own]) (by with_unfolding_all exact rfl) (oddS_wp hp hc (m := m) ?_ ?_ ?_ (fun y p' hy hp' => ?_)))); (fail "WU3"); (with_reducible refine x_addBI (by with_unfolding_all exact rfl) (by with_unfolding_all exact rfl) ?_); (with_reducible refine x_subBI (by with_unfolding_all exact rfl) (by with_unfolding_all exact rfl) ?_); (with_reducible refine x_strI (by with_unfolding_all exact rfl) (by omega) ?_); (with_reducible refine x_repL (k := 2) (by with_unfolding_all exact rfl) (by with_unfolding_all exact rfl) (by omega) (by simp) ?_); (with_reducible refine x_addL (by with_unfolding_all exact rfl) (by with_unfolding_all exact rfl) (by simp) ?_)))
  · intro y hy
    rcases mem_two hy with z | z
    · exact bnt_c z
    · simp only [oddI, List.mem_cons, List.not_mem_nil, or_false] at z
      rcases z with rfl | rfl | rfl | rfl | rfl
      · exact bnt_int (by omega)
      · exact bnt_int (by omega)
      · exact bnt_str (asc_dig h hm)
      · exact bnt_bl
      · exact bnt_int (by omega)
  · rw [List.length_append]; exact Nat.lt_of_lt_of_le (by decide : 0 < oddC.length) (Nat.le_add_right _ _)
  · simp [oddC, oddI]
  · with_unfolding_all exact q y p' hy hp'
def oddL1 (b : Bool) : List D := [.int (bAdd b 1), .int (bSub b 1), .str (if b then "True" else "False"), .bl b, .int (-(if b then 1 else 0))]
theorem odd_bl {p : List D} {c m : Nat} {b : Bool} {Q : Val → DEnv → Prop} {X : Ex → DEnv → Prop} (hp : Pot c p) (hc : c < 900000000)
    (q : ∀ y p', Bnt m (.bl b) y → Pot (c + 1) p' → Q (.d y) [.ow (.lst p') .bor, .d (.bl b)]) : (s_l_odd [.ow (.lst p) .bor, .d (.bl b)]).wp Q X := by
  unfold s_l_odd e_l_odd; with_reducible refine f_fnW (by with_unfolding_all exact rfl) ?_
  (repeat (case orE => ((rw [p9o])); ((rw [p30o])); (with_reducible refine x_eqB1 (by with_unfolding_all exact rfl) (by with_unfolding_all exact rfl) ?_); ((with_reducible refine s_as (f := oddS) (ρ' := [.ow (.lst p) .bor, .d (.bl b), .ow (.lst (oddC ++ (List.replicate (Int.toNat 2) (oddL1 b)).flatten)) .own]) (by with_unfolding_all exact rfl) (oddS_wp hp hc (m := m) ?_ ?_ ?_ (fun y p' hy hp' => ?_)))); (fail "WU3"); (with_reducible refine x_addBB (by with_unfolding_all exact rfl) (by with_unfolding_all exact rfl) ?_); (with_reducible refine x_subBB (by with_unfolding_all exact rfl) (by with_unfolding_all exact rfl) ?_); (with_reducible refine x_strB (by with_unfolding_all exact rfl) ?_); (with_reducible refine x_repL (k := 2) (by with_unfolding_all exact rfl) (by with_unfolding_all exact rfl) (by omega) (by simp) ?_); (with_reducible refine x_addL (by with_unfolding_all exact rfl) (by with_unfolding_all exact rfl) (by simp) ?_)))
  · intro y hy
    rcases mem_two hy with z | z
    · exact bnt_c z
    · simp only [oddL1, List.mem_cons, List.not_mem_nil, or_false] at z
      rcases z with rfl | rfl | rfl | rfl | rfl
      · exact bnt_int (by unfold bAdd; split <;> omega)
      · exact bnt_int (by unfold bSub; split <;> omega)
      · exact bnt_str asc_TF
      · exact bnt_bl
      · exact bnt_int (by split <;> omega)
  · rw [List.length_append]; exact Nat.lt_of_lt_of_le (by decide : 0 < oddC.length) (Nat.le_add_right _ _)
  · simp [oddC, oddL1]
  · with_unfolding_all exact q y p' hy hp'
theorem odd_else {p : List D} {c m : Nat} {d : D} {Q : Val → DEnv → Prop} {X : Ex → DEnv → Prop} (hp : Pot c p) (hc : c < 900000000) (hd : d = .non ∨ d = .dic [] [] ∨ ∃ xs, d = .lst xs)
    (q : ∀ y p', Bnt m d y → Pot (c + 1) p' → Q (.d y) [.ow (.lst p') .bor, .d d]) : (s_l_odd [.ow (.lst p) .bor, .d d]).wp Q X := by
  rcases hd with rfl | rfl | ⟨xs, rfl⟩
  · unfold s_l_odd e_l_odd; with_reducible refine f_fnW (by with_unfolding_all exact rfl) ?_
    (repeat (case orE => ((rw [p9o])); ((rw [p30o])); ((with_reducible refine s_as (f := oddS) (ρ' := [.ow (.lst p) .bor, .d .non, .ow (.lst oddC) .own]) (by with_unfolding_all exact rfl) (oddS_wp hp hc (m := m) (fun y hy => bnt_c hy) (by decide) (by decide) (fun y p' hy hp' => ?_)))); (fail "WU3")))
    with_unfolding_all exact q y p' hy hp'
  · unfold s_l_odd e_l_odd; with_reducible refine f_fnW (by with_unfolding_all exact rfl) ?_
    (repeat (case orE => ((rw [p9o])); ((rw [p30o])); ((with_reducible refine s_as (f := oddS) (ρ' := [.ow (.lst p) .bor, .d (.dic [] []), .ow (.lst oddC) .own]) (by with_unfolding_all exact rfl) (oddS_wp hp hc (m := m) (fun y hy => bnt_c hy) (by decide) (by decide) (fun y p' hy hp' => ?_)))); (fail "WU3")))
    with_unfolding_all exact q y p' hy hp'
  · unfold s_l_odd e_l_odd; with_reducible refine f_fnW (by with_unfolding_all exact rfl) ?_
    (repeat (case orE => ((rw [p9o])); ((rw [p30o])); ((with_reducible refine s_as (f := oddS) (ρ' := [.ow (.lst p) .bor, .d (.lst xs), .ow (.lst oddC) .own]) (by with_unfolding_all exact rfl) (oddS_wp hp hc (m := m) (fun y hy => bnt_c hy) (by decide) (by decide) (fun y p' hy hp' => ?_)))); (fail "WU3")))
    with_unfolding_all exact q y p' hy hp'
theorem odd_wp {p : List D} {c m : Nat} {d : D} {Q : Val → DEnv → Prop} {X : Ex → DEnv → Prop} (hp : Pot c p) (hc : c < 900000000) (hm : m ≤ 15) (h : d.oddB m = true) (hl : d.cnt ≤ 100000)
    (q : ∀ y p', Bnt m d y → Pot (c + 1) p' → Q (.d y) [.ow (.lst p') .bor, .d d]) : (s_l_odd [.ow (.lst p) .bor, .d d]).wp Q X := by
  have len : ∀ xs : List D, xs.length ≤ cntL xs := fun xs => by
    induction xs with
    | nil => exact Nat.zero_le _
    | cons x xs ih => have := pos_cnt x; simp only [cntL, List.length_cons]; omega
  cases d with
  | tup xs => exact odd_tup hp hc (by simpa [D.oddB] using h) (by have := len xs; simp only [D.cnt] at hl; omega) q
  | str x => exact odd_str hp hc hm (by simpa [D.oddB] using h) q
  | int i => exact odd_int hp hc hm (by simpa [D.oddB] using h) q
  | bl b => exact odd_bl hp hc q
  | non => exact odd_else hp hc (.inl rfl) q
  | lst xs => exact odd_else hp hc (.inr (.inr ⟨xs, rfl⟩)) q
  | dic ks vs =>
    match ks, vs, h with
    | [], [], h => exact odd_else hp hc (.inr (.inl rfl)) q
    | [], _ :: _, h => simp [D.oddB] at h
    | _ :: _, _, h => simp [D.oddB] at h
  | set _ => simp [D.oddB] at h
  | scr _ => simp [D.oddB] at h
  | ty _ => simp [D.oddB] at h
  | obj _ _ _ => simp [D.oddB] at h
  | ins _ _ _ => simp [D.oddB] at h
end CM
set_option maxHeartbeats 2000000
/-! DL84: xs.index(i), a list of ints that is any expression. -/
namespace DL
open PySem PySem.Spec PyProof.Rows L2
variable [TabT]
def indexD : List D → Option Val
  | [.lst ds, .int i] => match intsD ds with
    | some ns => if i ∈ ns then some (.d (.int (ns.idxOf i : Nat))) else none
    | none => none
  | _ => none
def eIdxL (f : EM) (gl : M (List Val)) : EM := fun ρ => (f ρ).bind fun x ρ1 => match x.peek ρ1 with
  | some (.lst _) => (gl ρ1).bind fun ys ρ2 => callV indexD (x :: ys) ρ2
  | _ => .bad
section
variable {ρ : DEnv} {f : EM} {gl : M (List Val)} {x : Val} {xs : List Val} {Q : Val → DEnv → Prop} {X : Ex → DEnv → Prop}
def idxLV (gl : M (List Val)) (x : Val) : EM := fun ρ => match x.peek ρ with
  | some (.lst _) => (gl ρ).bind fun ys ρ2 => callV indexD (x :: ys) ρ2
  | _ => .bad
theorem b_idxL (q : (f ρ).wp (fun x ρ1 => (idxLV gl x ρ1).wp Q X) X) : (eIdxL f gl ρ).wp Q X := b_bind q
instance st_b_idxL : St ((eIdxL f gl ρ).wp Q X) ((f ρ).wp (fun x ρ1 => (idxLV gl x ρ1).wp Q X) X) := ⟨b_idxL⟩
end
end DL
set_option maxHeartbeats 1000000
/-! DL85: whether data of any depth does not stand in a list or a tuple. -/
namespace DL
open PySem PySem.Spec PyProof.Rows L2
end DL
set_option maxHeartbeats 2000000
/-! DL86: list(d), a dict that is data. -/
namespace DL
open PySem PySem.Spec PyProof.Rows L2
end DL
set_option maxHeartbeats 2000000
/-! DL87: whether data of any kind (empty dicts too) stands in a list of ints. -/
namespace DL
open PySem PySem.Spec PyProof.Rows L2
open PySem.SeqAt
end DL
set_option maxHeartbeats 2000000
/-! DL88: != with the empty list, of a list of any data. -/
namespace DL
open PySem PySem.Spec PyProof.Rows L2
end DL
set_option maxHeartbeats 2000000
/-! DL89: [one for log in logs for one in log], logs a tuple of tuples. -/
namespace DL
open PySem PySem.Spec PyProof.Rows L2
end DL
set_option maxHeartbeats 2000000
/-! DL90: def f(*logs), called with data by place; [one for log in logs for one in log]. -/
namespace DL
open PySem PySem.Spec PyProof.Rows L2
variable [TabT]
/-! ### a def whose one parameter takes all arguments -/
def spStar (K : PySem.W.Frag) (mg : Str → Option Value) (Fm : FM) : Sp := fun vs H Q E => vs.length ≤ sizeLine ∧ ∀ p, H p = none → spD K mg 1 Fm [V.ref p] (upd H p (.tup vs)) Q E
def GStar (P : Program) (w : World) (K : PySem.W.Frag) (mg : Str → Option Value) (base : Heap) (k : Nat) (f : Addr) (Fm : FM) : Prop :=
  ∀ (A : Around) (outer : List Env) (s : Shared) (H : Hp) (us : List Value) (vs : List V) (Q : VK) (E : XK), Room k A → NoGd A → Env0 P w K mg base A outer s H → Vals vs us → spStar K mg Fm vs H Q E → codeAny (model P w) A (.call (.ref f) ⟨us, []⟩) (CR (L2.CX P w) outer P w H s Q E) s
theorem GStar.mono {P : Program} {w : World} {K : PySem.W.Frag} {mg : Str → Option Value} {base : Heap} {j k : Nat} {f : Addr} {Fm : FM} (G : GStar P w K mg base j f Fm) (h : j ≤ k) : GStar P w K mg base k f Fm := fun A outer s H us vs Q E hr hG => G A outer s H us vs Q E (hr.mono h) hG
/-! ### calls -/
def eCallS (Fm : FM) (g : M (List Val)) : EM := fun ρ => (g ρ).bind fun xs ρ1 => (mkTup xs ρ1).bind fun t ρ2 => callF Fm [t] ρ2
/-! ### reading rules -/
section
variable {ρ : DEnv} {i j k : Nat} {ds : List D} {Fm : FM} {g : M (List Val)} {Q : Val → DEnv → Prop} {X : Ex → DEnv → Prop}
theorem b_callS (q : (g ρ).wp (fun xs ρ1 => (mkTup xs ρ1).wp (fun t ρ2 => (callF Fm [t] ρ2).wp Q X) X) X) : (eCallS Fm g ρ).wp Q X := b_bind (R.wp_mono q (fun xs ρ1 h => b_bind h) fun _ _ h => h)
instance st_b_callS : St ((eCallS Fm g ρ).wp Q X) ((g ρ).wp (fun xs ρ1 => (mkTup xs ρ1).wp (fun t ρ2 => (callF Fm [t] ρ2).wp Q X) X) X) := ⟨b_callS⟩
end
end DL
set_option maxHeartbeats 2000000
/-! DL91: a def passes the thunk that it is given on to another one. -/
namespace DL
open PySem PySem.Spec PyProof.Rows L2
end DL
set_option maxHeartbeats 2000000
/-! DL92: {k: e}, a dict of one written key and a value that is data. -/
namespace DL
open PySem PySem.Spec PyProof.Rows L2
variable [TabT]
def dict1V (k : Key) : Val → EM
  | .d d => fun ρ1 => .ok (.fr (.dic [k] [d])) ρ1
  | _ => fun _ => .bad
def eDict1 (k : Key) (f : EM) : EM := fun ρ => (f ρ).bind (dict1V k)
section
variable {k : Key} {f : EM} {d : D} {ρ : DEnv} {Q : Val → DEnv → Prop} {X : Ex → DEnv → Prop}
theorem b_dict1 (q : (f ρ).wp (fun x ρ1 => (dict1V k x ρ1).wp Q X) X) : (eDict1 k f ρ).wp Q X := b_bind q
theorem b_dict1V (q : Q (.fr (.dic [k] [d])) ρ) : (dict1V k (.d d) ρ).wp Q X := q
instance st_b_dict1 : St ((eDict1 k f ρ).wp Q X) ((f ρ).wp (fun x ρ1 => (dict1V k x ρ1).wp Q X) X) := ⟨b_dict1⟩
instance st_b_dict1V : St ((dict1V k (.d d) ρ).wp Q X) (Q (.fr (.dic [k] [d])) ρ) := ⟨b_dict1V⟩
end
end DL
set_option maxHeartbeats 2000000
/-! DL93: d.values() walked. -/
namespace DL
open PySem PySem.Spec PyProof.Rows L2
variable [TabT]
def valSrc (x : Val) (ρ : DEnv) : R Src := (x.fzA ρ).bind fun y ρ1 => match y with
  | .d (.dic ks ds) => .ok (ds, none) ρ1
  | _ => .bad
def iVal (f : EM) : IM := fun ρ => (f ρ).bind valSrc
/-! ### its reading -/
section
variable {ρ : DEnv} {QI : Src → DEnv → Prop} {X : Ex → DEnv → Prop}
theorem b_ival {f : EM} (q : (f ρ).wp (fun x ρ1 => (valSrc x ρ1).wp QI X) X) : (iVal f ρ).wp QI X := b_bind q
theorem b_valD {ks : List Key} {ds : List D} (q : QI (ds, none) ρ) : (valSrc (.d (.dic ks ds)) ρ).wp QI X := q
instance st_ival {f : EM} : St ((iVal f ρ).wp QI X) ((f ρ).wp (fun x ρ1 => (valSrc x ρ1).wp QI X) X) := ⟨b_ival⟩
instance st_valD {ks : List Key} {ds : List D} : St ((valSrc (.d (.dic ks ds)) ρ).wp QI X) (QI (ds, none) ρ) := ⟨b_valD⟩
end
end DL
set_option maxHeartbeats 2000000
/-! DL94: an instance that __init__ is still building: its fields are data, or objects of its own (dicts that are filled). -/
namespace DL
open PySem PySem.Spec PyProof.Rows L2
variable [TabT]
/-! ### data without instances -/
mutual
def D.nI : D → Bool
  | .tup xs => nIL xs
  | .lst xs => nIL xs
  | .dic _ vs => nIL vs
  | .obj _ _ vs => nIL vs
  | .ins _ _ _ => false
  | .set (_ :: _ :: _) => false
  | _ => true
def nIL : List D → Bool
  | [] => true
  | x :: xs => x.nI && nIL xs
end
theorem nIL_cons {x : D} {xs : List D} (h : nIL (x :: xs) = true) : x.nI = true ∧ nIL xs = true := by unfold nIL at h; simpa using h
structure DropLe (F F' : Hp) : Prop where
  «1» : ∀ a xs, F a = some (.lst xs) → F' a = some (.lst xs)
  «2» : ∀ a u, Rd F a (.tup u) → Rd F' a (.tup u)
  «3» : ∀ a u, Rd F a (.lst u) → Rd F' a (.lst u)
  fr : ∀ a o u, F a = some (.frz o u) → F' a = some (.frz o u)
  xo : ∀ a cls d, F a = some (xoO a cls d) → F' a = some (xoO a cls d)
  xd : ∀ a fs, F a = some (.xd fs) → F' a = some (.xd fs)
  x0 : ∀ a cls, F a = some (xo0 a cls) → F' a = some (xo0 a cls)
section
variable {K : PySem.W.Frag} {F F' : Hp}
theorem DropLe.sqT (h : DropLe F F') {a : Addr} {xs : List V} (s : SqT K F a xs) : SqT K F' a xs := by
  rcases s with s | s
  · exact .inl (h.2 _ _ s)
  · exact .inr s
theorem DropLe.sqL (h : DropLe F F') {a : Addr} {xs : List V} (s : SqL K F a xs) : SqL K F' a xs := by
  rcases s with s | s
  · exact .inl (h.3 _ _ s)
  · exact .inr s
mutual
theorem Rep.drop (h : DropLe F F') : ∀ {v : V} {d : D}, Rep K F v d → d.nI = true → Rep K F' v d
  | _, _, .non, _ => .non
  | _, _, .bl b, _ => .bl b
  | _, _, .int i, _ => .int i
  | _, _, .str x, _ => .str x
  | _, _, .lst e r, n => .lst (h.1 _ _ e) (RepL.drop' h r n)
  | _, _, .tup e r, n => .tup (h.sqT e) (RepL.drop' h r n)
  | _, _, .dic e l r, n => .dic (h.fr _ _ _ e) l (RepL.drop' h r n)
  | _, _, .scr e, _ => .scr (h.sqL e)
  | _, _, .ty n, _ => .ty n
  | _, _, .obj e1 e2 e3 l r, n => .obj (h.xo _ _ _ e1) e2 (h.xd _ _ e3) l (RepL.drop' h r n)
  | _, _, .ob0 e1 e2, _ => .ob0 (h.x0 _ _ e1) e2
  | _, _, .pt a, _ => .pt a
  | _, _, .opq a, _ => .opq a
  | _, _, .cch e, n => by simp [D.nI] at n
  | _, _, .ins e1 e2 l r, n => by simp [D.nI] at n
theorem RepL.drop' (h : DropLe F F') : ∀ {v : List V} {d : List D}, RepL K F v d → nIL d = true → RepL K F' v d
  | _, _, .nil, _ => .nil
  | _, _, .cons a b, n => .cons (Rep.drop h a (nIL_cons n).1) (RepL.drop' h b (nIL_cons n).2)
end
end
/-! ### the half-built instance -/
inductive FV where
  | d (x : D) | ow (c : Cont)
abbrev Flds := List (Str × FV)
def Cont.nI : Cont → Bool
  | .lst xs => nIL xs
  | .dic _ vs => nIL vs
def okE (ρ : DEnv) : Bool := ρ.all fun s => match s with
  | .un => true
  | .d x => x.nI
  | .ow _ _ => false
theorem okE_get {ρ : DEnv} {i : Nat} {s : Slot} (h : okE ρ = true) (e : ρ[i]? = some s) : s = .un ∨ ∃ x, s = .d x ∧ x.nI = true := by
  have := List.all_eq_true.mp h s (List.mem_of_getElem? e)
  cases s with
  | un => exact .inl rfl
  | d x => exact .inr ⟨x, rfl, this⟩
  | ow c m => cases this
theorem okE_now {σ : L2.St} {ρ : DEnv} {b : Addr} (h : okE ρ = true) : ¬ Ow σ ρ b := fun ⟨i, c, m, e, _⟩ => by
  rcases okE_get h e with z | ⟨x, z, _⟩ <;> cases z
/-- what was there ahead of the making stays -/
structure EvB (F0 H0 F H : Hp) : Prop where
  ext : Same F0 F
  keep : ∀ b o, H0 b = some o → NT o → H b = some o
  newF : ∀ b, F0 b = none → F b ≠ none → H0 b = none
  dom : ∀ b, H0 b ≠ none → H b ≠ none
theorem EvB.refl {F H : Hp} : EvB F H F H := ⟨.refl _, fun _ _ e _ => e, fun _ e n => absurd e n, fun _ e => e⟩
theorem EvB.step {F0 H0 F H F' H' : Hp} {σ σ' : L2.St} {ρ ρ' : DEnv} (a : EvB F0 H0 F H) (no : ∀ b, ¬ Ow σ ρ b) (ev : Ev σ ρ F H σ' ρ' F' H') : EvB F0 H0 F' H' where
  ext := a.ext.trans ev.ext
  keep := fun b o e n => ev.keep b o (a.keep b o e n) (fun z => no b z.ow) n
  newF := fun b e n => by
    by_cases q : F b = none
    · rcases ev.newF b q n with z | z
      · cases hb : H0 b with
        | none => rfl
        | some o => exact absurd z (a.dom b (by rw [hb]; simp))
      · exact absurd z (no b)
    · exact a.newF b e q
  dom := fun b h => ev.dom b (a.dom b h)
/-- a field's value -/
def FR (K : PySem.W.Frag) (F H H0 : Hp) (a : Addr) (v : V) : FV → Prop
  | .d x => Rep K F v x ∧ x.nI = true
  | .ow c => ∃ p, v = .ref p ∧ p ≠ a ∧ F p = none ∧ H0 p = none ∧ CRep K F H p c ∧ c.nI = true
structure ST (K : PySem.W.Frag) (C a dx : Addr) (F0 H0 : Hp) (σ : L2.St) (ρ : DEnv) (I : Flds) (vs : List V) (F H : Hp) : Prop where
  sr : SR K F H σ ρ
  ev : EvB F0 H0 F H
  env : okE ρ = true
  s0 : σ[0]? = some (some (.ref a))
  r0 : ρ[0]? = some .un
  ins : H a = some (.ins C dx ((I.map (·.1)).zip vs))
  len : vs.length = I.length
  fa : F a = none
  na : H0 a = none
  fld : ∀ (i : Nat) (f : Str) (x : FV), I[i]? = some (f, x) → ∃ v, vs[i]? = some v ∧ FR K F H H0 a v x
  dist : ∀ (i j : Nat) (f g : Str) (c c' : Cont) (p : Addr), I[i]? = some (f, .ow c) → I[j]? = some (g, .ow c') → vs[i]? = some (.ref p) → vs[j]? = some (.ref p) → i = j
section
variable {K : PySem.W.Frag} {C a dx : Addr} {F0 H0 F H F' H' : Hp} {σ : L2.St} {ρ ρ1 : DEnv} {I : Flds} {vs : List V}
/-- the same instance in a later heap -/
theorem FR.mono {v : V} {x : FV} (h : FR K F H H0 a v x) (e : Same F F') (k : ∀ b o, H b = some o → F b = none → NT o → H' b = some o) (n : ∀ b, b ≠ a → F b = none → H b ≠ none → F' b = none) : FR K F' H' H0 a v x := by
  cases x with
  | d x => exact ⟨h.1.mono (.of e), h.2⟩
  | ow c =>
    obtain ⟨p, e1, e2, e3, e4, e5, e6⟩ := h
    obtain ⟨o, ho⟩ := e5.some
    exact ⟨p, e1, e2, n p e2 e3 (by rw [ho]; simp), e4, e5.mono (.of e) ((k p o ho e3 (e5.nt ho)).trans ho.symm), e6⟩
end
end DL
set_option maxHeartbeats 2000000
/-! DL95: __init__: values, tests, statements over the half-built instance. -/
namespace DL
open PySem PySem.Spec PyProof.Rows L2
variable [TabT]
abbrev MV := DEnv → Flds → Option (Val × DEnv)
abbrev MT := DEnv → Flds → Option (Bool × DEnv)
abbrev MI := DEnv → Flds → Option (DEnv × Flds)
section
variable {X : Cx} {W : WX} {C : Addr} {c : Str} {e e1 e2 k : Expr} {f : EM} {t : M Bool} {h h1 h2 : MV} {ht : MT} {g g1 g2 : MI} {st : Stmt} {sts sts' : List Stmt} {pos pos' : Pos}
/-- self.f[k], self.f a dict that is being filled -/
def FV.lk (I : Flds) (f : Str) : Option FV := I.lookup f
/-! ### statements -/
end
end DL
set_option maxHeartbeats 2000000
/-! DL96: __init__: stores into fields, loops, the end. -/
namespace DL
open PySem PySem.Spec PyProof.Rows L2
variable [TabT]
theorem nk_ins {b C dx : Addr} {fs : List (Str × V)} : ¬ KT b (.ins C dx fs) := fun z => by
  rcases z with ⟨ps, z⟩ | ⟨q, z⟩
  · cases z
  · unfold LamX.CodeO at z; cases z
section
variable {K : PySem.W.Frag} {C a dx : Addr} {F0 H0 F H F' H' : Hp} {σ σ' : L2.St} {ρ ρ' : DEnv} {I : Flds} {vs : List V}
/-- a step that changes no field -/
theorem ST.step (s : ST K C a dx F0 H0 σ ρ I vs F H) (sr : SR K F' H' σ' ρ') (ev : Ev σ ρ F H σ' ρ' F' H') (ok : okE ρ' = true) (e0 : σ'[0]? = σ[0]?) (r0 : ρ'[0]? = some .un) : ST K C a dx F0 H0 σ' ρ' I vs F' H' := by
  have no : ∀ b, ¬ Ow σ ρ b := fun b => okE_now s.env
  have keep : ∀ b o, H b = some o → NT o → H' b = some o := fun b o e n => ev.keep b o e (fun z => no b z.ow) n
  have nf : ∀ b, F b = none → H b ≠ none → F' b = none := fun b e n => by
    refine Classical.byContradiction fun q => ?_
    rcases ev.newF b e q with w | w
    · exact n w
    · exact no b w
  exact ⟨sr, s.ev.step no ev, ok, e0.trans s.s0, r0, keep _ _ s.ins (fun ps z => by cases z), s.len, nf a s.fa (by rw [s.ins]; simp), s.na, fun i f x e => let ⟨v, q, r⟩ := s.fld i f x e; ⟨v, q, r.mono ev.ext (fun b o e _ n => keep b o e n) fun b _ => nf b⟩, s.dist⟩
def setF (nm : Str) (fv : FV) : Flds → Flds
  | [] => []
  | (g, y) :: I => if (nm == g) = true then (g, fv) :: I else (g, y) :: setF nm fv I
theorem setF_len {nm : Str} {fv : FV} : ∀ {I : Flds}, (setF nm fv I).length = I.length
  | [] => rfl
  | (g, y) :: I => by unfold setF; split <;> simp [setF_len]
theorem setF_names {nm : Str} {fv : FV} : ∀ {I : Flds}, (setF nm fv I).map (·.1) = I.map (·.1)
  | [] => rfl
  | (g, y) :: I => by unfold setF; split <;> simp [setF_names]
/-- the object of a field is changed (o': what lies there now); frozen too, if F' says so -/
theorem ST.own (s : ST K C a dx F0 H0 σ ρ I vs F H) {nm : Str} {fv : FV} {c0 : Cont} {i : Nat} {p : Addr} {o o' : HO} (i1 : I[i]? = some (nm, .ow c0)) (i2 : vs[i]? = some (.ref p)) (i3 : (setF nm fv I)[i]? = some (nm, fv)) (i4 : ∀ j, j ≠ i → (setF nm fv I)[j]? = I[j]?)
    (hp : H p = some o) (nk : ¬ KT p o) (fr : F' = F ∨ F' = upd F p o') (r : FR K F' (upd H p o') H0 a (.ref p) fv) : ST K C a dx F0 H0 σ ρ (setF nm fv I) vs F' (upd H p o') := by
  obtain ⟨v, j1, p', j2, j3, j4, j5, j6, j7⟩ := s.fld i _ _ i1
  rw [i2] at j1
  cases j1
  cases j2
  have sf : Same F F' := by
    rcases fr with rfl | rfl
    · exact .refl _
    · exact froz_ext j4
  have fne : ∀ b, b ≠ p → F' b = F b := fun b z => by
    rcases fr with rfl | rfl
    · rfl
    · exact upd_ne z
  have no : ¬ Ow σ ρ p := okE_now s.env
  have sr1 : SR K F (upd H p o') σ ρ := sr_upd s.sr j4 no hp nk
  have sr2 : SR K F' (upd H p o') σ ρ := by
    rcases fr with rfl | rfl
    · exact sr1
    · refine ⟨sr1.len, fun b u e => ?_, fun i sl e => ?_, sr1.dist, s.sr.tab.frz hp nk j4⟩
      · by_cases z : b = p
        · subst z; rw [upd_same] at e ⊢; exact e
        · rw [upd_ne z] at e ⊢; exact s.sr.sub b u e
      · obtain ⟨ov, q1, q2⟩ := sr1.slot _ _ e
        refine ⟨ov, q1, ?_⟩
        rcases okE_get s.env e with rfl | ⟨x, rfl, _⟩
        · trivial
        · obtain ⟨v, q, r⟩ := q2; exact ⟨v, q, r.mono (.of sf)⟩
  refine ⟨sr2, ⟨s.ev.ext.trans sf, fun b o e n => ?_, fun b e n => ?_, fun b n => ?_⟩, s.env, s.s0, s.r0, ?_, by rw [setF_len]; exact s.len, ?_, s.na, fun j f x e => ?_, fun j k f g c c' q e1 e2 e3 e4 => ?_⟩
  · have hb : b ≠ p := fun z => by subst z; rw [j5] at e; cases e
    rw [upd_ne hb]; exact s.ev.keep b o e n
  · by_cases hb : b = p
    · subst hb; exact j5
    · rw [fne b hb] at n; exact s.ev.newF b e n
  · by_cases hb : b = p
    · subst hb; rw [upd_same]; simp
    · rw [upd_ne hb]; exact s.ev.dom b n
  · rw [upd_ne (Ne.symm j3), setF_names]; exact s.ins
  · rw [fne a (Ne.symm j3)]; exact s.fa
  · by_cases hj : j = i
    · subst hj
      rw [i3] at e
      cases e
      exact ⟨_, i2, r⟩
    · rw [i4 j hj] at e
      obtain ⟨v, q, rr⟩ := s.fld j f x e
      refine ⟨v, q, ?_⟩
      cases x with
      | d x => exact ⟨rr.1.mono (.of sf), rr.2⟩
      | ow c =>
        obtain ⟨p2, rfl, e2, e3, e4, e5, e6⟩ := rr
        have hne : p2 ≠ p := fun z => by subst z; exact hj (s.dist j i f nm c c0 p2 e i1 q i2)
        exact ⟨p2, rfl, e2, by rw [fne _ hne]; exact e3, e4, e5.mono (.of sf) (upd_ne hne), e6⟩
  · have low : ∀ {j : Nat} {f : Str} {c : Cont}, (setF nm fv I)[j]? = some (f, .ow c) → ∃ c2 f2, I[j]? = some (f2, .ow c2) := fun {j f c} e => by
      by_cases hj : j = i
      · subst hj; exact ⟨_, _, i1⟩
      · rw [i4 j hj] at e; exact ⟨_, _, e⟩
    obtain ⟨c2, f2, w1⟩ := low e1
    obtain ⟨c3, f3, w2⟩ := low e2
    exact s.dist j k f2 f3 c2 c3 q w1 w2 e3 e4
end
/-! ### o.f as a target -/
end DL
set_option maxHeartbeats 2000000
/-! DL97: __init__: a filled dict becomes data; the end: the instance is data. -/
namespace DL
open PySem PySem.Spec PyProof.Rows L2
/-! ### the making -/
end DL
set_option maxHeartbeats 2000000
/-! DL98: o.m() without arguments; calls in which a keyword-only parameter takes its default (a text). -/
namespace DL
open PySem PySem.Spec PyProof.Rows L2
end DL
set_option maxHeartbeats 2000000
/-! DL99: reading an __init__ (DL95 to DL97). -/
namespace DL
open PySem PySem.Spec PyProof.Rows L2
def MI.wp (g : MI) (ρ : DEnv) (I : Flds) (Q : DEnv → Flds → Prop) : Prop := match g ρ I with
  | some (ρ', I') => Q ρ' I'
  | none => False
def MV.wp (h : MV) (ρ : DEnv) (I : Flds) (Q : Val → DEnv → Prop) : Prop := match h ρ I with
  | some (x, ρ') => Q x ρ'
  | none => False
def MT.wp (h : MT) (ρ : DEnv) (I : Flds) (Q : Bool → DEnv → Prop) : Prop := match h ρ I with
  | some (x, ρ') => Q x ρ'
  | none => False
end DL
set_option maxHeartbeats 2000000
/-! DL100: sorted(set(t)) of a tuple of ints. -/
namespace DL
open PySem PySem.Spec PyProof.Rows L2
variable [TabT]
def setT (x : D) : Option (List Int) := match x with
  | .tup ds => match intsD ds with
    | some ns => if ns.length < 4000 then some ns else none
    | none => none
  | _ => none
def eSortSetT (f : EM) : EM := eUn (fun x => (setT x).map fun ns => .fr (.lst ((sortSetI ns).map D.int))) f
def sortSetTV (x : Val) : EM := unV (fun x => (setT x).map fun ns => .fr (.lst ((sortSetI ns).map D.int))) x
theorem b_sortSetT {f : EM} {ρ : DEnv} {Q : Val → DEnv → Prop} {X : Ex → DEnv → Prop} (q : (f ρ).wp (fun x ρ1 => (sortSetTV x ρ1).wp Q X) X) : (eSortSetT f ρ).wp Q X := b_un q
instance st_b_sortSetT {f : EM} {ρ : DEnv} {Q : Val → DEnv → Prop} {X : Ex → DEnv → Prop} : St ((eSortSetT f ρ).wp Q X) ((f ρ).wp (fun x ρ1 => (sortSetTV x ρ1).wp Q X) X) := ⟨b_sortSetT⟩
end DL
namespace CM
open PySem PySem.Spec PyProof.Rows L2 DL
/-! bad_values: slots 0 log, 1 tolerance, 2 fault -/
/-! height_at: slots 0 table, 1 place, 2 found, 3 here, 4 height -/
/-! Stretches_is_below: slots 0 self, 1 value, 2 place -/
/-! Stretches_sum_of: slots 0 self, 1 values, 2 value -/
/-! Stretches_inside: slots 0 self, 1 value, 2 other, 3 here, 4 found -/
/-! Stretches_gain: slots 0 self, 1 value, 2 other -/
/-! Stretches_raised: slots 0 self, 1 found, 2 value, 3 plain, 4 height, 5 place, 6 raiser, 7 entry -/
/-! Stretches_best: slots 0 self, 1 left, 2 found, 3 start, 4 place, 5 height, 6 value, 7 entry -/
/-! Stretches_set_aside: slots 0 self, 1 value, 2 kept, 3 gone -/
/-! is_table: slots 0 stretches, 1 value, 2 wide, 3 low, 4 high, 5 pair, 6 one, 7 other -/
/-! l_subsets: slots 0 some, 1 found, 2 one, 3 few -/
/-! l_slog: slots 0 pot_here, 1 off, 2 log_here -/
/-! l_stol: slots 0 pot_here, 1 log_here, 2 bound, 3 near -/
/-! l_fewest: slots 0 log_here, 1 tolerance_here, 2 is_many, 3 found, 4 gone, 5 weight, 6 one -/
/-! l_sweight: slots 0 log_here, 1 gone, 2 word, 3 one -/
/-! Stretches: slots 0 self, 1 log, 2 tolerance, 3 by, 4 operation, 5 value, 6 first, 7 last -/
/-! fewest_aside: slots 0 log, 1 tolerance, 2 by, 3 found -/
/-! aside: slots 0 log, 1 tolerance, 2 by -/
/-! heights: slots 0 log, 1 tolerance, 2 by, 3 place, 4 height, 5 value -/
/-! are_values: slots 0 stretches, 1 value, 2 one -/
/-! shows_aside: slots 0 log, 1 tolerance, 2 value, 3 by, 4 stretches, 5 last, 6 weight, 7 some, 8 table -/
end CM
set_option maxHeartbeats 4000000
/-! DL101: a tuple times any small int (0, 1 and negative ones too). -/
namespace L2
open PySem PySem.Spec PyProof.Rows
end L2
namespace DL
open PySem PySem.Spec PyProof.Rows L2
end DL
namespace CM
open PySem PySem.Spec PyProof.Rows L2 DL
/-! l_bad: slots 0 log_here, 1 tolerance_here, 2 one, 3 writes, 4 found -/
/-! l_is_low: slots 0 one, 1 place -/
/-! l_known: slots 0 log_here, 1 tolerance_here, 2 is_many, 3 found, 4 gone, 5 value, 6 first, 7 last, 8 many, 9 one -/
/-! l_wide: slots 0 known_here, 1 value, 2 begin, 3 end, 4 many -/
/-! l_gain: slots 0 known_here, 1 value, 2 wide_here, 3 begin, 4 end, 5 many, 6 other, 7 low, 8 high, 9 its -/
/-! l_height: slots 0 table, 1 place, 2 some, 3 here, 4 height_here -/
/-! l_is_table: slots 0 known_here, 1 table, 2 far, 3 pair, 4 value, 5 begin, 6 end, 7 many, 8 one, 9 two -/
/-! l_left_weight: slots 0 log_here, 1 tolerance_here, 2 is_many, 3 table, 4 wide_here, 5 low, 6 known_here, 7 total, 8 value, 9 begin, 10 end, 11 many -/
end CM
set_option maxHeartbeats 1000000
/-! DL102: sorted() of a tuple of data. -/
namespace DL
open PySem PySem.Spec PyProof.Rows L2
end DL
set_option maxHeartbeats 2000000
/-! DL103: a dict of an instance that holds answers that are known already: opened and closed. -/
namespace DL
open PySem PySem.Spec PyProof.Rows L2
end DL
set_option maxHeartbeats 2000000
/-! DL104: an __init__ of the form self.a = e; two plain statements; self.b = e'; self.c = {}, where c is a store of known answers. -/
namespace DL
open PySem PySem.Spec PyProof.Rows L2
variable [TabT]
/-! ### the making -/
/-! ### the half-built instance -/
structure HB (K : PySem.W.Frag) (C a dx : Addr) (F0 H0 : Hp) (σ : L2.St) (ρ : DEnv) (F H : Hp) (fs : List (Str × V)) : Prop where
  sr : SR K F H σ ρ
  ha : H a = some (.ins C dx fs)
  na : H0 a = none
  fa : F a = none
  ext : Same F0 F
  keep : ∀ b o, H0 b = some o → NT o → H b = some o
  newF : ∀ b, F0 b = none → F b ≠ none → H0 b = none
  dom : ∀ b, H0 b ≠ none → H b ≠ none
  own : ∀ b, Ow σ ρ b → H0 b = none ∧ b ≠ a
section
variable {K : PySem.W.Frag} {C a dx : Addr} {F0 H0 F H F' H' : Hp} {σ σ' : L2.St} {ρ ρ' : DEnv} {fs fs' : List (Str × V)}
theorem HB.step (h : HB K C a dx F0 H0 σ ρ F H fs) (sr : SR K F' H' σ' ρ') (ev : Ev σ ρ F H σ' ρ' F' H') : HB K C a dx F0 H0 σ' ρ' F' H' fs where
  sr := sr
  ha := ev.keep a _ h.ha (fun z => (h.own a z.ow).2 rfl) (fun ps z => by cases z)
  na := h.na
  fa := Classical.byContradiction fun z => by
    rcases ev.newF a h.fa z with w | w
    · rw [h.ha] at w; cases w
    · exact (h.own a w).2 rfl
  ext := h.ext.trans ev.ext
  keep := fun b o e n => ev.keep b o (h.keep b o e n) (fun z => by rw [(h.own b z.ow).1] at e; cases e) n
  newF := fun b e n => by
    by_cases q : F b = none
    · rcases ev.newF b q n with w | w
      · cases hb : H0 b with
        | none => rfl
        | some o => exact absurd w (h.dom b (by rw [hb]; simp))
      · exact (h.own b w).1
    · exact h.newF b e q
  dom := fun b e => ev.dom b (h.dom b e)
  own := fun b e => by
    rcases ev.own' b e with w | w
    · refine ⟨?_, fun z => by subst z; rw [h.ha] at w; cases w⟩
      cases hb : H0 b with
      | none => rfl
      | some o => exact absurd w (h.dom b (by rw [hb]; simp))
    · exact h.own b w
theorem HB.fld (h : HB K C a dx F0 H0 σ ρ F H fs) : HB K C a dx F0 H0 σ ρ F (upd H a (.ins C dx fs')) fs' where
  sr := sr_upd h.sr h.fa (fun z => (h.own a z).2 rfl) h.ha nk_ins
  ha := upd_same
  na := h.na
  fa := h.fa
  ext := h.ext
  keep := fun b o e n => by rw [upd_ne (fun z => by subst z; rw [h.na] at e; cases e)]; exact h.keep b o e n
  newF := h.newF
  dom := fun b e => by
    by_cases z : b = a
    · subst z; rw [upd_same]; simp
    · rw [upd_ne z]; exact h.dom b e
  own := h.own
end
end DL
set_option maxHeartbeats 2000000
/-! DL105: a method that looks for its answer among those that are known, works it out otherwise. -/
namespace DL
open PySem PySem.Spec PyProof.Rows L2
end DL
set_option maxHeartbeats 1000000
/-! DL106: reading rules for instances with a store of known answers. -/
namespace DL
open PySem PySem.Spec PyProof.Rows L2
end DL
set_option maxHeartbeats 2000000
/-! DL107: sorted(d), a dict with int keys; name += e, ints. -/
namespace DL
open PySem PySem.Spec PyProof.Rows L2
/-! ### name += e -/
end DL
namespace CM
open PySem PySem.Spec PyProof.Rows L2 DL
end CM
set_option maxHeartbeats 1000000
/-! DL108: a call by names alone that leaves the last parameter (a text) to its default. -/
namespace DL
open PySem PySem.Spec PyProof.Rows L2
end DL
set_option maxHeartbeats 1000000
/-! DL109: an exception is made and kept as a value. -/
namespace DL
open PySem PySem.Spec PyProof.Rows L2
variable [TabT]
/-- what makes an exception, as an expression -/
theorem pe_pmk {X : Cx} {e : Expr} {t : L2.St → Hp → XK → Prop} (hex : X.ex = []) (he : PMk X e t) : PE X e (fun σ H Q => t σ H fun cls d H' => ∃ dd, d = some dd ∧ ∀ a, H' a = none → Q (.ref a) (upd H' a (xoO a cls dd))) := by
  refine ⟨fun pins s σ H Q I h => ?_⟩
  refine wpAny_mono (he pins s σ H _ I h) (fun u s' hu => ?_) fun _ _ x => x
  obtain ⟨a, oe, vs, sI, H', cls, d, rfl, J, k, nI, ha, hz, hd, h1, na, os, ag, r, dd, rfl, q⟩ := hu
  have J2 : Inv X pins σ H' s' := J.call' (ch := []) os (Un.kept k) (J.hok.kept k) ag fun b z => absurd z (by simp)
  have nL : a ≠ X.env.locals := fun z => by
    obtain ⟨_, ⟨_, _, _, ho, _⟩, _⟩ := J.loc
    rw [← z, nI] at ho
    cases ho
  have nB : X.s_0.heap.get? a = none := by
    cases hq : X.s_0.heap.get? a with
    | none => rfl
    | some o =>
      obtain ⟨o', q⟩ := J.base.there a o hq (by rw [hex]; simp)
      rw [nI] at q
      cases q
  have nC : ∀ x c, X.env.cells.lookup x = some c → c ≠ a := fun x c e z => by
    obtain ⟨v, o, q, _⟩ := J.cell x c e
    rw [z, nI] at q
    cases q
  have nP : ∀ p ∈ X.pn ++ pins, p.1 ≠ a := fun p hp z => by
    have := (J.pin p hp).1
    rw [z, nI] at this
    cases this
  exact ⟨.ref a, _, inv_adopt J2 (fun _ => xoO_ok ha hz.1 hz.2 hd) na nL nB nC nP, rfl, q a na⟩
/-- c(..): ns are the names of the fields, the last one set first -/
def eMkX (c : Str) (ns : List Str) (g : M (List Val)) : EM := fun ρ => (g ρ).bind fun xs ρ1 => match dsL xs with
  | some ds => if ds.length = ns.length then .ok (.d (.obj c ns ds.reverse)) ρ1 else .bad
  | none => .bad
section
variable {X : Cx} {W : WX} {e e2 : Expr} {p pos pos' : Pos} {c f f2 : Str} {gl : M (List Val)} {C fI : Addr} {k : Nat} {fd : FuncData} {ps : List Str}
theorem mkx_end {E : XK} {σ : L2.St} {ρ ρ1 : DEnv} {F H F1 H1 H2 : Hp} {d : Addr} {ns : List Str} {ds : List D} {vs : List V} {Q : VK} (hmg : MgT.mg = X.mg) (sr : SR X.K F1 H1 σ ρ1) (ev : Ev σ ρ F H σ ρ1 F1 H1) (hm : X.mg c = some (.ref C)) (nd : H1 d = none) (hl : ns.length = vs.length) (r : RepL X.K F1 vs ds)
    (h : Out X.K X.mg E (relV X.K σ) σ ρ F H (.ok (.d (.obj c ns ds)) ρ1) Q) (e : H2 = upd H1 d (.xd (ns.zip vs))) : ∃ dd, some d = some dd ∧ ∀ a, H2 a = none → Q (.ref a) (upd H2 a (xoO a (.ref C) dd)) := by
  subst e
  refine ⟨d, rfl, fun a na => ?_⟩
  have g1 : Gr F1 H1 (upd F1 d (.xd (ns.zip vs))) (upd H1 d (.xd (ns.zip vs))) := Gr.froz sr.sub nd
  have s1 := g1.sr sr
  have g2 : Gr (upd F1 d (.xd (ns.zip vs))) (upd H1 d (.xd (ns.zip vs))) (upd (upd F1 d (.xd (ns.zip vs))) a (xoO a (.ref C) d)) (upd (upd H1 d (.xd (ns.zip vs))) a (xoO a (.ref C) d)) := Gr.froz s1.sub na
  have hne : d ≠ a := fun z => by rw [z, upd_same] at na; cases na
  refine h (.ref a) _ _ (g2.sr s1) ((ev.trans g1.ev).trans g2.ev) ?_
  exact Rep.obj upd_same (by rw [hmg]; exact hm) (by rw [upd_ne hne]; exact upd_same) hl ((r.mono (.of g1.ext)).mono (.of g2.ext))
theorem de_mkx1 (hmg : MgT.mg = X.mg) (hex : X.ex = []) (T : OexC X.K C) (iC : PySem.W.findIn X.K (.ref C) "__init__" = some (some (.ref fI))) (tI : PySem.W.typeIn X.K (.ref fI) = some (.type "function"))
    (F1 : FnOk X.prog X.w X.K X.mg X.base (L2.CX X.prog X.w) k fI fd ps (spI1 C f)) (hr : Room (k + 1) X.A) (hb : Binds X.K fd ps []) (hg : Gl X c) (hm : X.mg c = some (.ref C)) (hx : Passes (L2.CX X.prog X.w) X (fun _ _ _ => False)) (ha : DA X W [e] gl)
    (hdb : (c == ("__debug__" : Str)) = false := by decide) (he : starEach [e] X.env = (false, eval e X.env) :: starEach [] X.env := by rfl) (hpl : (backTo pos (starEach [] X.env)).any (·.1) = false := by rfl) :
    DE X W (.Call (.Name c p) [e] [] pos) (eMkX c [f] gl) :=
  pe_conseq (pe_pmk hex (pmk_oex T iC tI F1 hr hb .nil hx hg hm ha hdb he hpl)) fun σ H Q hq => by
    obtain ⟨F, ρ, sr, q⟩ := hq
    refine ⟨F, ρ, sr, (Out.bind (rel := relL X.K σ) q).mono fun vs H1 ⟨xs, F1, ρ1, e1, s1, ev1, r1, o1⟩ => ?_⟩
    cases hd : dsL xs with
    | none => rw [hd] at o1; exact o1.elim
    | some ds =>
      rw [hd] at o1
      dsimp only at o1
      by_cases hl : ds.length = [f].length
      · rw [if_pos hl] at o1
        have rl := dsL_ok r1.all hd
        have hvl := rl.length
        match ds, vs, hl, rl, hvl with
        | [d0], [y], _, rl, _ =>
          refine ⟨by simp, fun a na => ⟨a, y, rfl, upd_same, fun dx n ne => ⟨rfl, dx, [(f, y)], upd_same, ?_, ?_, ?_⟩⟩⟩
          · rw [upd_ne ne, upd_same]
          · rw [upd_ne ne] at n; exact n
          · have nd : H1 dx = none := by rw [upd_ne ne] at n; exact n
            exact mkx_end (vs := [y]) hmg s1 ev1 hm nd rfl rl o1 (made_hp na nd ne)
      · rw [if_neg hl] at o1
        exact o1.elim
theorem de_mkx2 (hmg : MgT.mg = X.mg) (hex : X.ex = []) (T : OexC X.K C) (iC : PySem.W.findIn X.K (.ref C) "__init__" = some (some (.ref fI))) (tI : PySem.W.typeIn X.K (.ref fI) = some (.type "function"))
    (F1 : FnOk X.prog X.w X.K X.mg X.base (L2.CX X.prog X.w) k fI fd ps (spI2 C f f2)) (hr : Room (k + 1) X.A) (hb : Binds X.K fd ps []) (hg : Gl X c) (hm : X.mg c = some (.ref C)) (hx : Passes (L2.CX X.prog X.w) X (fun _ _ _ => False)) (ha : DA X W [e, e2] gl)
    (hdb : (c == ("__debug__" : Str)) = false := by decide) (he : starEach [e, e2] X.env = (false, eval e X.env) :: starEach [e2] X.env := by rfl) (hpl : (backTo pos (starEach [e2] X.env)).any (·.1) = false := by rfl) :
    DE X W (.Call (.Name c p) [e, e2] [] pos) (eMkX c [f2, f] gl) :=
  pe_conseq (pe_pmk hex (pmk_oex T iC tI F1 hr hb .nil hx hg hm ha hdb he hpl)) fun σ H Q hq => by
    obtain ⟨F, ρ, sr, q⟩ := hq
    refine ⟨F, ρ, sr, (Out.bind (rel := relL X.K σ) q).mono fun vs H1 ⟨xs, F1, ρ1, e1, s1, ev1, r1, o1⟩ => ?_⟩
    cases hd : dsL xs with
    | none => rw [hd] at o1; exact o1.elim
    | some ds =>
      rw [hd] at o1
      dsimp only at o1
      by_cases hl : ds.length = [f2, f].length
      · rw [if_pos hl] at o1
        have rl := dsL_ok r1.all hd
        have hvl := rl.length
        match ds, vs, hl, rl, hvl with
        | [d0, d1], [y, z], _, .cons r0 (.cons r1 .nil), _ =>
          refine ⟨by simp, fun a na => ⟨a, y, z, rfl, upd_same, fun dx n ne => ⟨rfl, dx, [(f2, z), (f, y)], ?_, upd_same, ?_, ?_⟩⟩⟩
          · rw [upd_ne (Ne.symm ne), upd_same]
          · rw [upd_ne ne] at n; exact n
          · have nd : H1 dx = none := by rw [upd_ne ne] at n; exact n
            exact mkx_end (vs := [z, y]) hmg s1 ev1 hm nd rfl (.cons r1 (.cons r0 .nil)) o1 (made_hp2 na ne)
      · rw [if_neg hl] at o1
        exact o1.elim
end
end DL
set_option maxHeartbeats 1000000
/-! DL110: an exception made with arguments by name. -/
namespace PySem
namespace HandSPX
open Builtin Builtin.ObjectAttr
section
variable {prog : Program} {w : World} {M : Model} {A : Around} {E : Value → Shared → Prop} {R : Result → Shared → Prop} {h : Heap} {g : Array GenState} {d : Drawn} {t : Nat} {os : OsState}
variable {nm q : Str} {C N : Addr} {bs bm bmB : List Value} {hdct : Bool} {sn : List Str} {sub : List Value} {ab : Bool} {col : Option Bool} {dd : Option Addr} {k0 k1 k2 k3 k5 : Option Value} {B newId initId : String}
theorem check_new_kw (F : ExcBaseFacts B newId initId bmB) (hT : ∀ X : String, bm.contains (.type X) = bmB.contains (.type X)) {kw : List (Str × Value)} {Q : Unit → Shared → Prop}
    (hC : h.get? C = some (excClassObj nm q C N bs bm hdct sn sub ab col dd k0 k1 k2 k3 k5 newId)) (hq : Q () ⟨h, g, d, t, os⟩) : wpAny M A (checkBuiltinCall newId ⟨[.ref C], kw⟩) Q E ⟨h, g, d, t, os⟩ := by
  have hcont : (Value.ref C :: bm).contains (.type B) = true := by rw [List.contains_cons, hT, F.hasB, Bool.or_true]
  have hstar := F.noStar
  simp only [checkBuiltinCall, F.newKind, F.newSplit, F.newRow]
  repeat (first | refine wpAny_loadPart_at hC ?_ | (refine wpAny_isSubtype_exc hC ?_; rw [hcont]) | refine wpAny_staticBase_exc hC ?_ | refine wpAny_madeBy_exc hC ?_ | simp only [bne_self_eq_false, Bool.false_eq_true, if_false] | wp_step)
  exact hq
theorem check_type_call_kw {kw : List (Str × Value)} {Q : Unit → Shared → Prop} (hC : h.get? C = some (excClassObj nm q C N bs bm hdct sn sub ab col dd k0 k1 k2 k3 k5 newId))
    (hq : Q () ⟨h, g, d, t, os⟩) : wpAny M A (checkBuiltinCall "type.__call__" ⟨[.ref C], kw⟩) Q E ⟨h, g, d, t, os⟩ := by
  have f3 := tc_sub
  have hT : (⟨h, g, d, t, os⟩ : Shared).TypeIs (.ref C) "type" := ⟨_, hC, rfl⟩
  simp only [checkBuiltinCall, tc_kind, tc_split]
  repeat (any_goals (first | assumption | with_reducible refine wpAny_loadPart_at hC ?_ | with_reducible refine wpAny_onRaise ?_ | with_reducible refine wpAny_map ?_ | wp_step))
theorem new_kw (F : ExcBaseFacts B newId initId bmB) (hT : ∀ X : String, bm.contains (.type X) = bmB.contains (.type X)) {kw : List (Str × Value)}
    (hC : h.get? C = some (excClassObj nm q C N bs bm hdct sn sub ab col dd k0 k1 k2 k3 k5 newId))
    (hq : R (.ok (.ret (.ref (h.objs.size + 1)))) ⟨(h.push { cls := .type "tuple", data := .seq #[] }).push
      { cls := .ref C, data := .fields #[.ref h.objs.size, .none, .none, .none, .bool false, .none] }, g, d, t, os⟩) :
    codeAny (model prog w) A (.builtin newId ⟨[.ref C], kw⟩) R ⟨h, g, d, t, os⟩ := by
  have hends := F.ends
  have hcB : (Value.ref C :: bm).contains (.type B) = true := by rw [List.contains_cons, hT, F.hasB, Bool.or_true]
  have hcA : (Value.ref C :: bm).contains (.type "AttributeError") = false := by rw [List.contains_cons, hT, F.noAttr]; rfl
  have hcN : (Value.ref C :: bm).contains (.type "NameError") = false := by rw [List.contains_cons, hT, F.noName]; rfl
  refine codeAny_builtinAt F.entry ?_
  unfold Builtin.«BaseException.__new__»
  refine wpAt_bind ?_
  show wpAt _ _ _ (stack >>= _) _ _ _
  refine wpAt_bind (wpAt_stack fun p below => wpAt_of_wpAny ?_)
  wp_walk
  refine wpAt_of_wpAny ?_
  rw [F.owner]
  repeat (first | with_reducible refine wpAny_madeHere_exc F.canon hC ?_ | with_reducible refine wpAny_loadPart_at hC ?_ | (with_reducible refine wpAny_isSubtype_exc hC ?_; first | rw [hcB] | rw [hcA] | rw [hcN]) | wp_step)
  show R _ _
  rw [Heap.size_push]
  exact hq
theorem type_call_kw (F : ExcBaseFacts B newId initId bmB) (hT : ∀ X : String, bm.contains (.type X) = bmB.contains (.type X)) {kw : List (Str × Value)} {fI : Addr} {Q : Fin → Shared → Prop}
    (hC : h.get? C = some (excClassObj nm q C N bs bm hdct sn sub ab col dd k0 k1 k2 k3 k5 newId))
    (hi : W.Looks (model prog w) h (typeLookup (.ref C) "__init__") (some (.ref fI))) (hb : ∀ self, W.Looks (model prog w) h (bindSpecial (.ref fI) self) (.ref fI, [self]))
    (hq : codeAny (model prog w) A (.call (.ref fI) ⟨[.ref (h.objs.size + 1)], kw⟩)
      (fun r s' => match r with | .ok (.ret v) => v = .none ∧ Q (.done (.ret (.ref (h.objs.size + 1)))) s' | .ok _ => False | .error e => E e s')
      ⟨(h.push (W.kdv_tup [])).push (excO C h.objs.size), g, d, t, os⟩) :
    wpAny (model prog w) A (Builtin.«type.__call__» ⟨[.ref C], kw⟩) Q E ⟨h, g, d, t, os⟩ := by
  repeat (first | with_reducible refine wpAny_loadPart_at hC ?_ | with_reducible refine wpAny_madeBy_exc hC ?_ | wp_step)
  refine codeAny_call_builtin_code (Code.quiet_builtin _ F.quiet) (check_new_kw F hT hC ?_)
  refine new_kw F hT hC ?_
  show wpAny _ _ _ _ _ _
  have k : ∀ b o, h.get? b = some o → ((h.push (W.kdv_tup [])).push (excO C h.objs.size)).get? b = some o := fun b o e => Heap.get?_push_of_some _ (Heap.get?_push_of_some _ e)
  have hC₁ := k _ _ hC
  have hget : ((h.push (W.kdv_tup [])).push (excO C h.objs.size)).get? (h.objs.size + 1) = some (excO C h.objs.size) := by heap_get
  have hcC : (Value.ref C :: bm).contains (.ref C) = true := by simp
  have i1 := hi.keeps k
  have b1 := (hb (.ref (h.objs.size + 1))).keeps k
  unfold isInstance
  repeat (first | with_reducible refine wpAny_loadPart_at hget ?_ | (with_reducible refine wpAny_isSubtype_exc hC₁ ?_; rw [hcC]) | wp_step)
  show wpAny _ _ (typeLookup (.ref C) _) _ _ _
  refine i1.at ?_
  refine wpAny_holding (wpAny_bind (b1.at ?_))
  refine wpAny_bind (wpAny_call (codeAny_mono hq fun r s' z => ?_))
  rcases r with e | (v | _ | _ | _) <;> first | exact z | exact z.elim | skip
  obtain ⟨rfl, z⟩ := z
  first
    | exact wpAny_pure (wpAny_pure z)
    | (wp_walk; exact z)
theorem call_kw (F : ExcBaseFacts B newId initId bmB) (hT : ∀ X : String, bm.contains (.type X) = bmB.contains (.type X)) {kw : List (Str × Value)} {fI : Addr}
    (hC : h.get? C = some (excClassObj nm q C N bs bm hdct sn sub ab col dd k0 k1 k2 k3 k5 newId))
    (hi : W.Looks (model prog w) h (typeLookup (.ref C) "__init__") (some (.ref fI))) (hb : ∀ self, W.Looks (model prog w) h (bindSpecial (.ref fI) self) (.ref fI, [self]))
    (hq : codeAny (model prog w) (A.under (.builtin "type.__call__" ⟨[.ref C], kw⟩)) (.call (.ref fI) ⟨[.ref (h.objs.size + 1)], kw⟩) (W.InitBack (h.objs.size + 1) R)
      ⟨(h.push (W.kdv_tup [])).push (excO C h.objs.size), g, d, t, os⟩) :
    codeAny (model prog w) A (.call (.ref C) ⟨[], kw⟩) R ⟨h, g, d, t, os⟩ := by
  have f1 := tc_lookup
  have f2 := tc_bind (.ref C)
  have hTy : (⟨h, g, d, t, os⟩ : Shared).TypeIs (.ref C) "type" := ⟨_, hC, rfl⟩
  refine codeAny_of_tree ?_
  show wpAny _ _ (callAny (.ref C) _) _ _ _
  repeat (any_goals (first | assumption | with_reducible refine wpAny_loadPart_at hC ?_ | wp_step))
  refine ⟨rfl, ?_⟩
  refine codeAny_call_builtin_at (Code.quiet_builtin _ (by decide +kernel)) entry_typeCall (check_type_call_kw hC (type_call_kw F hT hC hi hb ?_))
  refine codeAny_mono hq fun r s' z => ?_
  rcases r with e | (v | _ | _ | _) <;> exact z
end
end HandSPX
end PySem
namespace DL
open PySem PySem.Spec PyProof.Rows L2
variable [TabT]
/-- the arguments' names, bound behind self -/
def KwX (K : PySem.W.Frag) (fd : FuncData) (ps : List Str) (ks : List Str) (idx : List Nat) : Prop :=
  ∀ (s : Shared) (v0 : Value) (ws : List Value), K.In s.heap → ws.length = ks.length → ∃ zs, selL idx ws = some zs ∧ BindsTo s fd ⟨[v0], ks.zip ws⟩ (ps.zip (v0 :: zs))
def tMkK (C : Addr) (sp : Sp) (n : Nat) (idx : List Nat) (ta : TA) : L2.St → Hp → XK → Prop := fun σ H Q => ta σ H fun vs H1 => vs.length = n ∧ ∃ zs, selL idx vs = some zs ∧ zs.length ≤ 1000 ∧ ∀ a, H1 a = none → sp (.ref a :: zs) (upd H1 a (exo a C none))
  (fun v H2 => v = .non ∧ ∃ (d : Addr) (fs : List (Str × V)), H2 a = some (exo a C (some d)) ∧ H2 d = some (exd d fs) ∧ H1 d = none ∧ Q (.ref C) (some d) (upd (del H2 a) d (.xd fs))) (fun _ _ _ => False)
section
variable {X : Cx} {ta : TA} {pos p : Pos}
theorem pmk_oexK {CX : CXT} {x : Str} {C fI : Addr} {k : Nat} {fd : FuncData} {ps ks : List Str} {idx : List Nat} {sp : Sp} {kws : List Keyword} (T : OexC X.K C) (iC : PySem.W.findIn X.K (.ref C) "__init__" = some (some (.ref fI))) (tI : PySem.W.typeIn X.K (.ref fI) = some (.type "function"))
    (F1 : FnOk X.prog X.w X.K X.mg X.base CX k fI fd ps sp) (hr : Room (k + 1) X.A) (hb : KwX X.K fd ps ks idx) (hx : Passes CX X (fun _ _ _ => False)) (hg : Gl X x) (hm : X.mg x = some (.ref C)) (hkw : PK X kws ta)
    (hall : (backToKw pos (keywordEach kws X.env)).all (·.1.isSome) = true := by rfl) (hks : (backToKw pos (keywordEach kws X.env)).filterMap (·.1) = ks := by rfl)
    (hdb : (x == ("__debug__" : Str)) = false := by decide) (hpl : ((backTo pos (starEach [] X.env)).any (·.1) || (backToKw pos (keywordEach kws X.env)).any (·.1.isNone)) = false := by rfl) :
    PMk X (.Call (.Name x p) [] kws pos) (tMkK C sp ks.length idx ta) := by
  intro pins s σ H Q I h
  obtain ⟨nm, q, N, bs, bm, sn, sub, ab, col, dd, k0, k1, k2, k3, k5, hC, hbm⟩ := T.cls
  refine wpAny_Call_Name_kw (ld_glob I hg hm (PySem.W.callWith_KW0 (h₀ := X.base) I.ok.mod.kin T.kC hall (thn (hkw.run pos pins s σ H _ I h) fun us s1 ⟨vs, H1, I1, r1, hz, zv, hsel, hlen, q1⟩ => ⟨I1.kIn, ?_⟩) hpl) hdb)
  rw [hks]
  show wpAny _ _ (call (.ref C) [] (ks.zip us)) _ _ _
  obtain ⟨hp, g, dr, tk, os⟩ := s1
  have hsz : hp.objs.size ≤ hp.objs.size + 1 := Nat.le_succ _
  have hn : H1 (hp.objs.size + 1) = none := I1.hok.fresh hsz
  have hq := q1 (hp.objs.size + 1) hn
  have kk : ∀ b o, hp.get? b = some o → ((hp.push (PySem.W.kdv_tup [])).push (PySem.HandSPX.excO C hp.objs.size)).get? b = some o := fun b o e => Heap.get?_push_of_some _ (Heap.get?_push_of_some _ e)
  have hget : ((hp.push (PySem.W.kdv_tup [])).push (PySem.HandSPX.excO C hp.objs.size)).get? (hp.objs.size + 1) = some (PySem.HandSPX.excO C hp.objs.size) := by heap_get
  have I2 : Inv X pins σ (upd H1 (hp.objs.size + 1) (exo (hp.objs.size + 1) C none)) ⟨(hp.push (PySem.W.kdv_tup [])).push (PySem.HandSPX.excO C hp.objs.size), g, dr, tk, os⟩ :=
    I1.laid (t' := tk) (a := hp.objs.size + 1) (o := exo (hp.objs.size + 1) C none) (h' := (hp.push (PySem.W.kdv_tup [])).push (PySem.HandSPX.excO C hp.objs.size)) kk hsz (exo_ok hget)
  have hwl : us.length = ks.length := by rw [← Paired.length r1]; exact hz
  obtain ⟨zw, hs2, hbind⟩ := hb _ (Value.ref (hp.objs.size + 1)) us I2.kIn hwl
  have rz : Vals zv zw := by
    obtain ⟨zv', h4, h5⟩ := selL_paired r1 hs2
    rw [hsel] at h4; cases h4
    exact h5
  have r2 : Vals (V.ref (hp.objs.size + 1) :: zv) (Value.ref (hp.objs.size + 1) :: zw) := .cons rfl rz
  refine wpAny_call (PySem.HandSPX.call_kw F.excBase_ValueError (fun Y => PySem.HandSPX.refsVE_contains Y bm hbm) (I1.kIn _ _ hC) (PySem.W.looks_findIn I1.kIn iC) (fun self => PySem.W.bind_fn I1.kIn self tI)
    (codeAny_mono (F1.run _ X.stack _ _ ⟨[Value.ref (hp.objs.size + 1)], ks.zip us⟩ (Value.ref (hp.objs.size + 1) :: zw) _ _ (fun _ _ _ => False) (hr.make C [] _) (I2.env0.make C [] _) hbind r2 hq) fun r s' hq' => ?_))
  cases r with
  | error er => exact hx pins σ _ _ er s' I2 hq'
  | ok fl =>
    cases fl with
    | ret u =>
      obtain ⟨v, H2, os2, bare2, un2, hok2, rv, ev, d, fs, ea, ed, hd1, q2⟩ := hq'
      subst ev
      obtain ⟨h2, g2, d2, t2, os'⟩ := s'
      exact ⟨rv, mk_end (raises_own T.exC T.tyC) I1 hsz kk un2 hok2 os2 bare2 ea ed hd1 q2⟩
    | next => exact False.elim hq'
    | brk => exact False.elim hq'
    | cont => exact False.elim hq'
def eMkXK (idx : List Nat) (c : Str) (ns : List Str) (g : M (List Val)) : EM := fun ρ => (g ρ).bind fun xs ρ1 => match dsL xs with
  | some ds => match selL idx ds with
    | some es => if es.length = ns.length then .ok (.d (.obj c ns es.reverse)) ρ1 else .bad
    | none => .bad
  | none => .bad
theorem de_mkxK1 {W : WX} {c f : Str} {gl : M (List Val)} {C fI : Addr} {k : Nat} {fd : FuncData} {ps ks : List Str} {kws : List Keyword} (hmg : MgT.mg = X.mg) (hex : X.ex = []) (T : OexC X.K C) (iC : PySem.W.findIn X.K (.ref C) "__init__" = some (some (.ref fI))) (tI : PySem.W.typeIn X.K (.ref fI) = some (.type "function"))
    (F1 : FnOk X.prog X.w X.K X.mg X.base (L2.CX X.prog X.w) k fI fd ps (spI1 C f)) (hr : Room (k + 1) X.A) (hb : KwX X.K fd ps ks [0]) (hg : Gl X c) (hm : X.mg c = some (.ref C)) (hx : Passes (L2.CX X.prog X.w) X (fun _ _ _ => False)) (hkw : DK X W kws gl) (hn : ∀ ρ xs ρ', gl ρ = .ok xs ρ' → xs.length = ks.length) (hk1 : ks.length = 1 := by rfl)
    (hall : (backToKw pos (keywordEach kws X.env)).all (·.1.isSome) = true := by rfl) (hks : (backToKw pos (keywordEach kws X.env)).filterMap (·.1) = ks := by rfl)
    (hdb : (c == ("__debug__" : Str)) = false := by decide) (hpl : ((backTo pos (starEach [] X.env)).any (·.1) || (backToKw pos (keywordEach kws X.env)).any (·.1.isNone)) = false := by rfl) :
    DE X W (.Call (.Name c p) [] kws pos) (eMkXK [0] c [f] gl) :=
  pe_conseq (pe_pmk hex (pmk_oexK (idx := [0]) T iC tI F1 hr hb hx hg hm hkw hall hks hdb hpl)) fun σ H Q hq => by
    obtain ⟨F, ρ, sr, q⟩ := hq
    refine ⟨F, ρ, sr, (Out.bind (rel := relL X.K σ) q).mono fun vs H1 ⟨xs, F1, ρ1, e1, s1, ev1, r1, o1⟩ => ?_⟩
    have hvx : vs.length = xs.length := r1.all.length
    have hxl := hn _ _ _ e1
    cases hd : dsL xs with
    | none => rw [hd] at o1; exact o1.elim
    | some ds =>
      rw [hd] at o1
      dsimp only at o1
      have rl := dsL_ok r1.all hd
      have hvl := rl.length
      match ds, vs, rl, hvl, hvx, o1 with
      | [d0], [y], rl, _, hvx, o1 =>
        have o1 : Out X.K X.mg _ (relV X.K σ) σ ρ F H (.ok (.d (.obj c [f] [d0])) ρ1) Q := o1
        refine ⟨by rw [hk1]; rfl, [y], rfl, by simp, fun a na => ⟨a, y, rfl, upd_same, fun dx n ne => ⟨rfl, dx, [(f, y)], upd_same, ?_, ?_, ?_⟩⟩⟩
        · rw [upd_ne ne, upd_same]
        · rw [upd_ne ne] at n; exact n
        · have nd : H1 dx = none := by rw [upd_ne ne] at n; exact n
          exact mkx_end (vs := [y]) hmg s1 ev1 hm nd rfl rl o1 (made_hp na nd ne)
      | [], _, _, hvl, hvx, _ => (simp only [List.length_nil, List.length_cons] at hvl; omega)
      | _ :: _ :: _, _, _, hvl, hvx, _ => (simp only [List.length_nil, List.length_cons] at hvl; omega)
theorem de_mkxK2 {W : WX} {c f f2 : Str} {gl : M (List Val)} {C fI : Addr} {k : Nat} {fd : FuncData} {ps ks : List Str} {kws : List Keyword} (hmg : MgT.mg = X.mg) (hex : X.ex = []) (T : OexC X.K C) (iC : PySem.W.findIn X.K (.ref C) "__init__" = some (some (.ref fI))) (tI : PySem.W.typeIn X.K (.ref fI) = some (.type "function"))
    (F1 : FnOk X.prog X.w X.K X.mg X.base (L2.CX X.prog X.w) k fI fd ps (spI2 C f f2)) (hr : Room (k + 1) X.A) (hb : KwX X.K fd ps ks [1, 0]) (hg : Gl X c) (hm : X.mg c = some (.ref C)) (hx : Passes (L2.CX X.prog X.w) X (fun _ _ _ => False)) (hkw : DK X W kws gl) (hn : ∀ ρ xs ρ', gl ρ = .ok xs ρ' → xs.length = ks.length) (hk1 : ks.length = 2 := by rfl)
    (hall : (backToKw pos (keywordEach kws X.env)).all (·.1.isSome) = true := by rfl) (hks : (backToKw pos (keywordEach kws X.env)).filterMap (·.1) = ks := by rfl)
    (hdb : (c == ("__debug__" : Str)) = false := by decide) (hpl : ((backTo pos (starEach [] X.env)).any (·.1) || (backToKw pos (keywordEach kws X.env)).any (·.1.isNone)) = false := by rfl) :
    DE X W (.Call (.Name c p) [] kws pos) (eMkXK [1, 0] c [f2, f] gl) :=
  pe_conseq (pe_pmk hex (pmk_oexK (idx := [1, 0]) T iC tI F1 hr hb hx hg hm hkw hall hks hdb hpl)) fun σ H Q hq => by
    obtain ⟨F, ρ, sr, q⟩ := hq
    refine ⟨F, ρ, sr, (Out.bind (rel := relL X.K σ) q).mono fun vs H1 ⟨xs, F1, ρ1, e1, s1, ev1, r1, o1⟩ => ?_⟩
    have hvx : vs.length = xs.length := r1.all.length
    have hxl := hn _ _ _ e1
    cases hd : dsL xs with
    | none => rw [hd] at o1; exact o1.elim
    | some ds =>
      rw [hd] at o1
      dsimp only at o1
      have rl := dsL_ok r1.all hd
      have hvl := rl.length
      match ds, vs, rl, hvl, hvx, o1 with
      | [d1, d0], [z, y], .cons r1 (.cons r0 .nil), _, hvx, o1 =>
        have o1 : Out X.K X.mg _ (relV X.K σ) σ ρ F H (.ok (.d (.obj c [f2, f] [d1, d0])) ρ1) Q := o1
        refine ⟨by rw [hk1]; rfl, [y, z], rfl, by simp, fun a na => ⟨a, y, z, rfl, upd_same, fun dx n ne => ⟨rfl, dx, [(f2, z), (f, y)], ?_, upd_same, ?_, ?_⟩⟩⟩
        · rw [upd_ne (Ne.symm ne), upd_same]
        · rw [upd_ne ne] at n; exact n
        · have nd : H1 dx = none := by rw [upd_ne ne] at n; exact n
          exact mkx_end (vs := [z, y]) hmg s1 ev1 hm nd rfl (.cons r1 (.cons r0 .nil)) o1 (made_hp2 na ne)
      | [], _, _, hvl, hvx, _ => (simp only [List.length_nil, List.length_cons] at hvl; omega)
      | [_], _, _, hvl, hvx, _ => (simp only [List.length_nil, List.length_cons] at hvl; omega)
      | _ :: _ :: _ :: _, _, _, hvl, hvx, _ => (simp only [List.length_nil, List.length_cons] at hvl; omega)
end
end DL
set_option maxHeartbeats 1000000
/-! DL111: an exception without fields, made and kept as a value. -/
namespace DL
open PySem PySem.Spec PyProof.Rows L2
theorem xo0_ok {P : Program} {w : World} {H : Hp} {h : Heap} {a : Addr} {cls : Value} {oe : Obj} {vs : Array Value} (e : h.get? a = some oe) (h1 : oe.cls = cls) (h2 : oe.dict = none) (h3 : oe.data = .fields vs) : ObjOk P w H h a (xo0 a cls) :=
  ⟨⟨oe, vs, e, h1, h2, h3⟩, ⟨_, e⟩, fun h1 h2 z k => by
    obtain ⟨o, v, q, r⟩ := z
    exact ⟨o, v, k _ q, r⟩⟩
/-- what __init__(self) leaves of a new exception that gets no field -/
def spI0 (C : Addr) : Sp := fun vs H Q _ => ∃ a : Addr, vs = [.ref a] ∧ H a = some (exo a C none) ∧ Q .non H
theorem i0_fin {K : PySem.W.Frag} {C : Addr} {m : Str} {a : Addr} {H : Hp} {Q : VK} (T : OexC K C) (ea : H a = some (exo a C none)) (q : Q .non H) :
    tDrop (tVeI K (tCons (tVar 0) (tCons (tC (.str m)) tNil))) { nx := fun _ H' => Q .non H', rt := Q } [some (.ref a)] H :=
  ⟨.ref a, rfl, a, C, [.str m], rfl, by simp, T, ea, q⟩
section
variable {X : Cx} {pins : List (Addr × Obj)} {σ : L2.St} {H : Hp} {s : Shared}
/-- an object known by a word of its own is known by another -/
theorem inv_swap {a : Addr} {φ ψ : Heap → Prop} (I : Inv X pins σ H s) (ha : H a = some (.ext φ)) (ho : ∀ H', ObjOk X.prog X.w H' s.heap a (.ext ψ)) : Inv X pins σ (upd H a (.ext ψ)) s := by
  have ne : ∀ {b : Addr}, H b = none → b ≠ a := fun {b} e z => by rw [z, ha] at e; cases e
  have nx : ∀ {b : Addr} {u : HO}, H b = some u → (∀ φ, u ≠ .ext φ) → b ≠ a := fun {b u} e n z => by
    rw [z, ha] at e
    exact n φ (Option.some.inj e).symm
  refine ⟨I.ok, I.os, I.bare, ⟨I.base.keep, I.base.slot, fun b u e n hx => ?_, I.base.there, fun b xs e => ?_, fun b u v e => ?_, fun b ps e => ?_⟩, I.loc, I.cell, by rw [upd_ne (ne I.free)]; exact I.free, fun x c e => by rw [upd_ne (ne (I.freeC x c e))]; exact I.freeC x c e, fun p hp => ?_, fun b u e => ?_, I.len⟩
  · have := I.base.free b u e n hx
    rw [upd_ne (ne this)]; exact this
  · have := I.base.tups b xs e
    rw [upd_ne (nx this fun φ z => by cases z)]; exact this
  · have := I.base.frzs b u v e
    rw [upd_ne (nx this fun φ z => by cases z)]; exact this
  · obtain ⟨m, q⟩ := I.base.tbls b ps e
    exact ⟨m, by rw [upd_ne (nx q fun φ z => by cases z)]; exact q⟩
  · obtain ⟨e, n, n1, n2, n3⟩ := I.pin p hp
    exact ⟨e, by rw [upd_ne (ne n)]; exact n, n1, n2, n3⟩
  · by_cases z : b = a
    · subst z
      rw [upd_same] at e
      cases e
      exact ho _
    · rw [upd_ne z] at e
      exact (I.hok b u e).stay (fun _ _ _ q => q) (fun c hc => by rw [upd_ne (nx hc fun φ z => by cases z)]; exact hc) fun c xs hc => by rw [upd_ne (nx hc fun φ z => by cases z)]; exact hc
end
section
variable {X : Cx} {pos p : Pos}
theorem pe_oex0 {CX : CXT} {x : Str} {C fI : Addr} {k : Nat} {fd : FuncData} {ps : List Str} (T : OexC X.K C) (iC : PySem.W.findIn X.K (.ref C) "__init__" = some (some (.ref fI))) (tI : PySem.W.typeIn X.K (.ref fI) = some (.type "function"))
    (F1 : FnOk X.prog X.w X.K X.mg X.base CX k fI fd ps (spI0 C)) (hr : Room (k + 1) X.A) (hb : Binds X.K fd ps []) (hps : ps.length = 1) (hx : Passes CX X (fun _ _ _ => False)) (hg : Gl X x) (hm : X.mg x = some (.ref C))
    (hdb : (x == ("__debug__" : Str)) = false := by decide) :
    PE X (.Call (.Name x p) [] [] pos) (fun _ H Q => ∀ a, H a = none → Q (.ref a) (upd H a (xo0 a (.ref C)))) := by
  refine ⟨fun pins s σ H Q I h => ?_⟩
  obtain ⟨nm, q, N, bs, bm, sn, sub, ab, col, dd, k0, k1, k2, k3, k5, hC, hbm⟩ := T.cls
  refine wpAny_Call_Name_kw (ld_glob I hg hm (PySem.W.callWith_KW0 (h₀ := X.base) (kws := []) I.ok.mod.kin T.kC (by rfl) (thn ((pk_nil (X := X)).run pos pins s σ H (fun vs H1 => vs = [] ∧ H1 = H) I ⟨rfl, rfl⟩) fun us s1 ⟨vs, H1, I1, r1, hz, hH⟩ => ⟨I1.kIn, ?_⟩) (by rfl)) hdb)
  subst hz hH
  show wpAny _ _ (call (.ref C) [] (List.zip [] us)) _ _ _
  rw [List.zip_nil_left]
  obtain ⟨hp, g, dr, tk, os⟩ := s1
  have hsz : hp.objs.size ≤ hp.objs.size + 1 := Nat.le_succ _
  have hn : H1 (hp.objs.size + 1) = none := I1.hok.fresh hsz
  have kk : ∀ b o, hp.get? b = some o → ((hp.push (PySem.W.kdv_tup [])).push (PySem.HandSPX.excO C hp.objs.size)).get? b = some o := fun b o e => Heap.get?_push_of_some _ (Heap.get?_push_of_some _ e)
  have hget : ((hp.push (PySem.W.kdv_tup [])).push (PySem.HandSPX.excO C hp.objs.size)).get? (hp.objs.size + 1) = some (PySem.HandSPX.excO C hp.objs.size) := by heap_get
  have I2 : Inv X pins σ (upd H1 (hp.objs.size + 1) (exo (hp.objs.size + 1) C none)) ⟨(hp.push (PySem.W.kdv_tup [])).push (PySem.HandSPX.excO C hp.objs.size), g, dr, tk, os⟩ :=
    I1.laid (t' := tk) (a := hp.objs.size + 1) (o := exo (hp.objs.size + 1) C none) (h' := (hp.push (PySem.W.kdv_tup [])).push (PySem.HandSPX.excO C hp.objs.size)) kk hsz (exo_ok hget)
  have hbind := hb _ [Value.ref (hp.objs.size + 1)] I2.kIn (by rw [hps]; rfl)
  have r2 : Vals [V.ref (hp.objs.size + 1)] [Value.ref (hp.objs.size + 1)] := .cons rfl .nil
  have hq : spI0 C [V.ref (hp.objs.size + 1)] (upd H1 (hp.objs.size + 1) (exo (hp.objs.size + 1) C none)) (fun v H2 => v = .non ∧ H2 = upd H1 (hp.objs.size + 1) (exo (hp.objs.size + 1) C none)) (fun _ _ _ => False) := ⟨_, rfl, upd_same, rfl, rfl⟩
  refine wpAny_call (PySem.HandSPX.call_kw F.excBase_ValueError (fun Y => PySem.HandSPX.refsVE_contains Y bm hbm) (I1.kIn _ _ hC) (PySem.W.looks_findIn I1.kIn iC) (fun self => PySem.W.bind_fn I1.kIn self tI)
    (codeAny_mono (F1.run _ X.stack _ _ ⟨[Value.ref (hp.objs.size + 1)], []⟩ [Value.ref (hp.objs.size + 1)] _ _ (fun _ _ _ => False) (hr.make C [] _) (I2.env0.make C [] _) hbind r2 hq) fun r s' hq' => ?_))
  cases r with
  | error er => exact hx pins σ _ _ er s' I2 hq'
  | ok fl =>
    cases fl with
    | ret u =>
      obtain ⟨v, H2, os2, bare2, un2, hok2, rv, ev, eH⟩ := hq'
      subst ev eH
      obtain ⟨h2, g2, d2, t2, os'⟩ := s'
      have J : Inv X pins σ (upd H1 (hp.objs.size + 1) (exo (hp.objs.size + 1) C none)) ⟨h2, g2, d2, t2, os'⟩ := I2.call' (ch := []) os2 un2 hok2 bare2 fun b z => absurd z (by simp)
      obtain ⟨t0, hoe⟩ := exo_at hok2 upd_same
      have J2 := inv_swap (a := hp.objs.size + 1) J upd_same (fun H' => xo0_ok (H := H') hoe rfl rfl rfl)
      refine ⟨rv, .ref (hp.objs.size + 1), _, J2, rfl, ?_⟩
      have e : upd (upd H1 (hp.objs.size + 1) (exo (hp.objs.size + 1) C none)) (hp.objs.size + 1) (xo0 (hp.objs.size + 1) (.ref C)) = upd H1 (hp.objs.size + 1) (xo0 (hp.objs.size + 1) (.ref C)) := by
        funext b
        by_cases hb : b = hp.objs.size + 1
        · subst hb; rw [upd_same, upd_same]
        · rw [upd_ne hb, upd_ne hb, upd_ne hb]
      exact e ▸ h _ hn
    | next => exact False.elim hq'
    | brk => exact False.elim hq'
    | cont => exact False.elim hq'
end
section
variable [TabT] {X : Cx} {W : WX} {pos p : Pos}
def eMkX0 (c : Str) : EM := fun ρ => .ok (.d (.obj c [] [])) ρ
theorem de_mkx0 {c : Str} {C fI : Addr} {k : Nat} {fd : FuncData} {ps : List Str} (hmg : MgT.mg = X.mg) (T : OexC X.K C) (iC : PySem.W.findIn X.K (.ref C) "__init__" = some (some (.ref fI))) (tI : PySem.W.typeIn X.K (.ref fI) = some (.type "function"))
    (F1 : FnOk X.prog X.w X.K X.mg X.base (L2.CX X.prog X.w) k fI fd ps (spI0 C)) (hr : Room (k + 1) X.A) (hb : Binds X.K fd ps []) (hps : ps.length = 1) (hg : Gl X c) (hm : X.mg c = some (.ref C)) (hx : Passes (L2.CX X.prog X.w) X (fun _ _ _ => False))
    (hdb : (c == ("__debug__" : Str)) = false := by decide) : DE X W (.Call (.Name c p) [] [] pos) (eMkX0 c) :=
  pe_conseq (pe_oex0 T iC tI F1 hr hb hps hx hg hm hdb) fun σ H Q hq => by
    obtain ⟨F, ρ, sr, q⟩ := hq
    intro a na
    have g : Gr F H (upd F a (xo0 a (.ref C))) (upd H a (xo0 a (.ref C))) := Gr.froz sr.sub na
    exact q (.ref a) _ _ (g.sr sr) g.ev (Rep.ob0 upd_same (by rw [hmg]; exact hm))
end
end DL
set_option maxHeartbeats 1000000
/-! DL112: exceptions as values: the rules with bundles; reading. -/
namespace DL
open PySem PySem.Spec PyProof.Rows L2
/-- the class c can be made with the names ks -/
structure ExcRK (P : Program) (w : World) (K : PySem.W.Frag) (mg : Str → Option Value) (base : Heap) (k : Nat) (c : Str) (sp : Addr → Sp) (ks : List Str) (idx : List Nat) : Prop where
  ex : ∃ (C fI : Addr) (fd : FuncData) (ps : List Str), OexC K C ∧ PySem.W.findIn K (.ref C) "__init__" = some (some (.ref fI)) ∧ PySem.W.typeIn K (.ref fI) = some (.type "function") ∧ FnOk P w K mg base (L2.CX P w) k fI fd ps (sp C) ∧ KwX K fd ps ks idx ∧ mg c = some (.ref C)
/-- the class c sets no field -/
structure ExcR0 (P : Program) (w : World) (K : PySem.W.Frag) (mg : Str → Option Value) (base : Heap) (k : Nat) (c : Str) : Prop where
  ex : ∃ (C fI : Addr) (fd : FuncData) (ps : List Str), OexC K C ∧ PySem.W.findIn K (.ref C) "__init__" = some (some (.ref fI)) ∧ PySem.W.typeIn K (.ref fI) = some (.type "function") ∧ FnOk P w K mg base (L2.CX P w) k fI fd ps (spI0 C) ∧ Binds K fd ps [] ∧ ps.length = 1 ∧ mg c = some (.ref C)
section
variable [TabT]
variable {X : Cx} {W : WX} {e e2 : Expr} {p pos : Pos} {c f f2 : Str} {gl : M (List Val)} {k j : Nat} {kws : List Keyword} {ks : List Str}
theorem de_mkX1 (hmg : MgT.mg = X.mg) (hex : X.ex = []) (tk : Takes X W) (E : ExcR X.prog X.w X.K X.mg X.base k c (fun C => spI1 C f)) (hr : Room j X.A) (hk : k + 1 ≤ j) (hg : Gl X c) (ha : DA X W [e] gl)
    (hdb : (c == ("__debug__" : Str)) = false := by decide) (he : starEach [e] X.env = (false, eval e X.env) :: starEach [] X.env := by rfl) (hpl : (backTo pos (starEach [] X.env)).any (·.1) = false := by rfl) :
    DE X W (.Call (.Name c p) [e] [] pos) (eMkX c [f] gl) := by
  obtain ⟨C, fI, fd, ps, o, iC, tI, F1, b, m⟩ := E.ex
  exact de_mkx1 hmg hex o iC tI F1 (hr.mono hk) b hg m (passes_call (E := fun _ _ _ => False) tk fun _ _ _ _ h => h.elim) ha hdb he hpl
theorem de_mkX2 (hmg : MgT.mg = X.mg) (hex : X.ex = []) (tk : Takes X W) (E : ExcR X.prog X.w X.K X.mg X.base k c (fun C => spI2 C f f2)) (hr : Room j X.A) (hk : k + 1 ≤ j) (hg : Gl X c) (ha : DA X W [e, e2] gl)
    (hdb : (c == ("__debug__" : Str)) = false := by decide) (he : starEach [e, e2] X.env = (false, eval e X.env) :: starEach [e2] X.env := by rfl) (hpl : (backTo pos (starEach [e2] X.env)).any (·.1) = false := by rfl) :
    DE X W (.Call (.Name c p) [e, e2] [] pos) (eMkX c [f2, f] gl) := by
  obtain ⟨C, fI, fd, ps, o, iC, tI, F1, b, m⟩ := E.ex
  exact de_mkx2 hmg hex o iC tI F1 (hr.mono hk) b hg m (passes_call (E := fun _ _ _ => False) tk fun _ _ _ _ h => h.elim) ha hdb he hpl
theorem de_mkX0 (hmg : MgT.mg = X.mg) (tk : Takes X W) (E : ExcR0 X.prog X.w X.K X.mg X.base k c) (hr : Room j X.A) (hk : k + 1 ≤ j) (hg : Gl X c) (hdb : (c == ("__debug__" : Str)) = false := by decide) :
    DE X W (.Call (.Name c p) [] [] pos) (eMkX0 c) := by
  obtain ⟨C, fI, fd, ps, o, iC, tI, F1, b, hl, m⟩ := E.ex
  exact de_mkx0 hmg o iC tI F1 (hr.mono hk) b hl hg m (passes_call (E := fun _ _ _ => False) tk fun _ _ _ _ h => h.elim) hdb
theorem de_mkXK1 (hmg : MgT.mg = X.mg) (hex : X.ex = []) (tk : Takes X W) (E : ExcRK X.prog X.w X.K X.mg X.base k c (fun C => spI1 C f) ks [0]) (hr : Room j X.A) (hk : k + 1 ≤ j) (hg : Gl X c) (hkw : DK X W kws gl) (hn : ∀ ρ xs ρ', gl ρ = .ok xs ρ' → xs.length = ks.length) (hk1 : ks.length = 1 := by rfl)
    (hall : (backToKw pos (keywordEach kws X.env)).all (·.1.isSome) = true := by rfl) (hks : (backToKw pos (keywordEach kws X.env)).filterMap (·.1) = ks := by rfl)
    (hdb : (c == ("__debug__" : Str)) = false := by decide) (hpl : ((backTo pos (starEach [] X.env)).any (·.1) || (backToKw pos (keywordEach kws X.env)).any (·.1.isNone)) = false := by rfl) :
    DE X W (.Call (.Name c p) [] kws pos) (eMkXK [0] c [f] gl) := by
  obtain ⟨C, fI, fd, ps, o, iC, tI, F1, b, m⟩ := E.ex
  exact de_mkxK1 hmg hex o iC tI F1 (hr.mono hk) b hg m (passes_call (E := fun _ _ _ => False) tk fun _ _ _ _ h => h.elim) hkw hn hk1 hall hks hdb hpl
theorem de_mkXK2 (hmg : MgT.mg = X.mg) (hex : X.ex = []) (tk : Takes X W) (E : ExcRK X.prog X.w X.K X.mg X.base k c (fun C => spI2 C f f2) ks [1, 0]) (hr : Room j X.A) (hk : k + 1 ≤ j) (hg : Gl X c) (hkw : DK X W kws gl) (hn : ∀ ρ xs ρ', gl ρ = .ok xs ρ' → xs.length = ks.length) (hk1 : ks.length = 2 := by rfl)
    (hall : (backToKw pos (keywordEach kws X.env)).all (·.1.isSome) = true := by rfl) (hks : (backToKw pos (keywordEach kws X.env)).filterMap (·.1) = ks := by rfl)
    (hdb : (c == ("__debug__" : Str)) = false := by decide) (hpl : ((backTo pos (starEach [] X.env)).any (·.1) || (backToKw pos (keywordEach kws X.env)).any (·.1.isNone)) = false := by rfl) :
    DE X W (.Call (.Name c p) [] kws pos) (eMkXK [1, 0] c [f2, f] gl) := by
  obtain ⟨C, fI, fd, ps, o, iC, tI, F1, b, m⟩ := E.ex
  exact de_mkxK2 hmg hex o iC tI F1 (hr.mono hk) b hg m (passes_call (E := fun _ _ _ => False) tk fun _ _ _ _ h => h.elim) hkw hn hk1 hall hks hdb hpl
end
/-! ### reading -/
section
variable {ρ : DEnv} {c : Str} {ns : List Str} {idx : List Nat} {g : M (List Val)} {Q : Val → DEnv → Prop} {X : Ex → DEnv → Prop} {xs : List Val} {ds es : List D}
def mkXV (c : Str) (ns : List Str) (xs : List Val) : EM := fun ρ1 => match dsL xs with
  | some ds => if ds.length = ns.length then .ok (.d (.obj c ns ds.reverse)) ρ1 else .bad
  | none => .bad
theorem b_mkX (q : (g ρ).wp (fun xs ρ1 => (mkXV c ns xs ρ1).wp Q X) X) : (eMkX c ns g ρ).wp Q X := b_bind q
theorem b_mkXV (h : dsL xs = some ds) (hl : ds.length = ns.length) (q : Q (.d (.obj c ns ds.reverse)) ρ) : (mkXV c ns xs ρ).wp Q X := by
  unfold mkXV
  rw [h]
  dsimp only
  rw [if_pos hl]
  exact q
def mkXKV (idx : List Nat) (c : Str) (ns : List Str) (xs : List Val) : EM := fun ρ1 => match dsL xs with
  | some ds => match selL idx ds with
    | some es => if es.length = ns.length then .ok (.d (.obj c ns es.reverse)) ρ1 else .bad
    | none => .bad
  | none => .bad
theorem b_mkXK (q : (g ρ).wp (fun xs ρ1 => (mkXKV idx c ns xs ρ1).wp Q X) X) : (eMkXK idx c ns g ρ).wp Q X := b_bind q
theorem b_mkXKV (h : dsL xs = some ds) (hs : selL idx ds = some es) (hl : es.length = ns.length) (q : Q (.d (.obj c ns es.reverse)) ρ) : (mkXKV idx c ns xs ρ).wp Q X := by
  unfold mkXKV
  rw [h]
  dsimp only
  rw [hs]
  dsimp only
  rw [if_pos hl]
  exact q
theorem b_mkX0 (q : Q (.d (.obj c [] [])) ρ) : (eMkX0 c ρ).wp Q X := q
end
end DL
namespace K49
open PySem PySem.Spec PyProof.Rows L2 DL
noncomputable section
/-! _law_pot (common: CM.s_l_pot): slots 0 _law_script, 1 _law_k, 2 _law_cell, 3 _law_own -/
def ps__law_pot : List Str := [("_law_script" : Str), ("_law_k" : Str)]
/-! _law_draw (common: CM.s_l_draw): slots 0 _law_pot_here, 1 _law_many, 2 _law_prime, 3 _law_mixed, 4 _law_digit -/
def ps__law_draw : List Str := [("_law_pot_here" : Str), ("_law_many" : Str)]
/-! _law_any (common: CM.s_l_any): slots 0 _law_pot_here, 1 _law_items -/
def ps__law_any : List Str := [("_law_pot_here" : Str), ("_law_items" : Str)]
/-! _law_odd (common: CM.s_l_odd): slots 0 _law_pot_here, 1 _law_thing, 2 _law_some -/
def ps__law_odd : List Str := [("_law_pot_here" : Str), ("_law_thing" : Str)]
/-! _law_marks: slots 0 _law_caught, 1 _law_found -/
def ps__law_marks : List Str := [("_law_caught" : Str)]
def e__law_marks : SM := (sSeq (sAsg 1 (eLst (aCons (fz (eIsO [("NoIndex" : Str), ("NoValue" : Str), ("Unexplained" : Str), ("BadOrder" : Str), ("NoPosition" : Str), ("BadStamps" : Str), ("BadLog" : Str), ("BadTolerance" : Str), ("BadOperation" : Str), ("Written" : Str), ("TooMany" : Str), ("NothingToUndo" : Str), ("BadText" : Str), ("BadLine" : Str)] ("NoIndex" : Str) (eVar 0))) (aCons (fz (eIsO [("NoIndex" : Str), ("NoValue" : Str), ("Unexplained" : Str), ("BadOrder" : Str), ("NoPosition" : Str), ("BadStamps" : Str), ("BadLog" : Str), ("BadTolerance" : Str), ("BadOperation" : Str), ("Written" : Str), ("TooMany" : Str), ("NothingToUndo" : Str), ("BadText" : Str), ("BadLine" : Str)] ("NoValue" : Str) (eVar 0))) (aCons (fz (eIsO [("NoIndex" : Str), ("NoValue" : Str), ("Unexplained" : Str), ("BadOrder" : Str), ("NoPosition" : Str), ("BadStamps" : Str), ("BadLog" : Str), ("BadTolerance" : Str), ("BadOperation" : Str), ("Written" : Str), ("TooMany" : Str), ("NothingToUndo" : Str), ("BadText" : Str), ("BadLine" : Str)] ("Unexplained" : Str) (eVar 0))) aNil)))))
    (sSeq (sAsg 1 (eOp addD (eVar 1) (eLst (aCons (fz (eIsO [("NoIndex" : Str), ("NoValue" : Str), ("Unexplained" : Str), ("BadOrder" : Str), ("NoPosition" : Str), ("BadStamps" : Str), ("BadLog" : Str), ("BadTolerance" : Str), ("BadOperation" : Str), ("Written" : Str), ("TooMany" : Str), ("NothingToUndo" : Str), ("BadText" : Str), ("BadLine" : Str)] ("BadOrder" : Str) (eVar 0))) (aCons (fz (eIsO [("NoIndex" : Str), ("NoValue" : Str), ("Unexplained" : Str), ("BadOrder" : Str), ("NoPosition" : Str), ("BadStamps" : Str), ("BadLog" : Str), ("BadTolerance" : Str), ("BadOperation" : Str), ("Written" : Str), ("TooMany" : Str), ("NothingToUndo" : Str), ("BadText" : Str), ("BadLine" : Str)] ("NoPosition" : Str) (eVar 0))) (aCons (fz (eIsO [("NoIndex" : Str), ("NoValue" : Str), ("Unexplained" : Str), ("BadOrder" : Str), ("NoPosition" : Str), ("BadStamps" : Str), ("BadLog" : Str), ("BadTolerance" : Str), ("BadOperation" : Str), ("Written" : Str), ("TooMany" : Str), ("NothingToUndo" : Str), ("BadText" : Str), ("BadLine" : Str)] ("BadLog" : Str) (eVar 0))) aNil))))))
    (sSeq (sAsg 1 (eOp addD (eVar 1) (eLst (aCons (fz (eIsO [("NoIndex" : Str), ("NoValue" : Str), ("Unexplained" : Str), ("BadOrder" : Str), ("NoPosition" : Str), ("BadStamps" : Str), ("BadLog" : Str), ("BadTolerance" : Str), ("BadOperation" : Str), ("Written" : Str), ("TooMany" : Str), ("NothingToUndo" : Str), ("BadText" : Str), ("BadLine" : Str)] ("BadTolerance" : Str) (eVar 0))) (aCons (fz (eIsO [("NoIndex" : Str), ("NoValue" : Str), ("Unexplained" : Str), ("BadOrder" : Str), ("NoPosition" : Str), ("BadStamps" : Str), ("BadLog" : Str), ("BadTolerance" : Str), ("BadOperation" : Str), ("Written" : Str), ("TooMany" : Str), ("NothingToUndo" : Str), ("BadText" : Str), ("BadLine" : Str)] ("BadOperation" : Str) (eVar 0))) (aCons (fz (eIsO [("NoIndex" : Str), ("NoValue" : Str), ("Unexplained" : Str), ("BadOrder" : Str), ("NoPosition" : Str), ("BadStamps" : Str), ("BadLog" : Str), ("BadTolerance" : Str), ("BadOperation" : Str), ("Written" : Str), ("TooMany" : Str), ("NothingToUndo" : Str), ("BadText" : Str), ("BadLine" : Str)] ("Written" : Str) (eVar 0))) aNil))))))
    (sSeq (sAsg 1 (eOp addD (eVar 1) (eLst (aCons (fz (eIsO [("NoIndex" : Str), ("NoValue" : Str), ("Unexplained" : Str), ("BadOrder" : Str), ("NoPosition" : Str), ("BadStamps" : Str), ("BadLog" : Str), ("BadTolerance" : Str), ("BadOperation" : Str), ("Written" : Str), ("TooMany" : Str), ("NothingToUndo" : Str), ("BadText" : Str), ("BadLine" : Str)] ("TooMany" : Str) (eVar 0))) (aCons (fz (eIsO [("NoIndex" : Str), ("NoValue" : Str), ("Unexplained" : Str), ("BadOrder" : Str), ("NoPosition" : Str), ("BadStamps" : Str), ("BadLog" : Str), ("BadTolerance" : Str), ("BadOperation" : Str), ("Written" : Str), ("TooMany" : Str), ("NothingToUndo" : Str), ("BadText" : Str), ("BadLine" : Str)] ("BadText" : Str) (eVar 0))) (aCons (fz (eIsO [("NoIndex" : Str), ("NoValue" : Str), ("Unexplained" : Str), ("BadOrder" : Str), ("NoPosition" : Str), ("BadStamps" : Str), ("BadLog" : Str), ("BadTolerance" : Str), ("BadOperation" : Str), ("Written" : Str), ("TooMany" : Str), ("NothingToUndo" : Str), ("BadText" : Str), ("BadLine" : Str)] ("BadLine" : Str) (eVar 0))) aNil))))))
    (sRet (eOp addD (eVar 1) (eLst (aCons (fz (eIsO [("NoIndex" : Str), ("NoValue" : Str), ("Unexplained" : Str), ("BadOrder" : Str), ("NoPosition" : Str), ("BadStamps" : Str), ("BadLog" : Str), ("BadTolerance" : Str), ("BadOperation" : Str), ("Written" : Str), ("TooMany" : Str), ("NothingToUndo" : Str), ("BadText" : Str), ("BadLine" : Str)] ("BadStamps" : Str) (eVar 0))) (aCons (fz (eIsO [("NoIndex" : Str), ("NoValue" : Str), ("Unexplained" : Str), ("BadOrder" : Str), ("NoPosition" : Str), ("BadStamps" : Str), ("BadLog" : Str), ("BadTolerance" : Str), ("BadOperation" : Str), ("Written" : Str), ("TooMany" : Str), ("NothingToUndo" : Str), ("BadText" : Str), ("BadLine" : Str)] ("NothingToUndo" : Str) (eVar 0))) aNil)))))))))
def s__law_marks : FM := fnD 1 1 e__law_marks
/-! _law_held: slots 0 _law_made, 1 _law_found -/
def ps__law_held : List Str := [("_law_made" : Str)]
def e__law_held : SM := (sSeq (sAsg 1 (eLst (aCons (fz (eAtO [("NoIndex" : Str)] ("index" : Str) (eOp idxD (eVar 0) (eC (.int 0))))) (aCons (fz (eAtO [("NoValue" : Str), ("BadOrder" : Str), ("BadLog" : Str), ("BadTolerance" : Str), ("Written" : Str), ("BadText" : Str)] ("value" : Str) (eOp idxD (eVar 0) (eC (.int 1))))) (aCons (fz (eAtO [("Unexplained" : Str)] ("fault" : Str) (eOp idxD (eVar 0) (eC (.int 2))))) (aCons (fz (eAtO [("NoValue" : Str), ("BadOrder" : Str), ("BadLog" : Str), ("BadTolerance" : Str), ("Written" : Str), ("BadText" : Str)] ("value" : Str) (eOp idxD (eVar 0) (eC (.int 3))))) (aCons (fz (eAtO [("NoPosition" : Str)] ("position" : Str) (eOp idxD (eVar 0) (eC (.int 4))))) (aCons (fz (eAtO [("NoValue" : Str), ("BadOrder" : Str), ("BadLog" : Str), ("BadTolerance" : Str), ("Written" : Str), ("BadText" : Str)] ("value" : Str) (eOp idxD (eVar 0) (eC (.int 5))))) aNil))))))))
    (sSeq (sAsg 1 (eOp addD (eVar 1) (eLst (aCons (fz (eAtO [("NoValue" : Str), ("BadOrder" : Str), ("BadLog" : Str), ("BadTolerance" : Str), ("Written" : Str), ("BadText" : Str)] ("value" : Str) (eOp idxD (eVar 0) (eC (.int 6))))) (aCons (fz (eAtO [("BadOperation" : Str)] ("operation" : Str) (eOp idxD (eVar 0) (eC (.int 7))))) (aCons (fz (eAtO [("NoValue" : Str), ("BadOrder" : Str), ("BadLog" : Str), ("BadTolerance" : Str), ("Written" : Str), ("BadText" : Str)] ("value" : Str) (eOp idxD (eVar 0) (eC (.int 8))))) (aCons (fz (eAtO [("TooMany" : Str)] ("limit" : Str) (eOp idxD (eVar 0) (eC (.int 9))))) (aCons (fz (eAtO [("NoValue" : Str), ("BadOrder" : Str), ("BadLog" : Str), ("BadTolerance" : Str), ("Written" : Str), ("BadText" : Str)] ("value" : Str) (eOp idxD (eVar 0) (eC (.int 10))))) (aCons (fz (eAtO [("BadLine" : Str)] ("line" : Str) (eOp idxD (eVar 0) (eC (.int 11))))) aNil)))))))))
    (sRet (eOp addD (eVar 1) (eLst (aCons (fz (eAtO [("BadStamps" : Str)] ("begin" : Str) (eOp idxD (eVar 0) (eC (.int 12))))) (aCons (fz (eAtO [("BadStamps" : Str)] ("end" : Str) (eOp idxD (eVar 0) (eC (.int 12))))) aNil)))))))
def s__law_held : FM := fnD 1 1 e__law_held
/-! _law_right: slots 0 _law_pot_here, 1 _law_kept, 2 _law_made, 3 _law_named, 4 _law_some, 5 _law_thing, 6 _law_second, 7 _law_turn, 8 _law_at, 9 _law_error, 10 _law_spot -/
def ps__law_right : List Str := [("_law_pot_here" : Str)]
abbrev c1__law_right : EM := eLc [7] (iRng (aCons (eC (.int 2)) aNil)) (asgV 7) tYesD (fz (eCall CM.s_l_odd (aCons (eVar 0) (aCons (eCall CM.s_l_any (aCons (eVar 0) (aCons (eLst (aCons (eC (.int 7)) (aCons (eC (.str ("a" : Str))) (aCons (fz (eTup (aCons (eC (.int 1)) (aCons (fz (eTup (aCons (eC (.int 2)) (aCons (eC (.str ("b" : Str))) aNil)))) aNil)))) aNil)))) aNil))) aNil))))
abbrev c2__law_right : EM := eLc [10] (iRng (aCons (eC (.int 14)) aNil)) (asgV 10) tYesD (fz (eOp eqV' (eVar 10) (eVar 8)))
abbrev l1__law_right : SM := sFor (iEnu (eVar 4)) (tupG 2 (gsCons (asgV 8) (gsCons (asgV 9) gsNil)))
    (sSeq (sIf (tst (eOp neV' (eCall s__law_marks (aCons (eVar 9) aNil)) c2__law_right))
    (sRet (eC (.bl false)))
    sSkip)
    (sIf (tOrM (tNotM (tst (eIsO [("NoIndex" : Str), ("NoValue" : Str), ("Unexplained" : Str), ("BadOrder" : Str), ("NoPosition" : Str), ("BadStamps" : Str), ("BadLog" : Str), ("BadTolerance" : Str), ("BadOperation" : Str), ("Written" : Str), ("TooMany" : Str), ("NothingToUndo" : Str), ("BadText" : Str), ("BadLine" : Str)] ("CellError" : Str) (eVar 9)))) (tNotM (tst (eIsO [("NoIndex" : Str), ("NoValue" : Str), ("Unexplained" : Str), ("BadOrder" : Str), ("NoPosition" : Str), ("BadStamps" : Str), ("BadLog" : Str), ("BadTolerance" : Str), ("BadOperation" : Str), ("Written" : Str), ("TooMany" : Str), ("NothingToUndo" : Str), ("BadText" : Str), ("BadLine" : Str)] ("ValueError" : Str) (eVar 9)))))
    (sRet (eC (.bl false)))
    sSkip))
abbrev l2__law_right : SM := sFor (iSeq (eTup (aCons (fz (eVar 2)) (aCons (fz (eVar 3)) aNil)))) (asgV 4)
    (sSeq (sIf (tst (eOp neV' (eCallB reprY (aCons (eCall s__law_held (aCons (eVar 4) aNil)) aNil)) (eCallB reprY (aCons (eOp addD (eOp mulD (eLst (aCons (fz (eVar 5)) aNil)) (eC (.int 13))) (eLst (aCons (fz (eVar 6)) aNil))) aNil))))
    (sRet (eC (.bl false)))
    sSkip)
    l1__law_right)
def e__law_right : SM := (sSeq (sTgt c1__law_right (tupG 2 (gsCons (asgV 5) (gsCons (asgV 6) gsNil))))
    (sSeq (sAsg 1 (eCallB reprY (aCons (eTup (aCons (fz (eVar 5)) (aCons (fz (eVar 6)) aNil))) aNil)))
    (sSeq (sAsg 2 (eLst (aCons (fz (eMkX ("NoIndex" : Str) [("index" : Str)] (aCons (eVar 5) aNil))) (aCons (fz (eMkX ("NoValue" : Str) [("value" : Str)] (aCons (eVar 5) aNil))) (aCons (fz (eMkX ("Unexplained" : Str) [("fault" : Str)] (aCons (eVar 5) aNil))) (aCons (fz (eMkX ("BadOrder" : Str) [("value" : Str)] (aCons (eVar 5) aNil))) (aCons (fz (eMkX ("NoPosition" : Str) [("position" : Str)] (aCons (eVar 5) aNil))) (aCons (fz (eMkX ("BadLog" : Str) [("value" : Str)] (aCons (eVar 5) aNil))) aNil))))))))
    (sSeq (sAsg 2 (eOp addD (eVar 2) (eLst (aCons (fz (eMkX ("BadTolerance" : Str) [("value" : Str)] (aCons (eVar 5) aNil))) (aCons (fz (eMkX ("BadOperation" : Str) [("operation" : Str)] (aCons (eVar 5) aNil))) (aCons (fz (eMkX ("Written" : Str) [("value" : Str)] (aCons (eVar 5) aNil))) (aCons (fz (eMkX ("TooMany" : Str) [("limit" : Str)] (aCons (eVar 5) aNil))) (aCons (fz (eMkX ("BadText" : Str) [("value" : Str)] (aCons (eVar 5) aNil))) aNil))))))))
    (sSeq (sAsg 2 (eOp addD (eVar 2) (eLst (aCons (fz (eMkX ("BadLine" : Str) [("line" : Str)] (aCons (eVar 5) aNil))) (aCons (fz (eMkX ("BadStamps" : Str) [("end" : Str), ("begin" : Str)] (aCons (eVar 5) (aCons (eVar 6) aNil)))) (aCons (fz (eMkX0 ("NothingToUndo" : Str))) aNil))))))
    (sSeq (sAsg 3 (eLst (aCons (fz (eMkXK [0] ("NoIndex" : Str) [("index" : Str)] (aCons (eVar 5) aNil))) (aCons (fz (eMkXK [0] ("NoValue" : Str) [("value" : Str)] (aCons (eVar 5) aNil))) (aCons (fz (eMkXK [0] ("Unexplained" : Str) [("fault" : Str)] (aCons (eVar 5) aNil))) (aCons (fz (eMkXK [0] ("BadOrder" : Str) [("value" : Str)] (aCons (eVar 5) aNil))) aNil))))))
    (sSeq (sAsg 3 (eOp addD (eVar 3) (eLst (aCons (fz (eMkXK [0] ("NoPosition" : Str) [("position" : Str)] (aCons (eVar 5) aNil))) (aCons (fz (eMkXK [0] ("BadLog" : Str) [("value" : Str)] (aCons (eVar 5) aNil))) (aCons (fz (eMkXK [0] ("BadTolerance" : Str) [("value" : Str)] (aCons (eVar 5) aNil))) aNil))))))
    (sSeq (sAsg 3 (eOp addD (eVar 3) (eLst (aCons (fz (eMkXK [0] ("BadOperation" : Str) [("operation" : Str)] (aCons (eVar 5) aNil))) (aCons (fz (eMkXK [0] ("Written" : Str) [("value" : Str)] (aCons (eVar 5) aNil))) (aCons (fz (eMkXK [0] ("TooMany" : Str) [("limit" : Str)] (aCons (eVar 5) aNil))) (aCons (fz (eMkXK [0] ("BadText" : Str) [("value" : Str)] (aCons (eVar 5) aNil))) aNil)))))))
    (sSeq (sAsg 3 (eOp addD (eVar 3) (eLst (aCons (fz (eMkXK [0] ("BadLine" : Str) [("line" : Str)] (aCons (eVar 5) aNil))) (aCons (fz (eMkXK [1, 0] ("BadStamps" : Str) [("end" : Str), ("begin" : Str)] (aCons (eVar 6) (aCons (eVar 5) aNil)))) aNil)))))
    (sSeq l2__law_right
    (sRet (eOp eqV' (eCallB reprY (aCons (eTup (aCons (fz (eVar 5)) (aCons (fz (eVar 6)) aNil))) aNil)) (eVar 1)))))))))))))
def s__law_right : FM := fnD 1 10 e__law_right
/-! law: slots 0 _law_script, 1 _law_k, 2 _law_pot_here, 3 _law_turn -/
def ps_law : List Str := [("_law_script" : Str)]
abbrev c1_law : EM := eLc [3] (iRng (aCons (eC (.int 6)) aNil)) (asgV 3) tYesD (fz (eCall s__law_right (aCons (eVar 2) aNil)))
abbrev l1_law : SM := sFor (iRng (aCons (eCallB maxD (aCons (eC (.int 1)) (aCons (eCallB minD (aCons (eC (.int 3)) (aCons (eCallB lenD (aCons (eVar 0) aNil)) aNil))) aNil))) aNil)) (asgV 1)
    (sSeq (sAsg 2 (eCall CM.s_l_pot (aCons (eVar 0) (aCons (eVar 1) aNil))))
    (sIf (tNotM (tst (eCallB allD (aCons c1_law aNil))))
    (sRet (eC (.bl false)))
    sSkip))
def e_law : SM := (sSeq l1_law
    (sRet (eC (.bl true))))
def s_law : FM := fnD 1 3 e_law
end
end K49
set_option maxHeartbeats 1000000
namespace K49
open PySem PySem.Spec PyProof.Rows L2 DL CM
abbrev ES : List Str := [("NoIndex" : Str), ("NoValue" : Str), ("Unexplained" : Str), ("BadOrder" : Str), ("NoPosition" : Str), ("BadStamps" : Str), ("BadLog" : Str), ("BadTolerance" : Str), ("BadOperation" : Str), ("Written" : Str), ("TooMany" : Str), ("NothingToUndo" : Str), ("BadText" : Str), ("BadLine" : Str)]
abbrev mks : List Str := [("NoIndex" : Str), ("NoValue" : Str), ("Unexplained" : Str), ("BadOrder" : Str), ("NoPosition" : Str), ("BadLog" : Str), ("BadTolerance" : Str), ("BadOperation" : Str), ("Written" : Str), ("TooMany" : Str), ("BadText" : Str), ("BadLine" : Str), ("BadStamps" : Str), ("NothingToUndo" : Str)]
theorem marks_wp {k : Str} {ns : List Str} {ds : List D} {Q : Val → DEnv → Prop} {X : Ex → DEnv → Prop} (hk : ES.contains k = true) (q : Q (.fr (.lst (mks.map fun c => D.bl (subX k c)))) [.d (.obj k ns ds)]) : (s__law_marks [.d (.obj k ns ds)]).wp Q X := by
  unfold s__law_marks e__law_marks; with_reducible refine f_fnW (by with_unfolding_all exact rfl) ?_
  (repeat (case orE => (fail "WU2"); (with_reducible refine b_isO ?_); (with_reducible refine b_isOV (by with_unfolding_all exact rfl) hk ?_)))
  with_unfolding_all exact q
def obs (t u : D) : List D := [.obj "NoIndex" ["index"] [t], .obj "NoValue" ["value"] [t], .obj "Unexplained" ["fault"] [t], .obj "BadOrder" ["value"] [t], .obj "NoPosition" ["position"] [t], .obj "BadLog" ["value"] [t], .obj "BadTolerance" ["value"] [t], .obj "BadOperation" ["operation"] [t], .obj "Written" ["value"] [t], .obj "TooMany" ["limit"] [t], .obj "BadText" ["value"] [t], .obj "BadLine" ["line"] [t], .obj "BadStamps" ["end", "begin"] [u, t]]
abbrev nth : D := .obj "NothingToUndo" [] []
theorem held_wp {t u : D} {L : List D} {Q : Val → DEnv → Prop} {X : Ex → DEnv → Prop} (hL : L = obs t u ∨ L = obs t u ++ [nth]) (q : Q (.fr (.lst [t, t, t, t, t, t, t, t, t, t, t, t, t, u])) [.d (.lst L)]) : (s__law_held [.d (.lst L)]).wp Q X := by
  rcases hL with rfl | rfl
  · unfold s__law_held e__law_held; with_reducible refine f_fnW (by with_unfolding_all exact rfl) ?_
    (repeat (case orE => (fail "WU2"); (with_reducible refine b_atO ?_); (with_reducible refine b_atOV (by with_unfolding_all exact rfl) (by with_unfolding_all exact rfl) (by with_unfolding_all exact rfl) ?_)))
    with_unfolding_all exact q
  · unfold s__law_held e__law_held; with_reducible refine f_fnW (by with_unfolding_all exact rfl) ?_
    (repeat (case orE => (fail "WU2"); (with_reducible refine b_atO ?_); (with_reducible refine b_atOV (by with_unfolding_all exact rfl) (by with_unfolding_all exact rfl) (by with_unfolding_all exact rfl) ?_)))
    with_unfolding_all exact q
/-- the marks of the item at i -/
theorem marks_at : ∀ p ∈ mks.zipIdx, (mks.map fun c => subX p.1 c) = (List.range 14).map fun j : Nat => decide (j = p.2) := by decide +kernel
end K49
set_option maxHeartbeats 1000000
namespace K49
open PySem PySem.Spec PyProof.Rows L2 DL CM
abbrev It : Type := Str × List Str × List D
def It.d (p : It) : D := .obj p.1 p.2.1 p.2.2
def spots (i : Nat) : List D := (List.range 14).map fun j : Nat => .bl (decide (j = i))
theorem c2_wp {s0 s1 s2 s3 s4 s5 s6 s7 s9 : DL.Slot} {i : Nat} {Q : Val → DEnv → Prop} {X : Ex → DEnv → Prop} (hi : i < 14) (q : Q (.fr (.lst (spots i))) [s0, s1, s2, s3, s4, s5, s6, s7, .d (.int (i : Int)), s9, .un]) : (c2__law_right [s0, s1, s2, s3, s4, s5, s6, s7, .d (.int (i : Int)), s9, .un]).wp Q X := by
  have e : spots i = (List.range (Int.toNat 14)).map fun k : Nat => D.bl (decide (0 + (k : Int) = (i : Int))) := by
    unfold spots
    refine List.map_congr_left fun j _ => ?_
    congr 1
    exact decide_eq_decide.mpr (by omega)
  unfold c2__law_right
  repeat fail "WU11"
  rw [e] at q
  with_unfolding_all exact q
theorem l1_wp {s0 s1 s2 s3 s5 s6 s7 s8 s9 : DL.Slot} {L : List It} {P : Po} (hL : ∀ p ∈ L.zipIdx, (p.1.1, p.2) ∈ mks.zipIdx) (hl : L.length ≤ 14) (f8 : Fr s8) (f9 : Fr s9) (q : ∀ s8 s9, Fr s8 → Fr s9 → P.nx [s0, s1, s2, s3, .d (.lst (L.map It.d)), s5, s6, s7, s8, s9, .un]) : (l1__law_right [s0, s1, s2, s3, .d (.lst (L.map It.d)), s5, s6, s7, s8, s9, .un]).wp P := by
  have hc2 := @c2_wp
  unfold l1__law_right
  generalize c2__law_right = gc at hc2 ⊢
  repeat fail "WU11"
  rw [enumL_map]
  with_reducible refine loop_map (bs := L.zipIdx) (dd := fun p => .tup [.int (p.2 : Nat), It.d p.1]) (fun k ρ => ∃ s8 s9, ρ = [s0, s1, s2, s3, .d (.lst (L.map It.d)), s5, s6, s7, s8, s9, .un] ∧ Fr s8 ∧ Fr s9) ⟨s8, s9, rfl, f8, f9⟩ (fun j b ρ hj hI => ?_) fun ρ hI => ?_
  · obtain ⟨s8, s9, rfl, f8, f9⟩ := hI
    obtain ⟨⟨k, ns, ds⟩, i⟩ := b
    have hm := hL _ (List.mem_of_getElem? hj)
    have hm : (k, i) ∈ mks.zipIdx := hm
    have hi : i < 14 := by
      have := (List.mem_zipIdx hm).2.1
      simpa using this
    have hk : k ∈ mks := (List.mem_zipIdx hm).2.2 ▸ List.getElem_mem _
    have hes : ∀ k ∈ mks, ES.contains k = true ∧ subX k "CellError" = true ∧ subX k "ValueError" = true := by decide +kernel
    obtain ⟨h1, h2, h3⟩ := hes k hk
    have em : (mks.map fun c => D.bl (subX k c)) = spots i := by
      have := congrArg (List.map D.bl) (marks_at (k, i) hm)
      rw [List.map_map, List.map_map] at this
      exact this
    have gs : Gd 1 15 (.lst (spots i)) := Gd.mono (Gd.lst (k := 0) (n := 1) fun x hx => by
      obtain ⟨j, _, rfl⟩ := List.mem_map.mp hx
      exact ⟨rfl, rfl, Nat.le_refl _, Nat.le_refl _⟩) (Nat.le_refl _) (by unfold spots; rw [List.length_map, List.length_range]; decide)
    unfold It.d
    dsimp only
    (repeat (case orE => ((rw [em])); (with_reducible refine hc2 hi ?_); (with_reducible refine x_neSame (by with_unfolding_all exact rfl) (by with_unfolding_all exact rfl) gs (by decide) rfl ?_); ((rw [h2])); ((rw [h3])); (fail "WU11"); (with_reducible refine marks_wp h1 ?_); (with_reducible refine b_isO ?_); (with_reducible refine b_isOV (by with_unfolding_all exact rfl) h1 ?_); (with_reducible refine way_f (by simp) ?_)))
    exact ⟨_, _, rfl, Fr.dat, Fr.dat⟩
  · obtain ⟨s8, s9, rfl, f8, f9⟩ := hI
    exact q s8 s9 f8 f9
def obI (t u : D) : List It := [("NoIndex", ["index"], [t]), ("NoValue", ["value"], [t]), ("Unexplained", ["fault"], [t]), ("BadOrder", ["value"], [t]), ("NoPosition", ["position"], [t]), ("BadLog", ["value"], [t]), ("BadTolerance", ["value"], [t]), ("BadOperation", ["operation"], [t]), ("Written", ["value"], [t]), ("TooMany", ["limit"], [t]), ("BadText", ["value"], [t]), ("BadLine", ["line"], [t]), ("BadStamps", ["end", "begin"], [u, t])]
theorem ob_in {t u : D} : (∀ p ∈ (obI t u).zipIdx, (p.1.1, p.2) ∈ mks.zipIdx) ∧ ∀ p ∈ (obI t u ++ ([("NothingToUndo", [], [])] : List It)).zipIdx, (p.1.1, p.2) ∈ mks.zipIdx := by
  constructor
  · intro p hp
    have h : (p.1.1, p.2) ∈ (obI t u).zipIdx.map fun p => (p.1.1, p.2) := List.mem_map_of_mem (f := fun p : It × Nat => (p.1.1, p.2)) hp
    have e : ((obI t u).zipIdx.map fun p : It × Nat => (p.1.1, p.2)) = (mks.take 13).zipIdx := rfl
    rw [e] at h
    have hs : ∀ q ∈ (mks.take 13).zipIdx, q ∈ mks.zipIdx := by decide +kernel
    exact hs _ h
  · intro p hp
    have h : (p.1.1, p.2) ∈ (obI t u ++ ([("NothingToUndo", [], [])] : List It)).zipIdx.map fun p => (p.1.1, p.2) := List.mem_map_of_mem (f := fun p : It × Nat => (p.1.1, p.2)) hp
    have e : ((obI t u ++ ([("NothingToUndo", [], [])] : List It)).zipIdx.map fun p : It × Nat => (p.1.1, p.2)) = mks.zipIdx := rfl
    rw [e] at h
    exact h
end K49
set_option maxHeartbeats 1000000
namespace K49
open PySem PySem.Spec PyProof.Rows L2 DL CM
abbrev its : List D := [.int 7, .str "a", .tup [.int 1, .tup [.int 2, .str "b"]]]
theorem its_ok : ∀ x ∈ its, x.oddB 3 = true ∧ x.dep ≤ 3 ∧ x.cnt ≤ 20 := by
  intro x hx
  simp only [its, List.mem_cons, List.not_mem_nil, or_false] at hx
  rcases hx with rfl | rfl | rfl <;> exact ⟨by decide +kernel, by decide +kernel, by decide +kernel⟩
structure Th (y : D) : Prop where
  odd : y.oddB 4 = true
  dep : y.dep ≤ 4
  cnt : y.cnt ≤ 41
theorem th_of {x y : D} (hx : x ∈ its) (b : Bnt 3 x y) : Th y := by
  obtain ⟨h1, h2, h3⟩ := its_ok x hx
  exact ⟨b.odd, by have := b.dep; omega, by have := b.cnt; omega⟩
abbrev rowD (t u : D) : D := .lst [t, t, t, t, t, t, t, t, t, t, t, t, t, u]
theorem l2_wp {t u : D} {s0 s1 : DL.Slot} {P : Po} (b1 : (rowD t u).oddB 4 = true) (b2 : (rowD t u).dep ≤ 58) (b3 : (rowD t u).cnt ≤ 8000) (q : ∀ s2 s3 s4 s8 s9, P.nx [s0, s1, s2, s3, s4, .d t, .d u, .un, s8, s9, .un]) :
    (l2__law_right [s0, s1, .ow (.lst (obs t u ++ [nth])) .own, .ow (.lst (obs t u)) .own, .un, .d t, .d u, .un, .un, .un, .un]).wp P := by
  have hh := @held_wp
  have hl1 := @l1_wp
  unfold l2__law_right
  generalize s__law_held = gh at hh ⊢
  generalize l1__law_right = g1 at hl1 ⊢
  have t1 : (Cont.lst (obs t u ++ [nth])).toD = D.lst (obs t u ++ [nth]) := rfl
  have t2 : (Cont.lst (obs t u)).toD = D.lst (obs t u) := rfl
  (repeat (case orE => (with_reducible refine s_as (f := g1) (ρ' := [s0, s1, .d (.lst (obs t u ++ [nth])), .d (.lst (obs t u)), .d (.lst ((obI t u ++ ([("NothingToUndo", [], [])] : List It)).map It.d)), .d t, .d u, .un, .un, .un, .un]) (by with_unfolding_all exact rfl) (hl1 ob_in.2 (by simp [obI]) Fr.un Fr.un (fun s8 s9 f8 f9 => ?_))); ((rw [t1])); ((rw [t2])); (with_reducible refine x_reprY (a := rowD t u) (by with_unfolding_all exact rfl) b1 (by decide) b2 b3 ?_); (fail "WU11"); (with_reducible refine hh (.inr rfl) ?_); (with_reducible refine hh (.inl rfl) ?_); (with_reducible refine x_repL (by with_unfolding_all exact rfl) (by with_unfolding_all exact rfl) (by decide) (by simp) ?_); (with_reducible refine way_f (by simp) ?_)))
  (repeat (case orE => (with_reducible refine s_as (f := g1) (ρ' := [s0, s1, .d (.lst (obs t u ++ [nth])), .d (.lst (obs t u)), .d (.lst ((obI t u).map It.d)), .d t, .d u, .un, s8, s9, .un]) (by with_unfolding_all exact rfl) (hl1 ob_in.1 (by simp [obI]) f8 f9 (fun s8 s9 f8 f9 => ?_))); ((rw [t1])); ((rw [t2])); (with_reducible refine x_reprY (a := rowD t u) (by with_unfolding_all exact rfl) b1 (by decide) b2 b3 ?_); (fail "WU11"); (with_reducible refine hh (.inr rfl) ?_); (with_reducible refine hh (.inl rfl) ?_); (with_reducible refine x_repL (by with_unfolding_all exact rfl) (by with_unfolding_all exact rfl) (by decide) (by simp) ?_); (with_reducible refine way_f (by simp) ?_)))
  exact q _ _ _ _ _
theorem right_wp {p : List D} {c : Nat} {Q : Val → DEnv → Prop} {X : Ex → DEnv → Prop} (hp : Pot c p) (hc : c < 800000000) (q : ∀ p', Pot (c + 4) p' → Q (.d (.bl true)) [.ow (.lst p') .bor]) : (s__law_right [.ow (.lst p) .bor]).wp Q X := by
  have hl2 := @l2_wp
  unfold s__law_right e__law_right
  generalize l2__law_right = g2l at hl2 ⊢
  with_reducible refine f_fnW (by with_unfolding_all exact rfl) ?_
  (repeat (case orE => (with_reducible refine comp_inv (fun k acc ρ => ∃ (p' : List D), Pot (c + 2 * k) p' ∧ acc.length = k ∧ (∀ y ∈ acc, Th y) ∧ ρ = [.ow (.lst p') .bor, .un, .un, .un, .un, .un, .un, .un, .un, .un, .un]) _ 0 [] _ ?_ ?_ ?_); (fail "WU11")))
  · exact ⟨p, hp, rfl, fun y hy => absurd hy List.not_mem_nil, by with_unfolding_all exact rfl⟩
  · intro i dd acc ρ hi hI
    obtain ⟨p', hp', hl, ha, rfl⟩ := hI
    obtain ⟨hi3, rfl⟩ := rng_at hi
    have hi3 : i < 2 := hi3
    repeat fail "WU11"
    refine ⟨fun h => (by cases h), fun _ => ?_⟩
    repeat fail "WU11"
    refine any_wp (ds := its) hp' (by omega) (.inl rfl) (by simp) (by simp) fun x1 p1 hx1 hp1 => ?_
    repeat fail "WU11"
    refine odd_wp (m := 3) hp1 (by omega) (by omega) (its_ok x1 hx1).1 (by have := (its_ok x1 hx1).2.2; omega) fun t p2 b1 hp2 => ?_
    have ht := th_of hx1 b1
    repeat fail "WU11"
    refine ⟨_, rfl, p2, hp2.mono (by omega), by rw [List.length_append, hl]; rfl, fun y hy => ?_, by with_unfolding_all exact rfl⟩
    rcases List.mem_append.mp hy with h | h
    · exact ha y h
    · rw [List.mem_singleton.mp h]; exact ht
  · intro acc ρ hI
    obtain ⟨p4, hp4, hl, ha, rfl⟩ := hI
    have hl : acc.length = 2 := hl
    obtain ⟨t, u, rfl⟩ : ∃ t u, acc = [t, u] := by
      match acc, hl with
      | [t, u], _ => exact ⟨t, u, rfl⟩
    have ht := ha t (by simp)
    have hu := ha u (by simp)
    have g2 : ∀ x ∈ [t, u], Th x := ha
    have a1 : (D.tup [t, u]).oddB 4 = true := oddL_iff.mpr fun x hx => (g2 x hx).odd
    have a2 : (D.tup [t, u]).dep ≤ 58 := by have := ht.dep; have := hu.dep; simp only [D.dep, depL]; omega
    have a3 : (D.tup [t, u]).cnt ≤ 8000 := by have := ht.cnt; have := hu.cnt; simp only [D.cnt, cntL]; omega
    have b0 : ∀ x ∈ [t, t, t, t, t, t, t, t, t, t, t, t, t, u], Th x := fun x hx => by
      have h : x = t ∨ x = u := by simpa using hx
      rcases h with rfl | rfl
      · exact ht
      · exact hu
    have b1 : (D.lst [t, t, t, t, t, t, t, t, t, t, t, t, t, u]).oddB 4 = true := oddL_iff.mpr fun x hx => (b0 x hx).odd
    have b2 : (D.lst [t, t, t, t, t, t, t, t, t, t, t, t, t, u]).dep ≤ 58 := by have := ht.dep; have := hu.dep; simp only [D.dep, depL]; omega
    have b3 : (D.lst [t, t, t, t, t, t, t, t, t, t, t, t, t, u]).cnt ≤ 8000 := by have := ht.cnt; have := hu.cnt; simp only [D.cnt, cntL]; omega
    (repeat (case orE => (with_reducible refine s_as (f := g2l) (ρ' := [.ow (.lst p4) .bor, .d (.str (shownY (.tup [t, u]))), .ow (.lst (obs t u ++ [nth])) .own, .ow (.lst (obs t u)) .own, .un, .d t, .d u, .un, .un, .un, .un]) (by with_unfolding_all exact rfl) (hl2 b1 b2 b3 (fun s2 s3 s4 s8 s9 => ?_))); (fail "WU11"); (with_reducible refine b_mkX ?_); (with_reducible refine b_mkXV (by with_unfolding_all exact rfl) (by with_unfolding_all exact rfl) ?_); (with_reducible refine b_mkX0 ?_); (with_reducible refine b_mkXK ?_); (with_reducible refine b_mkXKV (by with_unfolding_all exact rfl) (by with_unfolding_all exact rfl) (by with_unfolding_all exact rfl) ?_); (with_reducible refine x_reprY (a := .tup [t, u]) (by with_unfolding_all exact rfl) a1 (by decide) a2 a3 ?_)))
    rw [decide_eq_true rfl]
    have hp5 : Pot (c + 4) p4 := hp4
    exact q p4 hp5
theorem sem_law (ns : List Int) (h : ns.length ≤ 63) : ∃ as', s_law [.d (.scr ns)] = .ret (.d (.bl true)) as' := by
  have key : (s_law [.d (.scr ns)]).wp (fun x _ => x = .d (.bl true)) fun _ _ => False := by
    have hr := @right_wp
    unfold s_law e_law l1_law c1_law
    generalize s__law_right = gr at hr ⊢
    with_reducible refine f_fnW (by with_unfolding_all exact rfl) ?_
    repeat fail "WU4"
    refine loop_inv (fun k ρ => ∃ s1 s2, ρ = [.d (.scr ns), s1, s2, .un] ∧ Fr s1 ∧ Fr s2) _ 0 _ ⟨.un, .un, rfl, Fr.un, Fr.un⟩ (fun j dd ρ hj hI => ?_) fun ρ hI => ?_
    · obtain ⟨s1, s2, rfl, f1, f2⟩ := hI
      obtain ⟨hj2, rfl⟩ := rng_at hj
      repeat fail "WU4"
      refine pot_wp (by omega) (by omega) fun p hp => ?_
      (repeat (case orE => (with_reducible refine comp_inv (fun k acc ρ => ∃ (p' : List D), acc = List.replicate k (D.bl true) ∧ Pot (4 * k) p' ∧ ρ = [.d (.scr ns), .d (.int (0 + (j : Nat))), .ow (.lst p') .own, .un]) _ 0 [] _ ?_ ?_ ?_); (fail "WU4")))
      · exact ⟨p, rfl, hp, by with_unfolding_all exact rfl⟩
      · intro i dd acc ρ hi hI
        obtain ⟨p', rfl, hp', rfl⟩ := hI
        obtain ⟨hi3, rfl⟩ := rng_at hi
        have hi3 : i < 6 := hi3
        repeat fail "WU4"
        refine ⟨fun h => (by cases h), fun _ => ?_⟩
        repeat fail "WU4"
        refine hr hp' (by omega) fun p2 hp2 => ?_
        repeat fail "WU4"
        refine ⟨_, rfl, p2, ?_, hp2.mono (by omega), by with_unfolding_all exact rfl⟩
        rw [List.replicate_succ']
      · intro acc ρ hI
        obtain ⟨p', rfl, hp', rfl⟩ := hI
        repeat fail "WU4"
        exact ⟨_, _, rfl, Fr.dat, Fr.own⟩
    · obtain ⟨s1, s2, rfl, f1, f2⟩ := hI
      repeat fail "WU4"
      rfl
  obtain ⟨x, as, e, hx⟩ := RF.wp_ret key
  subst hx
  exact ⟨as, e⟩
end K49
namespace K49
open PySem PySem.Spec PyProof.Rows L2 DL
def topS (i : Nat) : Stmt := PySem.Challenge.pw_clockslack_k49_errors_alone.main.body.getD i (.Pass ⟨0, 0, 0, 0⟩)
def clsB : Stmt → List Stmt
  | .ClassDef (body := b) .. => b
  | _ => []
abbrev st__law_pot : Stmt := topS 17
abbrev st__law_draw : Stmt := topS 18
abbrev st__law_any : Stmt := topS 19
abbrev st__law_odd : Stmt := topS 20
abbrev st__law_marks : Stmt := topS 21
abbrev st__law_held : Stmt := topS 22
abbrev st__law_right : Stmt := topS 23
abbrev st_law : Stmt := topS 24
abbrev st_i_NoIndex : Stmt := (clsB (topS 2)).getD 0 (.Pass ⟨0, 0, 0, 0⟩)
abbrev st_i_NoValue : Stmt := (clsB (topS 3)).getD 0 (.Pass ⟨0, 0, 0, 0⟩)
abbrev st_i_Unexplained : Stmt := (clsB (topS 4)).getD 0 (.Pass ⟨0, 0, 0, 0⟩)
abbrev st_i_BadOrder : Stmt := (clsB (topS 5)).getD 0 (.Pass ⟨0, 0, 0, 0⟩)
abbrev st_i_NoPosition : Stmt := (clsB (topS 6)).getD 0 (.Pass ⟨0, 0, 0, 0⟩)
abbrev st_i_BadStamps : Stmt := (clsB (topS 7)).getD 0 (.Pass ⟨0, 0, 0, 0⟩)
abbrev st_i_BadLog : Stmt := (clsB (topS 8)).getD 0 (.Pass ⟨0, 0, 0, 0⟩)
abbrev st_i_BadTolerance : Stmt := (clsB (topS 9)).getD 0 (.Pass ⟨0, 0, 0, 0⟩)
abbrev st_i_BadOperation : Stmt := (clsB (topS 10)).getD 0 (.Pass ⟨0, 0, 0, 0⟩)
abbrev st_i_Written : Stmt := (clsB (topS 11)).getD 0 (.Pass ⟨0, 0, 0, 0⟩)
abbrev st_i_TooMany : Stmt := (clsB (topS 12)).getD 0 (.Pass ⟨0, 0, 0, 0⟩)
abbrev st_i_NothingToUndo : Stmt := (clsB (topS 13)).getD 0 (.Pass ⟨0, 0, 0, 0⟩)
abbrev st_i_BadText : Stmt := (clsB (topS 14)).getD 0 (.Pass ⟨0, 0, 0, 0⟩)
abbrev st_i_BadLine : Stmt := (clsB (topS 15)).getD 0 (.Pass ⟨0, 0, 0, 0⟩)
section
variable [i0 : TabT]
variable {P : Program} {w : World} {K : PySem.W.Frag} {mg : Str → Option Value} {base : Heap}
theorem i_NoIndex {C fI C0 : Addr} {fd : FuncData} (Fu : Fun K "__init__" ("NoIndex.__init__" : Str) st_i_NoIndex fI fd) (T : OexC K C) (hno0 : PySem.W.findIn K (.ref C) ("index" : Str) = some none) (m0 : mg ("CellError" : Str) = some (.ref C0)) (T0 : CeC K C0) : FnOk P w K mg base (L2.CX P w) 1 fI fd ["self", ("index" : Str)] (spI1 C ("index" : Str)) := by
  refine Fun.okX (k := 0) (N := ["self", ("index" : Str)]) Fu ⟨rfl, rfl, rfl, by decide +kernel, rfl, by decide +kernel, by decide +kernel⟩ (fun vs H Q E h => by obtain ⟨_, _, rfl, _⟩ := h; rfl) fun cdv A outer s H vs Q E hr h => ?_
  obtain ⟨a, y0, rfl, ea, q⟩ := h
  refine ⟨_, pss_cons (ps_expr (pe_ceinit (C0 := C0) (by rfl) m0 T0 (pa_cons (pv 0) (pa_cons pe_str pa_nil)))) (pss_one (ps_ost (pv 0) (pv 1))), ?_⟩
  exact i1_fin T hno0 ea q
theorem i_NoValue {C fI C0 : Addr} {fd : FuncData} (Fu : Fun K "__init__" ("NoValue.__init__" : Str) st_i_NoValue fI fd) (T : OexC K C) (hno0 : PySem.W.findIn K (.ref C) ("value" : Str) = some none) (m0 : mg ("CellError" : Str) = some (.ref C0)) (T0 : CeC K C0) : FnOk P w K mg base (L2.CX P w) 1 fI fd ["self", ("value" : Str)] (spI1 C ("value" : Str)) := by
  refine Fun.okX (k := 0) (N := ["self", ("value" : Str)]) Fu ⟨rfl, rfl, rfl, by decide +kernel, rfl, by decide +kernel, by decide +kernel⟩ (fun vs H Q E h => by obtain ⟨_, _, rfl, _⟩ := h; rfl) fun cdv A outer s H vs Q E hr h => ?_
  obtain ⟨a, y0, rfl, ea, q⟩ := h
  refine ⟨_, pss_cons (ps_expr (pe_ceinit (C0 := C0) (by rfl) m0 T0 (pa_cons (pv 0) (pa_cons pe_str pa_nil)))) (pss_one (ps_ost (pv 0) (pv 1))), ?_⟩
  exact i1_fin T hno0 ea q
theorem i_Unexplained {C fI C0 : Addr} {fd : FuncData} (Fu : Fun K "__init__" ("Unexplained.__init__" : Str) st_i_Unexplained fI fd) (T : OexC K C) (hno0 : PySem.W.findIn K (.ref C) ("fault" : Str) = some none) (m0 : mg ("CellError" : Str) = some (.ref C0)) (T0 : CeC K C0) : FnOk P w K mg base (L2.CX P w) 1 fI fd ["self", ("fault" : Str)] (spI1 C ("fault" : Str)) := by
  refine Fun.okX (k := 0) (N := ["self", ("fault" : Str)]) Fu ⟨rfl, rfl, rfl, by decide +kernel, rfl, by decide +kernel, by decide +kernel⟩ (fun vs H Q E h => by obtain ⟨_, _, rfl, _⟩ := h; rfl) fun cdv A outer s H vs Q E hr h => ?_
  obtain ⟨a, y0, rfl, ea, q⟩ := h
  refine ⟨_, pss_cons (ps_expr (pe_ceinit (C0 := C0) (by rfl) m0 T0 (pa_cons (pv 0) (pa_cons pe_str pa_nil)))) (pss_one (ps_ost (pv 0) (pv 1))), ?_⟩
  exact i1_fin T hno0 ea q
theorem i_BadOrder {C fI C0 : Addr} {fd : FuncData} (Fu : Fun K "__init__" ("BadOrder.__init__" : Str) st_i_BadOrder fI fd) (T : OexC K C) (hno0 : PySem.W.findIn K (.ref C) ("value" : Str) = some none) (m0 : mg ("CellError" : Str) = some (.ref C0)) (T0 : CeC K C0) : FnOk P w K mg base (L2.CX P w) 1 fI fd ["self", ("value" : Str)] (spI1 C ("value" : Str)) := by
  refine Fun.okX (k := 0) (N := ["self", ("value" : Str)]) Fu ⟨rfl, rfl, rfl, by decide +kernel, rfl, by decide +kernel, by decide +kernel⟩ (fun vs H Q E h => by obtain ⟨_, _, rfl, _⟩ := h; rfl) fun cdv A outer s H vs Q E hr h => ?_
  obtain ⟨a, y0, rfl, ea, q⟩ := h
  refine ⟨_, pss_cons (ps_expr (pe_ceinit (C0 := C0) (by rfl) m0 T0 (pa_cons (pv 0) (pa_cons pe_str pa_nil)))) (pss_one (ps_ost (pv 0) (pv 1))), ?_⟩
  exact i1_fin T hno0 ea q
theorem i_NoPosition {C fI C0 : Addr} {fd : FuncData} (Fu : Fun K "__init__" ("NoPosition.__init__" : Str) st_i_NoPosition fI fd) (T : OexC K C) (hno0 : PySem.W.findIn K (.ref C) ("position" : Str) = some none) (m0 : mg ("CellError" : Str) = some (.ref C0)) (T0 : CeC K C0) : FnOk P w K mg base (L2.CX P w) 1 fI fd ["self", ("position" : Str)] (spI1 C ("position" : Str)) := by
  refine Fun.okX (k := 0) (N := ["self", ("position" : Str)]) Fu ⟨rfl, rfl, rfl, by decide +kernel, rfl, by decide +kernel, by decide +kernel⟩ (fun vs H Q E h => by obtain ⟨_, _, rfl, _⟩ := h; rfl) fun cdv A outer s H vs Q E hr h => ?_
  obtain ⟨a, y0, rfl, ea, q⟩ := h
  refine ⟨_, pss_cons (ps_expr (pe_ceinit (C0 := C0) (by rfl) m0 T0 (pa_cons (pv 0) (pa_cons pe_str pa_nil)))) (pss_one (ps_ost (pv 0) (pv 1))), ?_⟩
  exact i1_fin T hno0 ea q
theorem i_BadStamps {C fI C0 : Addr} {fd : FuncData} (Fu : Fun K "__init__" ("BadStamps.__init__" : Str) st_i_BadStamps fI fd) (T : OexC K C) (hno0 : PySem.W.findIn K (.ref C) ("begin" : Str) = some none) (hno1 : PySem.W.findIn K (.ref C) ("end" : Str) = some none) (m0 : mg ("CellError" : Str) = some (.ref C0)) (T0 : CeC K C0) : FnOk P w K mg base (L2.CX P w) 1 fI fd ["self", ("begin" : Str), ("end" : Str)] (spI2 C ("begin" : Str) ("end" : Str)) := by
  refine Fun.okX (k := 0) (N := ["self", ("begin" : Str), ("end" : Str)]) Fu ⟨rfl, rfl, rfl, by decide +kernel, rfl, by decide +kernel, by decide +kernel⟩ (fun vs H Q E h => by obtain ⟨_, _, _, rfl, _⟩ := h; rfl) fun cdv A outer s H vs Q E hr h => ?_
  obtain ⟨a, y0, y1, rfl, ea, q⟩ := h
  refine ⟨_, pss_cons (ps_expr (pe_ceinit (C0 := C0) (by rfl) m0 T0 (pa_cons (pv 0) (pa_cons pe_str pa_nil)))) (pss_cons (ps_ost (pv 0) (pv 1)) (pss_one (ps_ost (pv 0) (pv 2)))), ?_⟩
  exact i2_fin T hno0 hno1 ea q
theorem i_BadLog {C fI C0 : Addr} {fd : FuncData} (Fu : Fun K "__init__" ("BadLog.__init__" : Str) st_i_BadLog fI fd) (T : OexC K C) (hno0 : PySem.W.findIn K (.ref C) ("value" : Str) = some none) (m0 : mg ("CellError" : Str) = some (.ref C0)) (T0 : CeC K C0) : FnOk P w K mg base (L2.CX P w) 1 fI fd ["self", ("value" : Str)] (spI1 C ("value" : Str)) := by
  refine Fun.okX (k := 0) (N := ["self", ("value" : Str)]) Fu ⟨rfl, rfl, rfl, by decide +kernel, rfl, by decide +kernel, by decide +kernel⟩ (fun vs H Q E h => by obtain ⟨_, _, rfl, _⟩ := h; rfl) fun cdv A outer s H vs Q E hr h => ?_
  obtain ⟨a, y0, rfl, ea, q⟩ := h
  refine ⟨_, pss_cons (ps_expr (pe_ceinit (C0 := C0) (by rfl) m0 T0 (pa_cons (pv 0) (pa_cons pe_str pa_nil)))) (pss_one (ps_ost (pv 0) (pv 1))), ?_⟩
  exact i1_fin T hno0 ea q
theorem i_BadTolerance {C fI C0 : Addr} {fd : FuncData} (Fu : Fun K "__init__" ("BadTolerance.__init__" : Str) st_i_BadTolerance fI fd) (T : OexC K C) (hno0 : PySem.W.findIn K (.ref C) ("value" : Str) = some none) (m0 : mg ("CellError" : Str) = some (.ref C0)) (T0 : CeC K C0) : FnOk P w K mg base (L2.CX P w) 1 fI fd ["self", ("value" : Str)] (spI1 C ("value" : Str)) := by
  refine Fun.okX (k := 0) (N := ["self", ("value" : Str)]) Fu ⟨rfl, rfl, rfl, by decide +kernel, rfl, by decide +kernel, by decide +kernel⟩ (fun vs H Q E h => by obtain ⟨_, _, rfl, _⟩ := h; rfl) fun cdv A outer s H vs Q E hr h => ?_
  obtain ⟨a, y0, rfl, ea, q⟩ := h
  refine ⟨_, pss_cons (ps_expr (pe_ceinit (C0 := C0) (by rfl) m0 T0 (pa_cons (pv 0) (pa_cons pe_str pa_nil)))) (pss_one (ps_ost (pv 0) (pv 1))), ?_⟩
  exact i1_fin T hno0 ea q
theorem i_BadOperation {C fI C0 : Addr} {fd : FuncData} (Fu : Fun K "__init__" ("BadOperation.__init__" : Str) st_i_BadOperation fI fd) (T : OexC K C) (hno0 : PySem.W.findIn K (.ref C) ("operation" : Str) = some none) (m0 : mg ("CellError" : Str) = some (.ref C0)) (T0 : CeC K C0) : FnOk P w K mg base (L2.CX P w) 1 fI fd ["self", ("operation" : Str)] (spI1 C ("operation" : Str)) := by
  refine Fun.okX (k := 0) (N := ["self", ("operation" : Str)]) Fu ⟨rfl, rfl, rfl, by decide +kernel, rfl, by decide +kernel, by decide +kernel⟩ (fun vs H Q E h => by obtain ⟨_, _, rfl, _⟩ := h; rfl) fun cdv A outer s H vs Q E hr h => ?_
  obtain ⟨a, y0, rfl, ea, q⟩ := h
  refine ⟨_, pss_cons (ps_expr (pe_ceinit (C0 := C0) (by rfl) m0 T0 (pa_cons (pv 0) (pa_cons pe_str pa_nil)))) (pss_one (ps_ost (pv 0) (pv 1))), ?_⟩
  exact i1_fin T hno0 ea q
theorem i_Written {C fI C0 : Addr} {fd : FuncData} (Fu : Fun K "__init__" ("Written.__init__" : Str) st_i_Written fI fd) (T : OexC K C) (hno0 : PySem.W.findIn K (.ref C) ("value" : Str) = some none) (m0 : mg ("CellError" : Str) = some (.ref C0)) (T0 : CeC K C0) : FnOk P w K mg base (L2.CX P w) 1 fI fd ["self", ("value" : Str)] (spI1 C ("value" : Str)) := by
  refine Fun.okX (k := 0) (N := ["self", ("value" : Str)]) Fu ⟨rfl, rfl, rfl, by decide +kernel, rfl, by decide +kernel, by decide +kernel⟩ (fun vs H Q E h => by obtain ⟨_, _, rfl, _⟩ := h; rfl) fun cdv A outer s H vs Q E hr h => ?_
  obtain ⟨a, y0, rfl, ea, q⟩ := h
  refine ⟨_, pss_cons (ps_expr (pe_ceinit (C0 := C0) (by rfl) m0 T0 (pa_cons (pv 0) (pa_cons pe_str pa_nil)))) (pss_one (ps_ost (pv 0) (pv 1))), ?_⟩
  exact i1_fin T hno0 ea q
theorem i_TooMany {C fI C0 : Addr} {fd : FuncData} (Fu : Fun K "__init__" ("TooMany.__init__" : Str) st_i_TooMany fI fd) (T : OexC K C) (hno0 : PySem.W.findIn K (.ref C) ("limit" : Str) = some none) (m0 : mg ("CellError" : Str) = some (.ref C0)) (T0 : CeC K C0) : FnOk P w K mg base (L2.CX P w) 1 fI fd ["self", ("limit" : Str)] (spI1 C ("limit" : Str)) := by
  refine Fun.okX (k := 0) (N := ["self", ("limit" : Str)]) Fu ⟨rfl, rfl, rfl, by decide +kernel, rfl, by decide +kernel, by decide +kernel⟩ (fun vs H Q E h => by obtain ⟨_, _, rfl, _⟩ := h; rfl) fun cdv A outer s H vs Q E hr h => ?_
  obtain ⟨a, y0, rfl, ea, q⟩ := h
  refine ⟨_, pss_cons (ps_expr (pe_ceinit (C0 := C0) (by rfl) m0 T0 (pa_cons (pv 0) (pa_cons pe_str pa_nil)))) (pss_one (ps_ost (pv 0) (pv 1))), ?_⟩
  exact i1_fin T hno0 ea q
theorem i_NothingToUndo {C fI C0 : Addr} {fd : FuncData} (Fu : Fun K "__init__" ("NothingToUndo.__init__" : Str) st_i_NothingToUndo fI fd) (T : OexC K C) (m0 : mg ("CellError" : Str) = some (.ref C0)) (T0 : CeC K C0) : FnOk P w K mg base (L2.CX P w) 1 fI fd ["self"] (spI0 C) := by
  refine Fun.okX (k := 0) (N := ["self"]) Fu ⟨rfl, rfl, rfl, by decide +kernel, rfl, by decide +kernel, by decide +kernel⟩ (fun vs H Q E h => by obtain ⟨_, rfl, _⟩ := h; rfl) fun cdv A outer s H vs Q E hr h => ?_
  obtain ⟨a, rfl, ea, q⟩ := h
  refine ⟨_, pss_one (ps_expr (pe_ceinit (C0 := C0) (by rfl) m0 T0 (pa_cons (pv 0) (pa_cons pe_str pa_nil)))), ?_⟩
  exact i0_fin T ea q
theorem i_BadText {C fI C0 : Addr} {fd : FuncData} (Fu : Fun K "__init__" ("BadText.__init__" : Str) st_i_BadText fI fd) (T : OexC K C) (hno0 : PySem.W.findIn K (.ref C) ("value" : Str) = some none) (m0 : mg ("CellError" : Str) = some (.ref C0)) (T0 : CeC K C0) : FnOk P w K mg base (L2.CX P w) 1 fI fd ["self", ("value" : Str)] (spI1 C ("value" : Str)) := by
  refine Fun.okX (k := 0) (N := ["self", ("value" : Str)]) Fu ⟨rfl, rfl, rfl, by decide +kernel, rfl, by decide +kernel, by decide +kernel⟩ (fun vs H Q E h => by obtain ⟨_, _, rfl, _⟩ := h; rfl) fun cdv A outer s H vs Q E hr h => ?_
  obtain ⟨a, y0, rfl, ea, q⟩ := h
  refine ⟨_, pss_cons (ps_expr (pe_ceinit (C0 := C0) (by rfl) m0 T0 (pa_cons (pv 0) (pa_cons pe_str pa_nil)))) (pss_one (ps_ost (pv 0) (pv 1))), ?_⟩
  exact i1_fin T hno0 ea q
theorem i_BadLine {C fI C0 : Addr} {fd : FuncData} (Fu : Fun K "__init__" ("BadLine.__init__" : Str) st_i_BadLine fI fd) (T : OexC K C) (hno0 : PySem.W.findIn K (.ref C) ("line" : Str) = some none) (m0 : mg ("CellError" : Str) = some (.ref C0)) (T0 : CeC K C0) : FnOk P w K mg base (L2.CX P w) 1 fI fd ["self", ("line" : Str)] (spI1 C ("line" : Str)) := by
  refine Fun.okX (k := 0) (N := ["self", ("line" : Str)]) Fu ⟨rfl, rfl, rfl, by decide +kernel, rfl, by decide +kernel, by decide +kernel⟩ (fun vs H Q E h => by obtain ⟨_, _, rfl, _⟩ := h; rfl) fun cdv A outer s H vs Q E hr h => ?_
  obtain ⟨a, y0, rfl, ea, q⟩ := h
  refine ⟨_, pss_cons (ps_expr (pe_ceinit (C0 := C0) (by rfl) m0 T0 (pa_cons (pv 0) (pa_cons pe_str pa_nil)))) (pss_one (ps_ost (pv 0) (pv 1))), ?_⟩
  exact i1_fin T hno0 ea q
theorem sc__law_pot : FnScope [("_law_script" : Str), ("_law_k" : Str), ("_law_cell" : Str), ("_law_own" : Str)] ps__law_pot (defScope st__law_pot) := ⟨rfl, rfl, rfl, by decide +kernel, rfl, by decide +kernel, by decide +kernel⟩
theorem g__law_pot {f : Addr} {fd : FuncData} (Fu : Fun K ("_law_pot" : Str) ("_law_pot" : Str) st__law_pot f fd) (c_len : mg ("len" : Str) = none) (c_int : mg ("int" : Str) = none) (c_abs : mg ("abs" : Str) = none) : GFn P w K mg base 1 f fd ps__law_pot CM.s_l_pot := by
  refine gfn_of (g := CM.e_l_pot) Fu sc__law_pot 2 rfl fun cdv A outer s H E hr hG => ?_
  have hu1 := hu1_of hr
  have sc := sc__law_pot
  exact (ds_cons (ds_asg 2 sc.nd (de_add (de_mul de_int (de_var 1)) de_int))
    (ds_cons (ds_if (dt_lt (de_var 1) (de_callB CR_len cs_len (by rfl) c_len PySem.boot_len (da_cons (de_var 0) da_nil)))
    (ds_one (ds_asg 2 sc.nd (de_idx hu1 (de_var 0) (de_var 1))))
    ds_nil)
    (ds_cons (ds_asg 3 sc.nd (de_mul (de_mod (de_callB call_abs cs_abs (by rfl) c_abs PyProof.Rows.boot_abs (da_cons (de_var 2) da_nil)) (de_pow (de_pow de_int de_int) de_int)) (de_callTy call_int1 cs_int (by rfl) c_int PyProof.Rows.boot_int (da_cons (de_ge (de_callB call_abs cs_abs (by rfl) c_abs PyProof.Rows.boot_abs (da_cons (de_var 2) da_nil)) (de_pow de_int de_int)) da_nil))))
    (ds_one (ds_ret (de_lst (da_cons (de_fz (de_var 3)) (da_cons (de_fz (de_mod (de_add (de_add (de_mul (de_mod (de_var 2) de_int) de_int) (de_mul (de_mul de_int (de_var 1)) (de_var 1))) de_int) de_int)) (da_cons de_int da_nil)))))))))
theorem sc__law_draw : FnScope [("_law_pot_here" : Str), ("_law_many" : Str), ("_law_prime" : Str), ("_law_mixed" : Str), ("_law_digit" : Str)] ps__law_draw (defScope st__law_draw) := ⟨rfl, rfl, rfl, by decide +kernel, rfl, by decide +kernel, by decide +kernel⟩
theorem g__law_draw {f : Addr} {fd : FuncData} (Fu : Fun K ("_law_draw" : Str) ("_law_draw" : Str) st__law_draw f fd)  : GFn P w K mg base 1 f fd ps__law_draw CM.s_l_draw := by
  refine gfn_of (g := CM.e_l_draw) Fu sc__law_draw 3 rfl fun cdv A outer s H E hr hG => ?_
  have hu1 := hu1_of hr
  have sc := sc__law_draw
  exact (ds_cons (ds_if (dt_gt (de_idx hu1 (de_var 0) de_int) de_int)
    (ds_cons (ds_asg 4 sc.nd (de_mod (de_idx hu1 (de_var 0) de_int) (de_var 1)))
    (ds_cons (ds_store 0 hu1 (de_div (de_idx hu1 (de_var 0) de_int) (de_var 1)) de_int)
    (ds_one (ds_ret (de_var 4)))))
    ds_nil)
    (ds_cons (ds_store 0 hu1 (de_add (de_idx hu1 (de_var 0) de_int) de_int) de_int)
    (ds_cons (ds_asg 2 sc.nd (de_idx hu1 (de_lst (da_cons de_int (da_cons de_int (da_cons de_int (da_cons de_int (da_cons de_int da_nil)))))) (de_mod (de_idx hu1 (de_var 0) de_int) de_int)))
    (ds_cons (ds_asg 3 sc.nd (de_mod (de_pow (de_add (de_add (de_idx hu1 (de_var 0) de_int) (de_mul (de_mul de_int (de_idx hu1 (de_var 0) de_int)) (de_idx hu1 (de_var 0) de_int))) de_int) de_int) (de_var 2)))
    (ds_one (ds_ret (de_mod (de_div (de_mod (de_mul (de_var 3) (de_add (de_mod (de_var 3) de_int) (de_mul de_int (de_idx hu1 (de_var 0) de_int)))) de_int) de_int) (de_var 1))))))))
theorem sc__law_any : FnScope [("_law_pot_here" : Str), ("_law_items" : Str)] ps__law_any (defScope st__law_any) := ⟨rfl, rfl, rfl, by decide +kernel, rfl, by decide +kernel, by decide +kernel⟩
theorem g__law_any {f : Addr} {fd : FuncData} (Fu : Fun K ("_law_any" : Str) ("_law_any" : Str) st__law_any f fd) {f__law_draw : Addr} {fd__law_draw : FuncData} (G__law_draw : GFn P w K mg base 1 f__law_draw fd__law_draw ps__law_draw CM.s_l_draw) (m__law_draw : mg ("_law_draw" : Str) = some (.ref f__law_draw)) (k__law_draw : PySem.W.keepIn K (.ref f__law_draw) = true) (b__law_draw : Binds K fd__law_draw ps__law_draw []) (c_len : mg ("len" : Str) = none) : GFn P w K mg base 2 f fd ps__law_any CM.s_l_any := by
  refine gfn_of (g := CM.e_l_any) Fu sc__law_any 0 rfl fun cdv A outer s H E hr hG => ?_
  have hu1 := hu1_of hr
  have sc := sc__law_any
  exact (ds_one (ds_ret (de_idx hu1 (de_var 1) (de_call G__law_draw hr hG (takes_of rfl rfl rfl rfl) (by rfl) m__law_draw k__law_draw b__law_draw (da_cons (de_var 0) (da_cons (de_callB CR_len cs_len (by rfl) c_len PySem.boot_len (da_cons (de_var 1) da_nil)) da_nil)) (aCons_len (aCons_len fun _ _ _ => aNil_len))))))
theorem sc__law_odd : FnScope [("_law_pot_here" : Str), ("_law_thing" : Str), ("_law_some" : Str)] ps__law_odd (defScope st__law_odd) := ⟨rfl, rfl, rfl, by decide +kernel, rfl, by decide +kernel, by decide +kernel⟩
theorem g__law_odd {f : Addr} {fd : FuncData} (Fu : Fun K ("_law_odd" : Str) ("_law_odd" : Str) st__law_odd f fd) {f__law_any : Addr} {fd__law_any : FuncData} (G__law_any : GFn P w K mg base 2 f__law_any fd__law_any ps__law_any CM.s_l_any) (m__law_any : mg ("_law_any" : Str) = some (.ref f__law_any)) (k__law_any : PySem.W.keepIn K (.ref f__law_any) = true) (b__law_any : Binds K fd__law_any ps__law_any []) (c_isinstance : mg ("isinstance" : Str) = none) (c_tuple : mg ("tuple" : Str) = none) (c_str : mg ("str" : Str) = none) (c_int : mg ("int" : Str) = none) (c_list : mg ("list" : Str) = none) : GFn P w K mg base 3 f fd ps__law_odd CM.s_l_odd := by
  refine gfn_of (g := CM.e_l_odd) Fu sc__law_odd 1 rfl fun cdv A outer s H E hr hG => ?_
  have hu1 := hu1_of hr
  have sc := sc__law_odd
  exact (ds_cons (ds_asg 2 sc.nd (de_lst (da_cons de_non (da_cons de_bl (da_cons de_bl (da_cons de_int (da_cons de_int (da_cons (de_fz (de_neg de_int)) (da_cons de_int (da_cons (de_fz (de_add (de_pow de_int de_int) de_int)) (da_cons (de_fz (de_pow de_int de_int)) (da_cons de_str (da_cons de_str (da_cons de_str (da_cons (de_fz (de_tup da_nil)) (da_cons (de_fz (de_lst da_nil)) (da_cons (de_fz de_newD) (da_cons (de_fz (de_tup (da_cons de_int da_nil))) (da_cons (de_fz (de_tup (da_cons de_str da_nil))) (da_cons (de_fz (de_lst (da_cons de_int da_nil))) da_nil))))))))))))))))))))
    (ds_cons (ds_if (dt_val (de_callB CR_isi cs_isi (by rfl) c_isinstance PyProof.Rows.boot_isinstance (da_cons (de_var 1) (da_cons (de_bty (by rfl) c_tuple PyProof.Rows.boot_tuple) da_nil))))
    (ds_one (ds_asg 2 sc.nd (de_add (de_var 2) (de_mul (de_lst (da_cons (de_fz (de_callTy call_list_of cs_list (by rfl) c_list PyProof.Rows.boot_list (da_cons (de_var 1) da_nil))) (da_cons (de_fz (de_slice (de_var 1) do_none (do_some (de_neg de_int)))) (da_cons (de_fz (de_add (de_var 1) (de_slice (de_var 1) (do_some (de_neg de_int)) do_none))) (da_cons (de_fz (de_rev (de_var 1))) (da_cons (de_fz (de_tup (da_cons (de_fz (de_var 1)) da_nil))) (da_cons (de_fz (de_slice (de_var 1) (do_some de_int) do_none)) da_nil))))))) de_int))))
    (ds_one (ds_if (dt_val (de_callB CR_isi cs_isi (by rfl) c_isinstance PyProof.Rows.boot_isinstance (da_cons (de_var 1) (da_cons (de_bty (by rfl) c_str PyProof.Rows.boot_str) da_nil))))
    (ds_one (ds_asg 2 sc.nd (de_add (de_var 2) (de_mul (de_lst (da_cons (de_fz (de_add (de_var 1) de_str)) (da_cons (de_fz (de_slice (de_var 1) do_none (do_some (de_neg de_int)))) (da_cons (de_fz (de_upper (de_var 1))) (da_cons (de_fz (de_tup (da_cons (de_fz (de_var 1)) da_nil))) (da_cons (de_fz (de_lst (da_cons (de_fz (de_var 1)) da_nil))) da_nil)))))) de_int))))
    (ds_one (ds_if (dt_val (de_callB CR_isi cs_isi (by rfl) c_isinstance PyProof.Rows.boot_isinstance (da_cons (de_var 1) (da_cons (de_bty (by rfl) c_int PyProof.Rows.boot_int) da_nil))))
    (ds_one (ds_asg 2 sc.nd (de_add (de_var 2) (de_mul (de_lst (da_cons (de_fz (de_addB (de_var 1) de_int)) (da_cons (de_fz (de_subB (de_var 1) de_int)) (da_cons (de_fz (de_callTy call_strX cs_strX (by rfl) c_str PyProof.Rows.boot_str (da_cons (de_var 1) da_nil))) (da_cons (de_fz (de_eq hr.units (de_var 1) de_int)) (da_cons (de_fz (de_negB (de_var 1))) da_nil)))))) de_int))))
    ds_nil)))))
    (ds_one (ds_ret (de_call G__law_any hr hG (takes_of rfl rfl rfl rfl) (by rfl) m__law_any k__law_any b__law_any (da_cons (de_var 0) (da_cons (de_var 2) da_nil)) (aCons_len (aCons_len fun _ _ _ => aNil_len)))))))
theorem sc__law_marks : FnScope [("_law_caught" : Str), ("_law_found" : Str)] ps__law_marks (defScope st__law_marks) := ⟨rfl, rfl, rfl, by decide +kernel, rfl, by decide +kernel, by decide +kernel⟩
theorem g__law_marks {f : Addr} {fd : FuncData} (Fu : Fun K ("_law_marks" : Str) ("_law_marks" : Str) st__law_marks f fd) (c_isinstance : mg ("isinstance" : Str) = none) (hMG : MgT.mg = mg) {C_BadLine : Addr} (M_BadLine : mg ("BadLine" : Str) = some (.ref C_BadLine)) {C_BadLog : Addr} (M_BadLog : mg ("BadLog" : Str) = some (.ref C_BadLog)) {C_BadOperation : Addr} (M_BadOperation : mg ("BadOperation" : Str) = some (.ref C_BadOperation)) {C_BadOrder : Addr} (M_BadOrder : mg ("BadOrder" : Str) = some (.ref C_BadOrder)) {C_BadStamps : Addr} (M_BadStamps : mg ("BadStamps" : Str) = some (.ref C_BadStamps)) {C_BadText : Addr} (M_BadText : mg ("BadText" : Str) = some (.ref C_BadText)) {C_BadTolerance : Addr} (M_BadTolerance : mg ("BadTolerance" : Str) = some (.ref C_BadTolerance)) {C_NoIndex : Addr} (M_NoIndex : mg ("NoIndex" : Str) = some (.ref C_NoIndex)) {C_NoPosition : Addr} (M_NoPosition : mg ("NoPosition" : Str) = some (.ref C_NoPosition)) {C_NoValue : Addr} (M_NoValue : mg ("NoValue" : Str) = some (.ref C_NoValue)) {C_NothingToUndo : Addr} (M_NothingToUndo : mg ("NothingToUndo" : Str) = some (.ref C_NothingToUndo)) {C_TooMany : Addr} (M_TooMany : mg ("TooMany" : Str) = some (.ref C_TooMany)) {C_Unexplained : Addr} (M_Unexplained : mg ("Unexplained" : Str) = some (.ref C_Unexplained)) {C_Written : Addr} (M_Written : mg ("Written" : Str) = some (.ref C_Written)) (IS_BadLine : IsF K mg [("NoIndex" : Str), ("NoValue" : Str), ("Unexplained" : Str), ("BadOrder" : Str), ("NoPosition" : Str), ("BadStamps" : Str), ("BadLog" : Str), ("BadTolerance" : Str), ("BadOperation" : Str), ("Written" : Str), ("TooMany" : Str), ("NothingToUndo" : Str), ("BadText" : Str), ("BadLine" : Str)] ("BadLine" : Str) (.ref C_BadLine)) (IS_BadLog : IsF K mg [("NoIndex" : Str), ("NoValue" : Str), ("Unexplained" : Str), ("BadOrder" : Str), ("NoPosition" : Str), ("BadStamps" : Str), ("BadLog" : Str), ("BadTolerance" : Str), ("BadOperation" : Str), ("Written" : Str), ("TooMany" : Str), ("NothingToUndo" : Str), ("BadText" : Str), ("BadLine" : Str)] ("BadLog" : Str) (.ref C_BadLog)) (IS_BadOperation : IsF K mg [("NoIndex" : Str), ("NoValue" : Str), ("Unexplained" : Str), ("BadOrder" : Str), ("NoPosition" : Str), ("BadStamps" : Str), ("BadLog" : Str), ("BadTolerance" : Str), ("BadOperation" : Str), ("Written" : Str), ("TooMany" : Str), ("NothingToUndo" : Str), ("BadText" : Str), ("BadLine" : Str)] ("BadOperation" : Str) (.ref C_BadOperation)) (IS_BadOrder : IsF K mg [("NoIndex" : Str), ("NoValue" : Str), ("Unexplained" : Str), ("BadOrder" : Str), ("NoPosition" : Str), ("BadStamps" : Str), ("BadLog" : Str), ("BadTolerance" : Str), ("BadOperation" : Str), ("Written" : Str), ("TooMany" : Str), ("NothingToUndo" : Str), ("BadText" : Str), ("BadLine" : Str)] ("BadOrder" : Str) (.ref C_BadOrder)) (IS_BadStamps : IsF K mg [("NoIndex" : Str), ("NoValue" : Str), ("Unexplained" : Str), ("BadOrder" : Str), ("NoPosition" : Str), ("BadStamps" : Str), ("BadLog" : Str), ("BadTolerance" : Str), ("BadOperation" : Str), ("Written" : Str), ("TooMany" : Str), ("NothingToUndo" : Str), ("BadText" : Str), ("BadLine" : Str)] ("BadStamps" : Str) (.ref C_BadStamps)) (IS_BadText : IsF K mg [("NoIndex" : Str), ("NoValue" : Str), ("Unexplained" : Str), ("BadOrder" : Str), ("NoPosition" : Str), ("BadStamps" : Str), ("BadLog" : Str), ("BadTolerance" : Str), ("BadOperation" : Str), ("Written" : Str), ("TooMany" : Str), ("NothingToUndo" : Str), ("BadText" : Str), ("BadLine" : Str)] ("BadText" : Str) (.ref C_BadText)) (IS_BadTolerance : IsF K mg [("NoIndex" : Str), ("NoValue" : Str), ("Unexplained" : Str), ("BadOrder" : Str), ("NoPosition" : Str), ("BadStamps" : Str), ("BadLog" : Str), ("BadTolerance" : Str), ("BadOperation" : Str), ("Written" : Str), ("TooMany" : Str), ("NothingToUndo" : Str), ("BadText" : Str), ("BadLine" : Str)] ("BadTolerance" : Str) (.ref C_BadTolerance)) (IS_NoIndex : IsF K mg [("NoIndex" : Str), ("NoValue" : Str), ("Unexplained" : Str), ("BadOrder" : Str), ("NoPosition" : Str), ("BadStamps" : Str), ("BadLog" : Str), ("BadTolerance" : Str), ("BadOperation" : Str), ("Written" : Str), ("TooMany" : Str), ("NothingToUndo" : Str), ("BadText" : Str), ("BadLine" : Str)] ("NoIndex" : Str) (.ref C_NoIndex)) (IS_NoPosition : IsF K mg [("NoIndex" : Str), ("NoValue" : Str), ("Unexplained" : Str), ("BadOrder" : Str), ("NoPosition" : Str), ("BadStamps" : Str), ("BadLog" : Str), ("BadTolerance" : Str), ("BadOperation" : Str), ("Written" : Str), ("TooMany" : Str), ("NothingToUndo" : Str), ("BadText" : Str), ("BadLine" : Str)] ("NoPosition" : Str) (.ref C_NoPosition)) (IS_NoValue : IsF K mg [("NoIndex" : Str), ("NoValue" : Str), ("Unexplained" : Str), ("BadOrder" : Str), ("NoPosition" : Str), ("BadStamps" : Str), ("BadLog" : Str), ("BadTolerance" : Str), ("BadOperation" : Str), ("Written" : Str), ("TooMany" : Str), ("NothingToUndo" : Str), ("BadText" : Str), ("BadLine" : Str)] ("NoValue" : Str) (.ref C_NoValue)) (IS_NothingToUndo : IsF K mg [("NoIndex" : Str), ("NoValue" : Str), ("Unexplained" : Str), ("BadOrder" : Str), ("NoPosition" : Str), ("BadStamps" : Str), ("BadLog" : Str), ("BadTolerance" : Str), ("BadOperation" : Str), ("Written" : Str), ("TooMany" : Str), ("NothingToUndo" : Str), ("BadText" : Str), ("BadLine" : Str)] ("NothingToUndo" : Str) (.ref C_NothingToUndo)) (IS_TooMany : IsF K mg [("NoIndex" : Str), ("NoValue" : Str), ("Unexplained" : Str), ("BadOrder" : Str), ("NoPosition" : Str), ("BadStamps" : Str), ("BadLog" : Str), ("BadTolerance" : Str), ("BadOperation" : Str), ("Written" : Str), ("TooMany" : Str), ("NothingToUndo" : Str), ("BadText" : Str), ("BadLine" : Str)] ("TooMany" : Str) (.ref C_TooMany)) (IS_Unexplained : IsF K mg [("NoIndex" : Str), ("NoValue" : Str), ("Unexplained" : Str), ("BadOrder" : Str), ("NoPosition" : Str), ("BadStamps" : Str), ("BadLog" : Str), ("BadTolerance" : Str), ("BadOperation" : Str), ("Written" : Str), ("TooMany" : Str), ("NothingToUndo" : Str), ("BadText" : Str), ("BadLine" : Str)] ("Unexplained" : Str) (.ref C_Unexplained)) (IS_Written : IsF K mg [("NoIndex" : Str), ("NoValue" : Str), ("Unexplained" : Str), ("BadOrder" : Str), ("NoPosition" : Str), ("BadStamps" : Str), ("BadLog" : Str), ("BadTolerance" : Str), ("BadOperation" : Str), ("Written" : Str), ("TooMany" : Str), ("NothingToUndo" : Str), ("BadText" : Str), ("BadLine" : Str)] ("Written" : Str) (.ref C_Written)) : GFn P w K mg base 1 f fd ps__law_marks s__law_marks := by
  refine gfn_of (g := e__law_marks) Fu sc__law_marks 1 rfl fun cdv A outer s H E hr hG => ?_
  have hu1 := hu1_of hr
  have sc := sc__law_marks
  exact (ds_cons (ds_asg 1 sc.nd (de_lst (da_cons (de_fz (de_isOX hMG (by rfl) c_isinstance (de_var 0) (by rfl) M_NoIndex IS_NoIndex)) (da_cons (de_fz (de_isOX hMG (by rfl) c_isinstance (de_var 0) (by rfl) M_NoValue IS_NoValue)) (da_cons (de_fz (de_isOX hMG (by rfl) c_isinstance (de_var 0) (by rfl) M_Unexplained IS_Unexplained)) da_nil)))))
    (ds_cons (ds_asg 1 sc.nd (de_add (de_var 1) (de_lst (da_cons (de_fz (de_isOX hMG (by rfl) c_isinstance (de_var 0) (by rfl) M_BadOrder IS_BadOrder)) (da_cons (de_fz (de_isOX hMG (by rfl) c_isinstance (de_var 0) (by rfl) M_NoPosition IS_NoPosition)) (da_cons (de_fz (de_isOX hMG (by rfl) c_isinstance (de_var 0) (by rfl) M_BadLog IS_BadLog)) da_nil))))))
    (ds_cons (ds_asg 1 sc.nd (de_add (de_var 1) (de_lst (da_cons (de_fz (de_isOX hMG (by rfl) c_isinstance (de_var 0) (by rfl) M_BadTolerance IS_BadTolerance)) (da_cons (de_fz (de_isOX hMG (by rfl) c_isinstance (de_var 0) (by rfl) M_BadOperation IS_BadOperation)) (da_cons (de_fz (de_isOX hMG (by rfl) c_isinstance (de_var 0) (by rfl) M_Written IS_Written)) da_nil))))))
    (ds_cons (ds_asg 1 sc.nd (de_add (de_var 1) (de_lst (da_cons (de_fz (de_isOX hMG (by rfl) c_isinstance (de_var 0) (by rfl) M_TooMany IS_TooMany)) (da_cons (de_fz (de_isOX hMG (by rfl) c_isinstance (de_var 0) (by rfl) M_BadText IS_BadText)) (da_cons (de_fz (de_isOX hMG (by rfl) c_isinstance (de_var 0) (by rfl) M_BadLine IS_BadLine)) da_nil))))))
    (ds_one (ds_ret (de_add (de_var 1) (de_lst (da_cons (de_fz (de_isOX hMG (by rfl) c_isinstance (de_var 0) (by rfl) M_BadStamps IS_BadStamps)) (da_cons (de_fz (de_isOX hMG (by rfl) c_isinstance (de_var 0) (by rfl) M_NothingToUndo IS_NothingToUndo)) da_nil))))))))))
theorem sc__law_held : FnScope [("_law_made" : Str), ("_law_found" : Str)] ps__law_held (defScope st__law_held) := ⟨rfl, rfl, rfl, by decide +kernel, rfl, by decide +kernel, by decide +kernel⟩
theorem g__law_held {f : Addr} {fd : FuncData} (Fu : Fun K ("_law_held" : Str) ("_law_held" : Str) st__law_held f fd) (hMG : MgT.mg = mg) (AT_begin : AtF K mg [("BadStamps" : Str)] ("begin" : Str)) (AT_end : AtF K mg [("BadStamps" : Str)] ("end" : Str)) (AT_fault : AtF K mg [("Unexplained" : Str)] ("fault" : Str)) (AT_index : AtF K mg [("NoIndex" : Str)] ("index" : Str)) (AT_limit : AtF K mg [("TooMany" : Str)] ("limit" : Str)) (AT_line : AtF K mg [("BadLine" : Str)] ("line" : Str)) (AT_operation : AtF K mg [("BadOperation" : Str)] ("operation" : Str)) (AT_position : AtF K mg [("NoPosition" : Str)] ("position" : Str)) (AT_value : AtF K mg [("NoValue" : Str), ("BadOrder" : Str), ("BadLog" : Str), ("BadTolerance" : Str), ("Written" : Str), ("BadText" : Str)] ("value" : Str)) : GFn P w K mg base 1 f fd ps__law_held s__law_held := by
  refine gfn_of (g := e__law_held) Fu sc__law_held 1 rfl fun cdv A outer s H E hr hG => ?_
  have hu1 := hu1_of hr
  have sc := sc__law_held
  exact (ds_cons (ds_asg 1 sc.nd (de_lst (da_cons (de_fz (de_atOX hMG (de_idx hu1 (de_var 0) de_int) AT_index)) (da_cons (de_fz (de_atOX hMG (de_idx hu1 (de_var 0) de_int) AT_value)) (da_cons (de_fz (de_atOX hMG (de_idx hu1 (de_var 0) de_int) AT_fault)) (da_cons (de_fz (de_atOX hMG (de_idx hu1 (de_var 0) de_int) AT_value)) (da_cons (de_fz (de_atOX hMG (de_idx hu1 (de_var 0) de_int) AT_position)) (da_cons (de_fz (de_atOX hMG (de_idx hu1 (de_var 0) de_int) AT_value)) da_nil))))))))
    (ds_cons (ds_asg 1 sc.nd (de_add (de_var 1) (de_lst (da_cons (de_fz (de_atOX hMG (de_idx hu1 (de_var 0) de_int) AT_value)) (da_cons (de_fz (de_atOX hMG (de_idx hu1 (de_var 0) de_int) AT_operation)) (da_cons (de_fz (de_atOX hMG (de_idx hu1 (de_var 0) de_int) AT_value)) (da_cons (de_fz (de_atOX hMG (de_idx hu1 (de_var 0) de_int) AT_limit)) (da_cons (de_fz (de_atOX hMG (de_idx hu1 (de_var 0) de_int) AT_value)) (da_cons (de_fz (de_atOX hMG (de_idx hu1 (de_var 0) de_int) AT_line)) da_nil)))))))))
    (ds_one (ds_ret (de_add (de_var 1) (de_lst (da_cons (de_fz (de_atOX hMG (de_idx hu1 (de_var 0) de_int) AT_begin)) (da_cons (de_fz (de_atOX hMG (de_idx hu1 (de_var 0) de_int) AT_end)) da_nil))))))))
theorem sc__law_right : FnScope [("_law_pot_here" : Str), ("_law_kept" : Str), ("_law_made" : Str), ("_law_named" : Str), ("_law_some" : Str), ("_law_thing" : Str), ("_law_second" : Str), ("_law_turn" : Str), ("_law_at" : Str), ("_law_error" : Str), ("_law_spot" : Str)] ps__law_right (defScope st__law_right) := ⟨rfl, rfl, rfl, by decide +kernel, rfl, by decide +kernel, by decide +kernel⟩
theorem g__law_right {f : Addr} {fd : FuncData} (Fu : Fun K ("_law_right" : Str) ("_law_right" : Str) st__law_right f fd) {f__law_odd : Addr} {fd__law_odd : FuncData} (G__law_odd : GFn P w K mg base 3 f__law_odd fd__law_odd ps__law_odd CM.s_l_odd) (m__law_odd : mg ("_law_odd" : Str) = some (.ref f__law_odd)) (k__law_odd : PySem.W.keepIn K (.ref f__law_odd) = true) (b__law_odd : Binds K fd__law_odd ps__law_odd []) {f__law_any : Addr} {fd__law_any : FuncData} (G__law_any : GFn P w K mg base 3 f__law_any fd__law_any ps__law_any CM.s_l_any) (m__law_any : mg ("_law_any" : Str) = some (.ref f__law_any)) (k__law_any : PySem.W.keepIn K (.ref f__law_any) = true) (b__law_any : Binds K fd__law_any ps__law_any []) {f__law_held : Addr} {fd__law_held : FuncData} (G__law_held : GFn P w K mg base 3 f__law_held fd__law_held ps__law_held s__law_held) (m__law_held : mg ("_law_held" : Str) = some (.ref f__law_held)) (k__law_held : PySem.W.keepIn K (.ref f__law_held) = true) (b__law_held : Binds K fd__law_held ps__law_held []) {f__law_marks : Addr} {fd__law_marks : FuncData} (G__law_marks : GFn P w K mg base 3 f__law_marks fd__law_marks ps__law_marks s__law_marks) (m__law_marks : mg ("_law_marks" : Str) = some (.ref f__law_marks)) (k__law_marks : PySem.W.keepIn K (.ref f__law_marks) = true) (b__law_marks : Binds K fd__law_marks ps__law_marks []) (c_repr : mg ("repr" : Str) = none) (c_enumerate : mg ("enumerate" : Str) = none) (c_range : mg ("range" : Str) = none) (c_isinstance : mg ("isinstance" : Str) = none) (c_ValueError : mg ("ValueError" : Str) = none) (hMG : MgT.mg = mg) {C_CellError : Addr} (M_CellError : mg ("CellError" : Str) = some (.ref C_CellError)) (IS_ValueError : IsF K mg [("NoIndex" : Str), ("NoValue" : Str), ("Unexplained" : Str), ("BadOrder" : Str), ("NoPosition" : Str), ("BadStamps" : Str), ("BadLog" : Str), ("BadTolerance" : Str), ("BadOperation" : Str), ("Written" : Str), ("TooMany" : Str), ("NothingToUndo" : Str), ("BadText" : Str), ("BadLine" : Str)] ("ValueError" : Str) (.type "ValueError")) (IS_CellError : IsF K mg [("NoIndex" : Str), ("NoValue" : Str), ("Unexplained" : Str), ("BadOrder" : Str), ("NoPosition" : Str), ("BadStamps" : Str), ("BadLog" : Str), ("BadTolerance" : Str), ("BadOperation" : Str), ("Written" : Str), ("TooMany" : Str), ("NothingToUndo" : Str), ("BadText" : Str), ("BadLine" : Str)] ("CellError" : Str) (.ref C_CellError)) (E_BadLine : ExcR P w K mg base 1 ("BadLine" : Str) (fun C => spI1 C ("line" : Str))) (E_BadLog : ExcR P w K mg base 1 ("BadLog" : Str) (fun C => spI1 C ("value" : Str))) (E_BadOperation : ExcR P w K mg base 1 ("BadOperation" : Str) (fun C => spI1 C ("operation" : Str))) (E_BadOrder : ExcR P w K mg base 1 ("BadOrder" : Str) (fun C => spI1 C ("value" : Str))) (E_BadStamps : ExcR P w K mg base 1 ("BadStamps" : Str) (fun C => spI2 C ("begin" : Str) ("end" : Str))) (E_BadText : ExcR P w K mg base 1 ("BadText" : Str) (fun C => spI1 C ("value" : Str))) (E_BadTolerance : ExcR P w K mg base 1 ("BadTolerance" : Str) (fun C => spI1 C ("value" : Str))) (E_NoIndex : ExcR P w K mg base 1 ("NoIndex" : Str) (fun C => spI1 C ("index" : Str))) (E_NoPosition : ExcR P w K mg base 1 ("NoPosition" : Str) (fun C => spI1 C ("position" : Str))) (E_NoValue : ExcR P w K mg base 1 ("NoValue" : Str) (fun C => spI1 C ("value" : Str))) (E_TooMany : ExcR P w K mg base 1 ("TooMany" : Str) (fun C => spI1 C ("limit" : Str))) (E_Unexplained : ExcR P w K mg base 1 ("Unexplained" : Str) (fun C => spI1 C ("fault" : Str))) (E_Written : ExcR P w K mg base 1 ("Written" : Str) (fun C => spI1 C ("value" : Str))) (E0_NothingToUndo : ExcR0 P w K mg base 1 ("NothingToUndo" : Str)) (EK_BadLine : ExcRK P w K mg base 1 ("BadLine" : Str) (fun C => spI1 C ("line" : Str)) [("line" : Str)] [0]) (EK_BadLog : ExcRK P w K mg base 1 ("BadLog" : Str) (fun C => spI1 C ("value" : Str)) [("value" : Str)] [0]) (EK_BadOperation : ExcRK P w K mg base 1 ("BadOperation" : Str) (fun C => spI1 C ("operation" : Str)) [("operation" : Str)] [0]) (EK_BadOrder : ExcRK P w K mg base 1 ("BadOrder" : Str) (fun C => spI1 C ("value" : Str)) [("value" : Str)] [0]) (EK_BadStamps : ExcRK P w K mg base 1 ("BadStamps" : Str) (fun C => spI2 C ("begin" : Str) ("end" : Str)) [("end" : Str), ("begin" : Str)] [1, 0]) (EK_BadText : ExcRK P w K mg base 1 ("BadText" : Str) (fun C => spI1 C ("value" : Str)) [("value" : Str)] [0]) (EK_BadTolerance : ExcRK P w K mg base 1 ("BadTolerance" : Str) (fun C => spI1 C ("value" : Str)) [("value" : Str)] [0]) (EK_NoIndex : ExcRK P w K mg base 1 ("NoIndex" : Str) (fun C => spI1 C ("index" : Str)) [("index" : Str)] [0]) (EK_NoPosition : ExcRK P w K mg base 1 ("NoPosition" : Str) (fun C => spI1 C ("position" : Str)) [("position" : Str)] [0]) (EK_NoValue : ExcRK P w K mg base 1 ("NoValue" : Str) (fun C => spI1 C ("value" : Str)) [("value" : Str)] [0]) (EK_TooMany : ExcRK P w K mg base 1 ("TooMany" : Str) (fun C => spI1 C ("limit" : Str)) [("limit" : Str)] [0]) (EK_Unexplained : ExcRK P w K mg base 1 ("Unexplained" : Str) (fun C => spI1 C ("fault" : Str)) [("fault" : Str)] [0]) (EK_Written : ExcRK P w K mg base 1 ("Written" : Str) (fun C => spI1 C ("value" : Str)) [("value" : Str)] [0]) : GFn P w K mg base 4 f fd ps__law_right s__law_right := by
  refine gfn_of (g := e__law_right) Fu sc__law_right 10 rfl fun cdv A outer s H E hr hG => ?_
  have hu1 := hu1_of hr
  have sc := sc__law_right
  exact (ds_cons (ds_tgt (de_lc rfl sc.nd (di_range1 (by rfl) c_range (da_cons de_int da_nil) rfl (aCons_len fun _ _ _ => aNil_len)) (own := [(("_law_turn" : Str), 7)]) (blkOk_by (by first | (show blkC [("_law_pot_here" : Str), ("_law_kept" : Str), ("_law_made" : Str), ("_law_named" : Str), ("_law_some" : Str), ("_law_thing" : Str), ("_law_second" : Str), ("_law_turn" : Str), ("_law_at" : Str), ("_law_error" : Str), ("_law_spot" : Str)] (defScope st__law_right) _ _ = true; decide +kernel) | rfl)) (by decide) (fun _ _ _ _ _ => (dg_name 7 sc.nd)) (fun _ _ _ _ _ => dts_nil) (fun _ _ _ _ _ => (de_fz (de_call G__law_odd hr hG takes0 (by rfl) m__law_odd k__law_odd b__law_odd (da_cons (de_var 0) (da_cons (de_call G__law_any hr hG takes0 (by rfl) m__law_any k__law_any b__law_any (da_cons (de_var 0) (da_cons (de_lst (da_cons de_int (da_cons de_str (da_cons (de_fz (de_tup (da_cons de_int (da_cons (de_fz (de_tup (da_cons de_int (da_cons de_str da_nil)))) da_nil)))) da_nil)))) da_nil)) (aCons_len (aCons_len fun _ _ _ => aNil_len))) da_nil)) (aCons_len (aCons_len fun _ _ _ => aNil_len)))))) (dg_tup 2 rfl (dgs_cons (dg_name 5 sc.nd) (dgs_cons (dg_name 6 sc.nd) dgs_nil))) (nx_tupG (nx_gsCons (nx_asgV 5) (nx_gsCons (nx_asgV 6) nx_gsNil))))
    (ds_cons (ds_asg 1 sc.nd (de_callB (CR_reprY hG hr.units) cs_reprY (by rfl) c_repr PyProof.Rows.boot_repr (da_cons (de_tup (da_cons (de_fz (de_var 5)) (da_cons (de_fz (de_var 6)) da_nil))) da_nil)))
    (ds_cons (ds_asg 2 sc.nd (de_lst (da_cons (de_fz (de_mkX1 hMG rfl (takes_of rfl rfl rfl rfl) E_NoIndex hr (by decide) (by rfl) (da_cons (de_var 5) da_nil))) (da_cons (de_fz (de_mkX1 hMG rfl (takes_of rfl rfl rfl rfl) E_NoValue hr (by decide) (by rfl) (da_cons (de_var 5) da_nil))) (da_cons (de_fz (de_mkX1 hMG rfl (takes_of rfl rfl rfl rfl) E_Unexplained hr (by decide) (by rfl) (da_cons (de_var 5) da_nil))) (da_cons (de_fz (de_mkX1 hMG rfl (takes_of rfl rfl rfl rfl) E_BadOrder hr (by decide) (by rfl) (da_cons (de_var 5) da_nil))) (da_cons (de_fz (de_mkX1 hMG rfl (takes_of rfl rfl rfl rfl) E_NoPosition hr (by decide) (by rfl) (da_cons (de_var 5) da_nil))) (da_cons (de_fz (de_mkX1 hMG rfl (takes_of rfl rfl rfl rfl) E_BadLog hr (by decide) (by rfl) (da_cons (de_var 5) da_nil))) da_nil))))))))
    (ds_cons (ds_asg 2 sc.nd (de_add (de_var 2) (de_lst (da_cons (de_fz (de_mkX1 hMG rfl (takes_of rfl rfl rfl rfl) E_BadTolerance hr (by decide) (by rfl) (da_cons (de_var 5) da_nil))) (da_cons (de_fz (de_mkX1 hMG rfl (takes_of rfl rfl rfl rfl) E_BadOperation hr (by decide) (by rfl) (da_cons (de_var 5) da_nil))) (da_cons (de_fz (de_mkX1 hMG rfl (takes_of rfl rfl rfl rfl) E_Written hr (by decide) (by rfl) (da_cons (de_var 5) da_nil))) (da_cons (de_fz (de_mkX1 hMG rfl (takes_of rfl rfl rfl rfl) E_TooMany hr (by decide) (by rfl) (da_cons (de_var 5) da_nil))) (da_cons (de_fz (de_mkX1 hMG rfl (takes_of rfl rfl rfl rfl) E_BadText hr (by decide) (by rfl) (da_cons (de_var 5) da_nil))) da_nil))))))))
    (ds_cons (ds_asg 2 sc.nd (de_add (de_var 2) (de_lst (da_cons (de_fz (de_mkX1 hMG rfl (takes_of rfl rfl rfl rfl) E_BadLine hr (by decide) (by rfl) (da_cons (de_var 5) da_nil))) (da_cons (de_fz (de_mkX2 hMG rfl (takes_of rfl rfl rfl rfl) E_BadStamps hr (by decide) (by rfl) (da_cons (de_var 5) (da_cons (de_var 6) da_nil)))) (da_cons (de_fz (de_mkX0 hMG (takes_of rfl rfl rfl rfl) E0_NothingToUndo hr (by decide) (by rfl))) da_nil))))))
    (ds_cons (ds_asg 3 sc.nd (de_lst (da_cons (de_fz (de_mkXK1 hMG rfl (takes_of rfl rfl rfl rfl) EK_NoIndex hr (by decide) (by rfl) (dk_cons (de_var 5) dk_nil) (aCons_len fun _ _ _ => aNil_len))) (da_cons (de_fz (de_mkXK1 hMG rfl (takes_of rfl rfl rfl rfl) EK_NoValue hr (by decide) (by rfl) (dk_cons (de_var 5) dk_nil) (aCons_len fun _ _ _ => aNil_len))) (da_cons (de_fz (de_mkXK1 hMG rfl (takes_of rfl rfl rfl rfl) EK_Unexplained hr (by decide) (by rfl) (dk_cons (de_var 5) dk_nil) (aCons_len fun _ _ _ => aNil_len))) (da_cons (de_fz (de_mkXK1 hMG rfl (takes_of rfl rfl rfl rfl) EK_BadOrder hr (by decide) (by rfl) (dk_cons (de_var 5) dk_nil) (aCons_len fun _ _ _ => aNil_len))) da_nil))))))
    (ds_cons (ds_asg 3 sc.nd (de_add (de_var 3) (de_lst (da_cons (de_fz (de_mkXK1 hMG rfl (takes_of rfl rfl rfl rfl) EK_NoPosition hr (by decide) (by rfl) (dk_cons (de_var 5) dk_nil) (aCons_len fun _ _ _ => aNil_len))) (da_cons (de_fz (de_mkXK1 hMG rfl (takes_of rfl rfl rfl rfl) EK_BadLog hr (by decide) (by rfl) (dk_cons (de_var 5) dk_nil) (aCons_len fun _ _ _ => aNil_len))) (da_cons (de_fz (de_mkXK1 hMG rfl (takes_of rfl rfl rfl rfl) EK_BadTolerance hr (by decide) (by rfl) (dk_cons (de_var 5) dk_nil) (aCons_len fun _ _ _ => aNil_len))) da_nil))))))
    (ds_cons (ds_asg 3 sc.nd (de_add (de_var 3) (de_lst (da_cons (de_fz (de_mkXK1 hMG rfl (takes_of rfl rfl rfl rfl) EK_BadOperation hr (by decide) (by rfl) (dk_cons (de_var 5) dk_nil) (aCons_len fun _ _ _ => aNil_len))) (da_cons (de_fz (de_mkXK1 hMG rfl (takes_of rfl rfl rfl rfl) EK_Written hr (by decide) (by rfl) (dk_cons (de_var 5) dk_nil) (aCons_len fun _ _ _ => aNil_len))) (da_cons (de_fz (de_mkXK1 hMG rfl (takes_of rfl rfl rfl rfl) EK_TooMany hr (by decide) (by rfl) (dk_cons (de_var 5) dk_nil) (aCons_len fun _ _ _ => aNil_len))) (da_cons (de_fz (de_mkXK1 hMG rfl (takes_of rfl rfl rfl rfl) EK_BadText hr (by decide) (by rfl) (dk_cons (de_var 5) dk_nil) (aCons_len fun _ _ _ => aNil_len))) da_nil)))))))
    (ds_cons (ds_asg 3 sc.nd (de_add (de_var 3) (de_lst (da_cons (de_fz (de_mkXK1 hMG rfl (takes_of rfl rfl rfl rfl) EK_BadLine hr (by decide) (by rfl) (dk_cons (de_var 5) dk_nil) (aCons_len fun _ _ _ => aNil_len))) (da_cons (de_fz (de_mkXK2 hMG rfl (takes_of rfl rfl rfl rfl) EK_BadStamps hr (by decide) (by rfl) (dk_cons (de_var 6) (dk_cons (de_var 5) dk_nil)) (aCons_len (aCons_len fun _ _ _ => aNil_len)))) da_nil)))))
    (ds_cons (ds_for (passes_of rfl) rfl (di_seq (de_tup (da_cons (de_fz (de_var 2)) (da_cons (de_fz (de_var 3)) da_nil)))) (dg_name 4 sc.nd)
    (ds_cons (ds_if (dt_ne hr.units (de_callB (CR_reprY hG hr.units) cs_reprY (by rfl) c_repr PyProof.Rows.boot_repr (da_cons (de_call G__law_held hr hG (takes_of rfl rfl rfl rfl) (by rfl) m__law_held k__law_held b__law_held (da_cons (de_var 4) da_nil) (aCons_len fun _ _ _ => aNil_len)) da_nil)) (de_callB (CR_reprY hG hr.units) cs_reprY (by rfl) c_repr PyProof.Rows.boot_repr (da_cons (de_add (de_mul (de_lst (da_cons (de_fz (de_var 5)) da_nil)) de_int) (de_lst (da_cons (de_fz (de_var 6)) da_nil))) da_nil)))
    (ds_one (ds_ret de_bl))
    ds_nil)
    (ds_one (ds_for (passes_of rfl) rfl (di_enum (by rfl) c_enumerate (de_var 4)) (dg_tup 2 rfl (dgs_cons (dg_name 8 sc.nd) (dgs_cons (dg_name 9 sc.nd) dgs_nil)))
    (ds_cons (ds_if (dt_ne hr.units (de_call G__law_marks hr hG (takes_of rfl rfl rfl rfl) (by rfl) m__law_marks k__law_marks b__law_marks (da_cons (de_var 9) da_nil) (aCons_len fun _ _ _ => aNil_len)) (de_lc rfl sc.nd (di_range1 (by rfl) c_range (da_cons de_int da_nil) rfl (aCons_len fun _ _ _ => aNil_len)) (own := [(("_law_spot" : Str), 10)]) (blkOk_by (by first | (show blkC [("_law_pot_here" : Str), ("_law_kept" : Str), ("_law_made" : Str), ("_law_named" : Str), ("_law_some" : Str), ("_law_thing" : Str), ("_law_second" : Str), ("_law_turn" : Str), ("_law_at" : Str), ("_law_error" : Str), ("_law_spot" : Str)] (defScope st__law_right) _ _ = true; decide +kernel) | rfl)) (by decide) (fun _ _ _ _ _ => (dg_name 10 sc.nd)) (fun _ _ _ _ _ => dts_nil) (fun _ _ _ _ _ => (de_fz (de_eq hr.units (de_var 10) (de_var 8))))))
    (ds_one (ds_ret de_bl))
    ds_nil)
    (ds_one (ds_if ((dw_or (dt_not (dt_val (de_isOX hMG (by rfl) c_isinstance (de_var 9) (by rfl) M_CellError IS_CellError))) (dw_or1 (dt_not (dt_val (de_isOB hMG (by rfl) c_isinstance (de_var 9) (by rfl) c_ValueError (by first | rfl | decide +kernel | with_unfolding_all rfl) IS_ValueError)))))).dt
    (ds_one (ds_ret de_bl))
    ds_nil)))))))
    (ds_one (ds_ret (de_eq hr.units (de_callB (CR_reprY hG hr.units) cs_reprY (by rfl) c_repr PyProof.Rows.boot_repr (da_cons (de_tup (da_cons (de_fz (de_var 5)) (da_cons (de_fz (de_var 6)) da_nil))) da_nil)) (de_var 1))))))))))))))
theorem sc_law : FnScope [("_law_script" : Str), ("_law_k" : Str), ("_law_pot_here" : Str), ("_law_turn" : Str)] ps_law (defScope st_law) := ⟨rfl, rfl, rfl, by decide +kernel, rfl, by decide +kernel, by decide +kernel⟩
theorem g_law {f : Addr} {fd : FuncData} (Fu : Fun K ("law" : Str) ("law" : Str) st_law f fd) {f__law_pot : Addr} {fd__law_pot : FuncData} (G__law_pot : GFn P w K mg base 4 f__law_pot fd__law_pot ps__law_pot CM.s_l_pot) (m__law_pot : mg ("_law_pot" : Str) = some (.ref f__law_pot)) (k__law_pot : PySem.W.keepIn K (.ref f__law_pot) = true) (b__law_pot : Binds K fd__law_pot ps__law_pot []) {f__law_right : Addr} {fd__law_right : FuncData} (G__law_right : GFn P w K mg base 4 f__law_right fd__law_right ps__law_right s__law_right) (m__law_right : mg ("_law_right" : Str) = some (.ref f__law_right)) (k__law_right : PySem.W.keepIn K (.ref f__law_right) = true) (b__law_right : Binds K fd__law_right ps__law_right []) (c_range : mg ("range" : Str) = none) (c_max : mg ("max" : Str) = none) (c_min : mg ("min" : Str) = none) (c_all : mg ("all" : Str) = none) (c_len : mg ("len" : Str) = none) : GFn P w K mg base 5 f fd ps_law s_law := by
  refine gfn_of (g := e_law) Fu sc_law 3 rfl fun cdv A outer s H E hr hG => ?_
  have hu1 := hu1_of hr
  have sc := sc_law
  exact (ds_cons (ds_for (passes_of rfl) rfl (di_range1 (by rfl) c_range (da_cons (de_callB CR_max cs_max (by rfl) c_max PyProof.Rows.boot_max (da_cons de_int (da_cons (de_callB CR_min cs_min (by rfl) c_min PyProof.Rows.boot_min (da_cons de_int (da_cons (de_callB CR_len cs_len (by rfl) c_len PySem.boot_len (da_cons (de_var 0) da_nil)) da_nil))) da_nil))) da_nil) rfl (aCons_len fun _ _ _ => aNil_len)) (dg_name 1 sc.nd)
    (ds_cons (ds_asg 2 sc.nd (de_call G__law_pot hr hG (takes_of rfl rfl rfl rfl) (by rfl) m__law_pot k__law_pot b__law_pot (da_cons (de_var 0) (da_cons (de_var 1) da_nil)) (aCons_len (aCons_len fun _ _ _ => aNil_len))))
    (ds_one (ds_if (dt_not (dt_val (de_callB (cr_all rfl) cs_all (by rfl) c_all PyProof.Rows.boot_all (da_cons (de_lc rfl sc.nd (di_range1 (by rfl) c_range (da_cons de_int da_nil) rfl (aCons_len fun _ _ _ => aNil_len)) (own := [(("_law_turn" : Str), 3)]) (blkOk_by (by first | (show blkC [("_law_script" : Str), ("_law_k" : Str), ("_law_pot_here" : Str), ("_law_turn" : Str)] (defScope st_law) _ _ = true; decide +kernel) | rfl)) (by decide) (fun _ _ _ _ _ => (dg_name 3 sc.nd)) (fun _ _ _ _ _ => dts_nil) (fun _ _ _ _ _ => (de_fz (de_call G__law_right hr hG takes0 (by rfl) m__law_right k__law_right b__law_right (da_cons (de_var 2) da_nil) (aCons_len fun _ _ _ => aNil_len))))) da_nil))))
    (ds_one (ds_ret de_bl))
    ds_nil))))
    (ds_one (ds_ret de_bl)))
end
end K49
namespace K49
open PySem PySem.Spec PyProof.Rows L2 DL
set_option maxHeartbeats 0 in
theorem all_mk {l : PySem.W.OpenLaw} {w : World} {K : PySem.W.Frag} {h : Heap} {mg : Str → Option Value} {fa f1 f2 f3 f4 f5 f6 f7 f8 : Addr} (X : K.In h) (G : h.Ns mainGlobals mg) (hfa : mg "law" = some (.ref fa))
    {od1 an1 : Option Addr} {sl1 : Array (Option Value)} {oc1 kV1 dc1 pm1 cd1 ct1 : Value}
    {od2 an2 : Option Addr} {sl2 : Array (Option Value)} {oc2 kV2 dc2 pm2 cd2 ct2 : Value}
    {od3 an3 : Option Addr} {sl3 : Array (Option Value)} {oc3 kV3 dc3 pm3 cd3 ct3 : Value}
    {od4 an4 : Option Addr} {sl4 : Array (Option Value)} {oc4 kV4 dc4 pm4 cd4 ct4 : Value}
    {od5 an5 : Option Addr} {sl5 : Array (Option Value)} {oc5 kV5 dc5 pm5 cd5 ct5 : Value}
    {od6 an6 : Option Addr} {sl6 : Array (Option Value)} {oc6 kV6 dc6 pm6 cd6 ct6 : Value}
    {od7 an7 : Option Addr} {sl7 : Array (Option Value)} {oc7 kV7 dc7 pm7 cd7 ct7 : Value}
    {od8 an8 : Option Addr} {sl8 : Array (Option Value)} {oc8 kV8 dc8 pm8 cd8 ct8 : Value}
    (a1 : PySem.W.nsIn K mainGlobals ("_law_pot" : Str) = some (some (.ref f1)))
    (l1 : K.lookup f1 = some ⟨oc1, od1, .func (PySem.W.fnOf ("_law_pot" : Str) ("_law_pot" : Str) (defArgs st__law_pot) (defBody st__law_pot) (defScope st__law_pot) .none kV1 dc1 pm1 an1 cd1 ct1), sl1⟩)
    (c1 : PySem.W.codeIn K cd1 ("_law_pot" : Str) = true) (k1 : PySem.W.keepIn K (.ref f1) = true)
    (a2 : PySem.W.nsIn K mainGlobals ("_law_draw" : Str) = some (some (.ref f2)))
    (l2 : K.lookup f2 = some ⟨oc2, od2, .func (PySem.W.fnOf ("_law_draw" : Str) ("_law_draw" : Str) (defArgs st__law_draw) (defBody st__law_draw) (defScope st__law_draw) .none kV2 dc2 pm2 an2 cd2 ct2), sl2⟩)
    (c2 : PySem.W.codeIn K cd2 ("_law_draw" : Str) = true) (k2 : PySem.W.keepIn K (.ref f2) = true)
    (a3 : PySem.W.nsIn K mainGlobals ("_law_any" : Str) = some (some (.ref f3)))
    (l3 : K.lookup f3 = some ⟨oc3, od3, .func (PySem.W.fnOf ("_law_any" : Str) ("_law_any" : Str) (defArgs st__law_any) (defBody st__law_any) (defScope st__law_any) .none kV3 dc3 pm3 an3 cd3 ct3), sl3⟩)
    (c3 : PySem.W.codeIn K cd3 ("_law_any" : Str) = true) (k3 : PySem.W.keepIn K (.ref f3) = true)
    (a4 : PySem.W.nsIn K mainGlobals ("_law_odd" : Str) = some (some (.ref f4)))
    (l4 : K.lookup f4 = some ⟨oc4, od4, .func (PySem.W.fnOf ("_law_odd" : Str) ("_law_odd" : Str) (defArgs st__law_odd) (defBody st__law_odd) (defScope st__law_odd) .none kV4 dc4 pm4 an4 cd4 ct4), sl4⟩)
    (c4 : PySem.W.codeIn K cd4 ("_law_odd" : Str) = true) (k4 : PySem.W.keepIn K (.ref f4) = true)
    (a5 : PySem.W.nsIn K mainGlobals ("_law_held" : Str) = some (some (.ref f5)))
    (l5 : K.lookup f5 = some ⟨oc5, od5, .func (PySem.W.fnOf ("_law_held" : Str) ("_law_held" : Str) (defArgs st__law_held) (defBody st__law_held) (defScope st__law_held) .none kV5 dc5 pm5 an5 cd5 ct5), sl5⟩)
    (c5 : PySem.W.codeIn K cd5 ("_law_held" : Str) = true) (k5 : PySem.W.keepIn K (.ref f5) = true)
    (a6 : PySem.W.nsIn K mainGlobals ("_law_marks" : Str) = some (some (.ref f6)))
    (l6 : K.lookup f6 = some ⟨oc6, od6, .func (PySem.W.fnOf ("_law_marks" : Str) ("_law_marks" : Str) (defArgs st__law_marks) (defBody st__law_marks) (defScope st__law_marks) .none kV6 dc6 pm6 an6 cd6 ct6), sl6⟩)
    (c6 : PySem.W.codeIn K cd6 ("_law_marks" : Str) = true) (k6 : PySem.W.keepIn K (.ref f6) = true)
    (a7 : PySem.W.nsIn K mainGlobals ("_law_right" : Str) = some (some (.ref f7)))
    (l7 : K.lookup f7 = some ⟨oc7, od7, .func (PySem.W.fnOf ("_law_right" : Str) ("_law_right" : Str) (defArgs st__law_right) (defBody st__law_right) (defScope st__law_right) .none kV7 dc7 pm7 an7 cd7 ct7), sl7⟩)
    (c7 : PySem.W.codeIn K cd7 ("_law_right" : Str) = true) (k7 : PySem.W.keepIn K (.ref f7) = true)
    (a8 : PySem.W.nsIn K mainGlobals ("law" : Str) = some (some (.ref f8)))
    (l8 : K.lookup f8 = some ⟨oc8, od8, .func (PySem.W.fnOf ("law" : Str) ("law" : Str) (defArgs st_law) (defBody st_law) (defScope st_law) .none kV8 dc8 pm8 an8 cd8 ct8), sl8⟩)
    (c8 : PySem.W.codeIn K cd8 ("law" : Str) = true) (k8 : PySem.W.keepIn K (.ref f8) = true)
    (z_len : PySem.W.nsIn K mainGlobals ("len" : Str) = some none)
    (z_int : PySem.W.nsIn K mainGlobals ("int" : Str) = some none)
    (z_abs : PySem.W.nsIn K mainGlobals ("abs" : Str) = some none)
    (z_isinstance : PySem.W.nsIn K mainGlobals ("isinstance" : Str) = some none)
    (z_tuple : PySem.W.nsIn K mainGlobals ("tuple" : Str) = some none)
    (z_str : PySem.W.nsIn K mainGlobals ("str" : Str) = some none)
    (z_list : PySem.W.nsIn K mainGlobals ("list" : Str) = some none)
    (z_repr : PySem.W.nsIn K mainGlobals ("repr" : Str) = some none)
    (z_enumerate : PySem.W.nsIn K mainGlobals ("enumerate" : Str) = some none)
    (z_range : PySem.W.nsIn K mainGlobals ("range" : Str) = some none)
    (z_ValueError : PySem.W.nsIn K mainGlobals ("ValueError" : Str) = some none)
    (z_max : PySem.W.nsIn K mainGlobals ("max" : Str) = some none)
    (z_min : PySem.W.nsIn K mainGlobals ("min" : Str) = some none)
    (z_all : PySem.W.nsIn K mainGlobals ("all" : Str) = some none)
    {C_BadLine : Addr} (ax_BadLine : PySem.W.nsIn K mainGlobals ("BadLine" : Str) = some (some (.ref C_BadLine)))
    (ix_BadLine : PySem.W.isClsIn K C_BadLine = true)
    (tx_BadLine : PySem.W.typeIn K (.ref C_BadLine) = some (.type "type"))
    (ex_BadLine : PySem.W.subIn K (.ref C_BadLine) (.type "BaseException") = some true)
    {C_BadLog : Addr} (ax_BadLog : PySem.W.nsIn K mainGlobals ("BadLog" : Str) = some (some (.ref C_BadLog)))
    (ix_BadLog : PySem.W.isClsIn K C_BadLog = true)
    (tx_BadLog : PySem.W.typeIn K (.ref C_BadLog) = some (.type "type"))
    (ex_BadLog : PySem.W.subIn K (.ref C_BadLog) (.type "BaseException") = some true)
    {C_BadOperation : Addr} (ax_BadOperation : PySem.W.nsIn K mainGlobals ("BadOperation" : Str) = some (some (.ref C_BadOperation)))
    (ix_BadOperation : PySem.W.isClsIn K C_BadOperation = true)
    (tx_BadOperation : PySem.W.typeIn K (.ref C_BadOperation) = some (.type "type"))
    (ex_BadOperation : PySem.W.subIn K (.ref C_BadOperation) (.type "BaseException") = some true)
    {C_BadOrder : Addr} (ax_BadOrder : PySem.W.nsIn K mainGlobals ("BadOrder" : Str) = some (some (.ref C_BadOrder)))
    (ix_BadOrder : PySem.W.isClsIn K C_BadOrder = true)
    (tx_BadOrder : PySem.W.typeIn K (.ref C_BadOrder) = some (.type "type"))
    (ex_BadOrder : PySem.W.subIn K (.ref C_BadOrder) (.type "BaseException") = some true)
    {C_BadStamps : Addr} (ax_BadStamps : PySem.W.nsIn K mainGlobals ("BadStamps" : Str) = some (some (.ref C_BadStamps)))
    (ix_BadStamps : PySem.W.isClsIn K C_BadStamps = true)
    (tx_BadStamps : PySem.W.typeIn K (.ref C_BadStamps) = some (.type "type"))
    (ex_BadStamps : PySem.W.subIn K (.ref C_BadStamps) (.type "BaseException") = some true)
    {C_BadText : Addr} (ax_BadText : PySem.W.nsIn K mainGlobals ("BadText" : Str) = some (some (.ref C_BadText)))
    (ix_BadText : PySem.W.isClsIn K C_BadText = true)
    (tx_BadText : PySem.W.typeIn K (.ref C_BadText) = some (.type "type"))
    (ex_BadText : PySem.W.subIn K (.ref C_BadText) (.type "BaseException") = some true)
    {C_BadTolerance : Addr} (ax_BadTolerance : PySem.W.nsIn K mainGlobals ("BadTolerance" : Str) = some (some (.ref C_BadTolerance)))
    (ix_BadTolerance : PySem.W.isClsIn K C_BadTolerance = true)
    (tx_BadTolerance : PySem.W.typeIn K (.ref C_BadTolerance) = some (.type "type"))
    (ex_BadTolerance : PySem.W.subIn K (.ref C_BadTolerance) (.type "BaseException") = some true)
    {C_CellError : Addr} (ax_CellError : PySem.W.nsIn K mainGlobals ("CellError" : Str) = some (some (.ref C_CellError)))
    (ix_CellError : PySem.W.isClsIn K C_CellError = true)
    (tx_CellError : PySem.W.typeIn K (.ref C_CellError) = some (.type "type"))
    (ex_CellError : PySem.W.subIn K (.ref C_CellError) (.type "BaseException") = some true)
    {C_NoIndex : Addr} (ax_NoIndex : PySem.W.nsIn K mainGlobals ("NoIndex" : Str) = some (some (.ref C_NoIndex)))
    (ix_NoIndex : PySem.W.isClsIn K C_NoIndex = true)
    (tx_NoIndex : PySem.W.typeIn K (.ref C_NoIndex) = some (.type "type"))
    (ex_NoIndex : PySem.W.subIn K (.ref C_NoIndex) (.type "BaseException") = some true)
    {C_NoPosition : Addr} (ax_NoPosition : PySem.W.nsIn K mainGlobals ("NoPosition" : Str) = some (some (.ref C_NoPosition)))
    (ix_NoPosition : PySem.W.isClsIn K C_NoPosition = true)
    (tx_NoPosition : PySem.W.typeIn K (.ref C_NoPosition) = some (.type "type"))
    (ex_NoPosition : PySem.W.subIn K (.ref C_NoPosition) (.type "BaseException") = some true)
    {C_NoValue : Addr} (ax_NoValue : PySem.W.nsIn K mainGlobals ("NoValue" : Str) = some (some (.ref C_NoValue)))
    (ix_NoValue : PySem.W.isClsIn K C_NoValue = true)
    (tx_NoValue : PySem.W.typeIn K (.ref C_NoValue) = some (.type "type"))
    (ex_NoValue : PySem.W.subIn K (.ref C_NoValue) (.type "BaseException") = some true)
    {C_NothingToUndo : Addr} (ax_NothingToUndo : PySem.W.nsIn K mainGlobals ("NothingToUndo" : Str) = some (some (.ref C_NothingToUndo)))
    (ix_NothingToUndo : PySem.W.isClsIn K C_NothingToUndo = true)
    (tx_NothingToUndo : PySem.W.typeIn K (.ref C_NothingToUndo) = some (.type "type"))
    (ex_NothingToUndo : PySem.W.subIn K (.ref C_NothingToUndo) (.type "BaseException") = some true)
    {C_TooMany : Addr} (ax_TooMany : PySem.W.nsIn K mainGlobals ("TooMany" : Str) = some (some (.ref C_TooMany)))
    (ix_TooMany : PySem.W.isClsIn K C_TooMany = true)
    (tx_TooMany : PySem.W.typeIn K (.ref C_TooMany) = some (.type "type"))
    (ex_TooMany : PySem.W.subIn K (.ref C_TooMany) (.type "BaseException") = some true)
    {C_Unexplained : Addr} (ax_Unexplained : PySem.W.nsIn K mainGlobals ("Unexplained" : Str) = some (some (.ref C_Unexplained)))
    (ix_Unexplained : PySem.W.isClsIn K C_Unexplained = true)
    (tx_Unexplained : PySem.W.typeIn K (.ref C_Unexplained) = some (.type "type"))
    (ex_Unexplained : PySem.W.subIn K (.ref C_Unexplained) (.type "BaseException") = some true)
    {C_Written : Addr} (ax_Written : PySem.W.nsIn K mainGlobals ("Written" : Str) = some (some (.ref C_Written)))
    (ix_Written : PySem.W.isClsIn K C_Written = true)
    (tx_Written : PySem.W.typeIn K (.ref C_Written) = some (.type "type"))
    (ex_Written : PySem.W.subIn K (.ref C_Written) (.type "BaseException") = some true)
    {nm_NoIndex q_NoIndex : Str} {N_NoIndex : Addr} {bs_NoIndex : List Value} {sn_NoIndex : List Str} {sub_NoIndex : List Value} {ab_NoIndex : Bool} {col_NoIndex : Option Bool} {dd_NoIndex : Option Addr} {m0_NoIndex m1_NoIndex m2_NoIndex m3_NoIndex m5_NoIndex : Option Value} (xl_NoIndex : K.lookup C_NoIndex = some (excClassObj nm_NoIndex q_NoIndex C_NoIndex N_NoIndex bs_NoIndex [.ref C_CellError, .type "ValueError", .type "Exception", .type "BaseException", .type "object"] true sn_NoIndex sub_NoIndex ab_NoIndex col_NoIndex dd_NoIndex m0_NoIndex m1_NoIndex m2_NoIndex m3_NoIndex m5_NoIndex "ValueError.__new__"))
    (sa_NoIndex : PySem.W.findIn K (.ref C_NoIndex) "__setattr__" = some (some (.builtin "object.__setattr__")))
    (ga_NoIndex : PySem.W.findIn K (.ref C_NoIndex) "__getattribute__" = some (some (.builtin "BaseException.__getattribute__")))
    (gg_NoIndex : PySem.W.findIn K (.ref C_NoIndex) "__getattr__" = some none)
    (ca_NoIndex : PySem.W.findIn K (.ref C_NoIndex) "__class__" = some (some (.builtin "object.__class__")))
    (nb_NoIndex_index : PySem.W.findIn K (.ref C_NoIndex) ("index" : Str) = some none)
    {f_NoIndex : Addr} {oc_NoIndex kV_NoIndex dc_NoIndex pm_NoIndex cd_NoIndex ct_NoIndex : Value} {od_NoIndex an_NoIndex : Option Addr} {sl_NoIndex : Array (Option Value)} (in_NoIndex : PySem.W.findIn K (.ref C_NoIndex) "__init__" = some (some (.ref f_NoIndex)))
    (ty_NoIndex : PySem.W.typeIn K (.ref f_NoIndex) = some (.type "function"))
    (li_NoIndex : K.lookup f_NoIndex = some ⟨oc_NoIndex, od_NoIndex, .func (PySem.W.fnOf "__init__" ("NoIndex.__init__" : Str) (defArgs st_i_NoIndex) (defBody st_i_NoIndex) (defScope st_i_NoIndex) .none kV_NoIndex dc_NoIndex pm_NoIndex an_NoIndex cd_NoIndex ct_NoIndex), sl_NoIndex⟩)
    (ci_NoIndex : PySem.W.codeIn K cd_NoIndex ("NoIndex.__init__" : Str) = true)
    (kb_NoIndex_ValueError : PySem.W.kitOne K (.ref C_NoIndex) (.type "ValueError") = some true)
    (ki_NoIndex : PySem.W.keepIn K (.ref f_NoIndex) = true)
    (kc_NoIndex : PySem.W.keepIn K (.ref C_NoIndex) = true)
    (hd_NoIndex : PySem.W.hasDictIn K C_NoIndex = true)
    (mo_NoIndex : PySem.W.mroIn K C_NoIndex (.type "object") = some true)
    (ne_NoIndex_BadLine : (C_NoIndex == C_BadLine) = true → false = true)
    (ne_NoIndex_BadLog : (C_NoIndex == C_BadLog) = true → false = true)
    (ne_NoIndex_BadOperation : (C_NoIndex == C_BadOperation) = true → false = true)
    (ne_NoIndex_BadOrder : (C_NoIndex == C_BadOrder) = true → false = true)
    (ne_NoIndex_BadStamps : (C_NoIndex == C_BadStamps) = true → false = true)
    (ne_NoIndex_BadText : (C_NoIndex == C_BadText) = true → false = true)
    (ne_NoIndex_BadTolerance : (C_NoIndex == C_BadTolerance) = true → false = true)
    (ne_NoIndex_NoPosition : (C_NoIndex == C_NoPosition) = true → false = true)
    (ne_NoIndex_NoValue : (C_NoIndex == C_NoValue) = true → false = true)
    (ne_NoIndex_NothingToUndo : (C_NoIndex == C_NothingToUndo) = true → false = true)
    (ne_NoIndex_TooMany : (C_NoIndex == C_TooMany) = true → false = true)
    (ne_NoIndex_Unexplained : (C_NoIndex == C_Unexplained) = true → false = true)
    (ne_NoIndex_Written : (C_NoIndex == C_Written) = true → false = true)
    (sb_NoIndex_BadLine : PySem.W.subIn K (.ref C_NoIndex) (.ref C_BadLine) = some false)
    (sb_NoIndex_BadLog : PySem.W.subIn K (.ref C_NoIndex) (.ref C_BadLog) = some false)
    (sb_NoIndex_BadOperation : PySem.W.subIn K (.ref C_NoIndex) (.ref C_BadOperation) = some false)
    (sb_NoIndex_BadOrder : PySem.W.subIn K (.ref C_NoIndex) (.ref C_BadOrder) = some false)
    (sb_NoIndex_BadStamps : PySem.W.subIn K (.ref C_NoIndex) (.ref C_BadStamps) = some false)
    (sb_NoIndex_BadText : PySem.W.subIn K (.ref C_NoIndex) (.ref C_BadText) = some false)
    (sb_NoIndex_BadTolerance : PySem.W.subIn K (.ref C_NoIndex) (.ref C_BadTolerance) = some false)
    (sb_NoIndex_CellError : PySem.W.subIn K (.ref C_NoIndex) (.ref C_CellError) = some true)
    (sb_NoIndex_NoIndex : PySem.W.subIn K (.ref C_NoIndex) (.ref C_NoIndex) = some true)
    (sb_NoIndex_NoPosition : PySem.W.subIn K (.ref C_NoIndex) (.ref C_NoPosition) = some false)
    (sb_NoIndex_NoValue : PySem.W.subIn K (.ref C_NoIndex) (.ref C_NoValue) = some false)
    (sb_NoIndex_NothingToUndo : PySem.W.subIn K (.ref C_NoIndex) (.ref C_NothingToUndo) = some false)
    (sb_NoIndex_TooMany : PySem.W.subIn K (.ref C_NoIndex) (.ref C_TooMany) = some false)
    (sb_NoIndex_Unexplained : PySem.W.subIn K (.ref C_NoIndex) (.ref C_Unexplained) = some false)
    (sb_NoIndex_Written : PySem.W.subIn K (.ref C_NoIndex) (.ref C_Written) = some false)
    {nm_NoValue q_NoValue : Str} {N_NoValue : Addr} {bs_NoValue : List Value} {sn_NoValue : List Str} {sub_NoValue : List Value} {ab_NoValue : Bool} {col_NoValue : Option Bool} {dd_NoValue : Option Addr} {m0_NoValue m1_NoValue m2_NoValue m3_NoValue m5_NoValue : Option Value} (xl_NoValue : K.lookup C_NoValue = some (excClassObj nm_NoValue q_NoValue C_NoValue N_NoValue bs_NoValue [.ref C_CellError, .type "ValueError", .type "Exception", .type "BaseException", .type "object"] true sn_NoValue sub_NoValue ab_NoValue col_NoValue dd_NoValue m0_NoValue m1_NoValue m2_NoValue m3_NoValue m5_NoValue "ValueError.__new__"))
    (sa_NoValue : PySem.W.findIn K (.ref C_NoValue) "__setattr__" = some (some (.builtin "object.__setattr__")))
    (ga_NoValue : PySem.W.findIn K (.ref C_NoValue) "__getattribute__" = some (some (.builtin "BaseException.__getattribute__")))
    (gg_NoValue : PySem.W.findIn K (.ref C_NoValue) "__getattr__" = some none)
    (ca_NoValue : PySem.W.findIn K (.ref C_NoValue) "__class__" = some (some (.builtin "object.__class__")))
    (nb_NoValue_value : PySem.W.findIn K (.ref C_NoValue) ("value" : Str) = some none)
    {f_NoValue : Addr} {oc_NoValue kV_NoValue dc_NoValue pm_NoValue cd_NoValue ct_NoValue : Value} {od_NoValue an_NoValue : Option Addr} {sl_NoValue : Array (Option Value)} (in_NoValue : PySem.W.findIn K (.ref C_NoValue) "__init__" = some (some (.ref f_NoValue)))
    (ty_NoValue : PySem.W.typeIn K (.ref f_NoValue) = some (.type "function"))
    (li_NoValue : K.lookup f_NoValue = some ⟨oc_NoValue, od_NoValue, .func (PySem.W.fnOf "__init__" ("NoValue.__init__" : Str) (defArgs st_i_NoValue) (defBody st_i_NoValue) (defScope st_i_NoValue) .none kV_NoValue dc_NoValue pm_NoValue an_NoValue cd_NoValue ct_NoValue), sl_NoValue⟩)
    (ci_NoValue : PySem.W.codeIn K cd_NoValue ("NoValue.__init__" : Str) = true)
    (kb_NoValue_ValueError : PySem.W.kitOne K (.ref C_NoValue) (.type "ValueError") = some true)
    (ki_NoValue : PySem.W.keepIn K (.ref f_NoValue) = true)
    (kc_NoValue : PySem.W.keepIn K (.ref C_NoValue) = true)
    (hd_NoValue : PySem.W.hasDictIn K C_NoValue = true)
    (mo_NoValue : PySem.W.mroIn K C_NoValue (.type "object") = some true)
    (ne_NoValue_BadLine : (C_NoValue == C_BadLine) = true → false = true)
    (ne_NoValue_BadLog : (C_NoValue == C_BadLog) = true → false = true)
    (ne_NoValue_BadOperation : (C_NoValue == C_BadOperation) = true → false = true)
    (ne_NoValue_BadOrder : (C_NoValue == C_BadOrder) = true → false = true)
    (ne_NoValue_BadStamps : (C_NoValue == C_BadStamps) = true → false = true)
    (ne_NoValue_BadText : (C_NoValue == C_BadText) = true → false = true)
    (ne_NoValue_BadTolerance : (C_NoValue == C_BadTolerance) = true → false = true)
    (ne_NoValue_NoIndex : (C_NoValue == C_NoIndex) = true → false = true)
    (ne_NoValue_NoPosition : (C_NoValue == C_NoPosition) = true → false = true)
    (ne_NoValue_NothingToUndo : (C_NoValue == C_NothingToUndo) = true → false = true)
    (ne_NoValue_TooMany : (C_NoValue == C_TooMany) = true → false = true)
    (ne_NoValue_Unexplained : (C_NoValue == C_Unexplained) = true → false = true)
    (ne_NoValue_Written : (C_NoValue == C_Written) = true → false = true)
    (sb_NoValue_BadLine : PySem.W.subIn K (.ref C_NoValue) (.ref C_BadLine) = some false)
    (sb_NoValue_BadLog : PySem.W.subIn K (.ref C_NoValue) (.ref C_BadLog) = some false)
    (sb_NoValue_BadOperation : PySem.W.subIn K (.ref C_NoValue) (.ref C_BadOperation) = some false)
    (sb_NoValue_BadOrder : PySem.W.subIn K (.ref C_NoValue) (.ref C_BadOrder) = some false)
    (sb_NoValue_BadStamps : PySem.W.subIn K (.ref C_NoValue) (.ref C_BadStamps) = some false)
    (sb_NoValue_BadText : PySem.W.subIn K (.ref C_NoValue) (.ref C_BadText) = some false)
    (sb_NoValue_BadTolerance : PySem.W.subIn K (.ref C_NoValue) (.ref C_BadTolerance) = some false)
    (sb_NoValue_CellError : PySem.W.subIn K (.ref C_NoValue) (.ref C_CellError) = some true)
    (sb_NoValue_NoIndex : PySem.W.subIn K (.ref C_NoValue) (.ref C_NoIndex) = some false)
    (sb_NoValue_NoPosition : PySem.W.subIn K (.ref C_NoValue) (.ref C_NoPosition) = some false)
    (sb_NoValue_NoValue : PySem.W.subIn K (.ref C_NoValue) (.ref C_NoValue) = some true)
    (sb_NoValue_NothingToUndo : PySem.W.subIn K (.ref C_NoValue) (.ref C_NothingToUndo) = some false)
    (sb_NoValue_TooMany : PySem.W.subIn K (.ref C_NoValue) (.ref C_TooMany) = some false)
    (sb_NoValue_Unexplained : PySem.W.subIn K (.ref C_NoValue) (.ref C_Unexplained) = some false)
    (sb_NoValue_Written : PySem.W.subIn K (.ref C_NoValue) (.ref C_Written) = some false)
    {nm_Unexplained q_Unexplained : Str} {N_Unexplained : Addr} {bs_Unexplained : List Value} {sn_Unexplained : List Str} {sub_Unexplained : List Value} {ab_Unexplained : Bool} {col_Unexplained : Option Bool} {dd_Unexplained : Option Addr} {m0_Unexplained m1_Unexplained m2_Unexplained m3_Unexplained m5_Unexplained : Option Value} (xl_Unexplained : K.lookup C_Unexplained = some (excClassObj nm_Unexplained q_Unexplained C_Unexplained N_Unexplained bs_Unexplained [.ref C_CellError, .type "ValueError", .type "Exception", .type "BaseException", .type "object"] true sn_Unexplained sub_Unexplained ab_Unexplained col_Unexplained dd_Unexplained m0_Unexplained m1_Unexplained m2_Unexplained m3_Unexplained m5_Unexplained "ValueError.__new__"))
    (sa_Unexplained : PySem.W.findIn K (.ref C_Unexplained) "__setattr__" = some (some (.builtin "object.__setattr__")))
    (ga_Unexplained : PySem.W.findIn K (.ref C_Unexplained) "__getattribute__" = some (some (.builtin "BaseException.__getattribute__")))
    (gg_Unexplained : PySem.W.findIn K (.ref C_Unexplained) "__getattr__" = some none)
    (ca_Unexplained : PySem.W.findIn K (.ref C_Unexplained) "__class__" = some (some (.builtin "object.__class__")))
    (nb_Unexplained_fault : PySem.W.findIn K (.ref C_Unexplained) ("fault" : Str) = some none)
    {f_Unexplained : Addr} {oc_Unexplained kV_Unexplained dc_Unexplained pm_Unexplained cd_Unexplained ct_Unexplained : Value} {od_Unexplained an_Unexplained : Option Addr} {sl_Unexplained : Array (Option Value)} (in_Unexplained : PySem.W.findIn K (.ref C_Unexplained) "__init__" = some (some (.ref f_Unexplained)))
    (ty_Unexplained : PySem.W.typeIn K (.ref f_Unexplained) = some (.type "function"))
    (li_Unexplained : K.lookup f_Unexplained = some ⟨oc_Unexplained, od_Unexplained, .func (PySem.W.fnOf "__init__" ("Unexplained.__init__" : Str) (defArgs st_i_Unexplained) (defBody st_i_Unexplained) (defScope st_i_Unexplained) .none kV_Unexplained dc_Unexplained pm_Unexplained an_Unexplained cd_Unexplained ct_Unexplained), sl_Unexplained⟩)
    (ci_Unexplained : PySem.W.codeIn K cd_Unexplained ("Unexplained.__init__" : Str) = true)
    (kb_Unexplained_ValueError : PySem.W.kitOne K (.ref C_Unexplained) (.type "ValueError") = some true)
    (ki_Unexplained : PySem.W.keepIn K (.ref f_Unexplained) = true)
    (kc_Unexplained : PySem.W.keepIn K (.ref C_Unexplained) = true)
    (hd_Unexplained : PySem.W.hasDictIn K C_Unexplained = true)
    (mo_Unexplained : PySem.W.mroIn K C_Unexplained (.type "object") = some true)
    (ne_Unexplained_BadLine : (C_Unexplained == C_BadLine) = true → false = true)
    (ne_Unexplained_BadLog : (C_Unexplained == C_BadLog) = true → false = true)
    (ne_Unexplained_BadOperation : (C_Unexplained == C_BadOperation) = true → false = true)
    (ne_Unexplained_BadOrder : (C_Unexplained == C_BadOrder) = true → false = true)
    (ne_Unexplained_BadStamps : (C_Unexplained == C_BadStamps) = true → false = true)
    (ne_Unexplained_BadText : (C_Unexplained == C_BadText) = true → false = true)
    (ne_Unexplained_BadTolerance : (C_Unexplained == C_BadTolerance) = true → false = true)
    (ne_Unexplained_NoIndex : (C_Unexplained == C_NoIndex) = true → false = true)
    (ne_Unexplained_NoPosition : (C_Unexplained == C_NoPosition) = true → false = true)
    (ne_Unexplained_NoValue : (C_Unexplained == C_NoValue) = true → false = true)
    (ne_Unexplained_NothingToUndo : (C_Unexplained == C_NothingToUndo) = true → false = true)
    (ne_Unexplained_TooMany : (C_Unexplained == C_TooMany) = true → false = true)
    (ne_Unexplained_Written : (C_Unexplained == C_Written) = true → false = true)
    (sb_Unexplained_BadLine : PySem.W.subIn K (.ref C_Unexplained) (.ref C_BadLine) = some false)
    (sb_Unexplained_BadLog : PySem.W.subIn K (.ref C_Unexplained) (.ref C_BadLog) = some false)
    (sb_Unexplained_BadOperation : PySem.W.subIn K (.ref C_Unexplained) (.ref C_BadOperation) = some false)
    (sb_Unexplained_BadOrder : PySem.W.subIn K (.ref C_Unexplained) (.ref C_BadOrder) = some false)
    (sb_Unexplained_BadStamps : PySem.W.subIn K (.ref C_Unexplained) (.ref C_BadStamps) = some false)
    (sb_Unexplained_BadText : PySem.W.subIn K (.ref C_Unexplained) (.ref C_BadText) = some false)
    (sb_Unexplained_BadTolerance : PySem.W.subIn K (.ref C_Unexplained) (.ref C_BadTolerance) = some false)
    (sb_Unexplained_CellError : PySem.W.subIn K (.ref C_Unexplained) (.ref C_CellError) = some true)
    (sb_Unexplained_NoIndex : PySem.W.subIn K (.ref C_Unexplained) (.ref C_NoIndex) = some false)
    (sb_Unexplained_NoPosition : PySem.W.subIn K (.ref C_Unexplained) (.ref C_NoPosition) = some false)
    (sb_Unexplained_NoValue : PySem.W.subIn K (.ref C_Unexplained) (.ref C_NoValue) = some false)
    (sb_Unexplained_NothingToUndo : PySem.W.subIn K (.ref C_Unexplained) (.ref C_NothingToUndo) = some false)
    (sb_Unexplained_TooMany : PySem.W.subIn K (.ref C_Unexplained) (.ref C_TooMany) = some false)
    (sb_Unexplained_Unexplained : PySem.W.subIn K (.ref C_Unexplained) (.ref C_Unexplained) = some true)
    (sb_Unexplained_Written : PySem.W.subIn K (.ref C_Unexplained) (.ref C_Written) = some false)
    {nm_BadOrder q_BadOrder : Str} {N_BadOrder : Addr} {bs_BadOrder : List Value} {sn_BadOrder : List Str} {sub_BadOrder : List Value} {ab_BadOrder : Bool} {col_BadOrder : Option Bool} {dd_BadOrder : Option Addr} {m0_BadOrder m1_BadOrder m2_BadOrder m3_BadOrder m5_BadOrder : Option Value} (xl_BadOrder : K.lookup C_BadOrder = some (excClassObj nm_BadOrder q_BadOrder C_BadOrder N_BadOrder bs_BadOrder [.ref C_CellError, .type "ValueError", .type "Exception", .type "BaseException", .type "object"] true sn_BadOrder sub_BadOrder ab_BadOrder col_BadOrder dd_BadOrder m0_BadOrder m1_BadOrder m2_BadOrder m3_BadOrder m5_BadOrder "ValueError.__new__"))
    (sa_BadOrder : PySem.W.findIn K (.ref C_BadOrder) "__setattr__" = some (some (.builtin "object.__setattr__")))
    (ga_BadOrder : PySem.W.findIn K (.ref C_BadOrder) "__getattribute__" = some (some (.builtin "BaseException.__getattribute__")))
    (gg_BadOrder : PySem.W.findIn K (.ref C_BadOrder) "__getattr__" = some none)
    (ca_BadOrder : PySem.W.findIn K (.ref C_BadOrder) "__class__" = some (some (.builtin "object.__class__")))
    (nb_BadOrder_value : PySem.W.findIn K (.ref C_BadOrder) ("value" : Str) = some none)
    {f_BadOrder : Addr} {oc_BadOrder kV_BadOrder dc_BadOrder pm_BadOrder cd_BadOrder ct_BadOrder : Value} {od_BadOrder an_BadOrder : Option Addr} {sl_BadOrder : Array (Option Value)} (in_BadOrder : PySem.W.findIn K (.ref C_BadOrder) "__init__" = some (some (.ref f_BadOrder)))
    (ty_BadOrder : PySem.W.typeIn K (.ref f_BadOrder) = some (.type "function"))
    (li_BadOrder : K.lookup f_BadOrder = some ⟨oc_BadOrder, od_BadOrder, .func (PySem.W.fnOf "__init__" ("BadOrder.__init__" : Str) (defArgs st_i_BadOrder) (defBody st_i_BadOrder) (defScope st_i_BadOrder) .none kV_BadOrder dc_BadOrder pm_BadOrder an_BadOrder cd_BadOrder ct_BadOrder), sl_BadOrder⟩)
    (ci_BadOrder : PySem.W.codeIn K cd_BadOrder ("BadOrder.__init__" : Str) = true)
    (kb_BadOrder_ValueError : PySem.W.kitOne K (.ref C_BadOrder) (.type "ValueError") = some true)
    (ki_BadOrder : PySem.W.keepIn K (.ref f_BadOrder) = true)
    (kc_BadOrder : PySem.W.keepIn K (.ref C_BadOrder) = true)
    (hd_BadOrder : PySem.W.hasDictIn K C_BadOrder = true)
    (mo_BadOrder : PySem.W.mroIn K C_BadOrder (.type "object") = some true)
    (ne_BadOrder_BadLine : (C_BadOrder == C_BadLine) = true → false = true)
    (ne_BadOrder_BadLog : (C_BadOrder == C_BadLog) = true → false = true)
    (ne_BadOrder_BadOperation : (C_BadOrder == C_BadOperation) = true → false = true)
    (ne_BadOrder_BadStamps : (C_BadOrder == C_BadStamps) = true → false = true)
    (ne_BadOrder_BadText : (C_BadOrder == C_BadText) = true → false = true)
    (ne_BadOrder_BadTolerance : (C_BadOrder == C_BadTolerance) = true → false = true)
    (ne_BadOrder_NoIndex : (C_BadOrder == C_NoIndex) = true → false = true)
    (ne_BadOrder_NoPosition : (C_BadOrder == C_NoPosition) = true → false = true)
    (ne_BadOrder_NoValue : (C_BadOrder == C_NoValue) = true → false = true)
    (ne_BadOrder_NothingToUndo : (C_BadOrder == C_NothingToUndo) = true → false = true)
    (ne_BadOrder_TooMany : (C_BadOrder == C_TooMany) = true → false = true)
    (ne_BadOrder_Unexplained : (C_BadOrder == C_Unexplained) = true → false = true)
    (ne_BadOrder_Written : (C_BadOrder == C_Written) = true → false = true)
    (sb_BadOrder_BadLine : PySem.W.subIn K (.ref C_BadOrder) (.ref C_BadLine) = some false)
    (sb_BadOrder_BadLog : PySem.W.subIn K (.ref C_BadOrder) (.ref C_BadLog) = some false)
    (sb_BadOrder_BadOperation : PySem.W.subIn K (.ref C_BadOrder) (.ref C_BadOperation) = some false)
    (sb_BadOrder_BadOrder : PySem.W.subIn K (.ref C_BadOrder) (.ref C_BadOrder) = some true)
    (sb_BadOrder_BadStamps : PySem.W.subIn K (.ref C_BadOrder) (.ref C_BadStamps) = some false)
    (sb_BadOrder_BadText : PySem.W.subIn K (.ref C_BadOrder) (.ref C_BadText) = some false)
    (sb_BadOrder_BadTolerance : PySem.W.subIn K (.ref C_BadOrder) (.ref C_BadTolerance) = some false)
    (sb_BadOrder_CellError : PySem.W.subIn K (.ref C_BadOrder) (.ref C_CellError) = some true)
    (sb_BadOrder_NoIndex : PySem.W.subIn K (.ref C_BadOrder) (.ref C_NoIndex) = some false)
    (sb_BadOrder_NoPosition : PySem.W.subIn K (.ref C_BadOrder) (.ref C_NoPosition) = some false)
    (sb_BadOrder_NoValue : PySem.W.subIn K (.ref C_BadOrder) (.ref C_NoValue) = some false)
    (sb_BadOrder_NothingToUndo : PySem.W.subIn K (.ref C_BadOrder) (.ref C_NothingToUndo) = some false)
    (sb_BadOrder_TooMany : PySem.W.subIn K (.ref C_BadOrder) (.ref C_TooMany) = some false)
    (sb_BadOrder_Unexplained : PySem.W.subIn K (.ref C_BadOrder) (.ref C_Unexplained) = some false)
    (sb_BadOrder_Written : PySem.W.subIn K (.ref C_BadOrder) (.ref C_Written) = some false)
    {nm_NoPosition q_NoPosition : Str} {N_NoPosition : Addr} {bs_NoPosition : List Value} {sn_NoPosition : List Str} {sub_NoPosition : List Value} {ab_NoPosition : Bool} {col_NoPosition : Option Bool} {dd_NoPosition : Option Addr} {m0_NoPosition m1_NoPosition m2_NoPosition m3_NoPosition m5_NoPosition : Option Value} (xl_NoPosition : K.lookup C_NoPosition = some (excClassObj nm_NoPosition q_NoPosition C_NoPosition N_NoPosition bs_NoPosition [.ref C_CellError, .type "ValueError", .type "Exception", .type "BaseException", .type "object"] true sn_NoPosition sub_NoPosition ab_NoPosition col_NoPosition dd_NoPosition m0_NoPosition m1_NoPosition m2_NoPosition m3_NoPosition m5_NoPosition "ValueError.__new__"))
    (sa_NoPosition : PySem.W.findIn K (.ref C_NoPosition) "__setattr__" = some (some (.builtin "object.__setattr__")))
    (ga_NoPosition : PySem.W.findIn K (.ref C_NoPosition) "__getattribute__" = some (some (.builtin "BaseException.__getattribute__")))
    (gg_NoPosition : PySem.W.findIn K (.ref C_NoPosition) "__getattr__" = some none)
    (ca_NoPosition : PySem.W.findIn K (.ref C_NoPosition) "__class__" = some (some (.builtin "object.__class__")))
    (nb_NoPosition_position : PySem.W.findIn K (.ref C_NoPosition) ("position" : Str) = some none)
    {f_NoPosition : Addr} {oc_NoPosition kV_NoPosition dc_NoPosition pm_NoPosition cd_NoPosition ct_NoPosition : Value} {od_NoPosition an_NoPosition : Option Addr} {sl_NoPosition : Array (Option Value)} (in_NoPosition : PySem.W.findIn K (.ref C_NoPosition) "__init__" = some (some (.ref f_NoPosition)))
    (ty_NoPosition : PySem.W.typeIn K (.ref f_NoPosition) = some (.type "function"))
    (li_NoPosition : K.lookup f_NoPosition = some ⟨oc_NoPosition, od_NoPosition, .func (PySem.W.fnOf "__init__" ("NoPosition.__init__" : Str) (defArgs st_i_NoPosition) (defBody st_i_NoPosition) (defScope st_i_NoPosition) .none kV_NoPosition dc_NoPosition pm_NoPosition an_NoPosition cd_NoPosition ct_NoPosition), sl_NoPosition⟩)
    (ci_NoPosition : PySem.W.codeIn K cd_NoPosition ("NoPosition.__init__" : Str) = true)
    (kb_NoPosition_ValueError : PySem.W.kitOne K (.ref C_NoPosition) (.type "ValueError") = some true)
    (ki_NoPosition : PySem.W.keepIn K (.ref f_NoPosition) = true)
    (kc_NoPosition : PySem.W.keepIn K (.ref C_NoPosition) = true)
    (hd_NoPosition : PySem.W.hasDictIn K C_NoPosition = true)
    (mo_NoPosition : PySem.W.mroIn K C_NoPosition (.type "object") = some true)
    (ne_NoPosition_BadLine : (C_NoPosition == C_BadLine) = true → false = true)
    (ne_NoPosition_BadLog : (C_NoPosition == C_BadLog) = true → false = true)
    (ne_NoPosition_BadOperation : (C_NoPosition == C_BadOperation) = true → false = true)
    (ne_NoPosition_BadOrder : (C_NoPosition == C_BadOrder) = true → false = true)
    (ne_NoPosition_BadStamps : (C_NoPosition == C_BadStamps) = true → false = true)
    (ne_NoPosition_BadText : (C_NoPosition == C_BadText) = true → false = true)
    (ne_NoPosition_BadTolerance : (C_NoPosition == C_BadTolerance) = true → false = true)
    (ne_NoPosition_NoIndex : (C_NoPosition == C_NoIndex) = true → false = true)
    (ne_NoPosition_NoValue : (C_NoPosition == C_NoValue) = true → false = true)
    (ne_NoPosition_NothingToUndo : (C_NoPosition == C_NothingToUndo) = true → false = true)
    (ne_NoPosition_TooMany : (C_NoPosition == C_TooMany) = true → false = true)
    (ne_NoPosition_Unexplained : (C_NoPosition == C_Unexplained) = true → false = true)
    (ne_NoPosition_Written : (C_NoPosition == C_Written) = true → false = true)
    (sb_NoPosition_BadLine : PySem.W.subIn K (.ref C_NoPosition) (.ref C_BadLine) = some false)
    (sb_NoPosition_BadLog : PySem.W.subIn K (.ref C_NoPosition) (.ref C_BadLog) = some false)
    (sb_NoPosition_BadOperation : PySem.W.subIn K (.ref C_NoPosition) (.ref C_BadOperation) = some false)
    (sb_NoPosition_BadOrder : PySem.W.subIn K (.ref C_NoPosition) (.ref C_BadOrder) = some false)
    (sb_NoPosition_BadStamps : PySem.W.subIn K (.ref C_NoPosition) (.ref C_BadStamps) = some false)
    (sb_NoPosition_BadText : PySem.W.subIn K (.ref C_NoPosition) (.ref C_BadText) = some false)
    (sb_NoPosition_BadTolerance : PySem.W.subIn K (.ref C_NoPosition) (.ref C_BadTolerance) = some false)
    (sb_NoPosition_CellError : PySem.W.subIn K (.ref C_NoPosition) (.ref C_CellError) = some true)
    (sb_NoPosition_NoIndex : PySem.W.subIn K (.ref C_NoPosition) (.ref C_NoIndex) = some false)
    (sb_NoPosition_NoPosition : PySem.W.subIn K (.ref C_NoPosition) (.ref C_NoPosition) = some true)
    (sb_NoPosition_NoValue : PySem.W.subIn K (.ref C_NoPosition) (.ref C_NoValue) = some false)
    (sb_NoPosition_NothingToUndo : PySem.W.subIn K (.ref C_NoPosition) (.ref C_NothingToUndo) = some false)
    (sb_NoPosition_TooMany : PySem.W.subIn K (.ref C_NoPosition) (.ref C_TooMany) = some false)
    (sb_NoPosition_Unexplained : PySem.W.subIn K (.ref C_NoPosition) (.ref C_Unexplained) = some false)
    (sb_NoPosition_Written : PySem.W.subIn K (.ref C_NoPosition) (.ref C_Written) = some false)
    {nm_BadStamps q_BadStamps : Str} {N_BadStamps : Addr} {bs_BadStamps : List Value} {sn_BadStamps : List Str} {sub_BadStamps : List Value} {ab_BadStamps : Bool} {col_BadStamps : Option Bool} {dd_BadStamps : Option Addr} {m0_BadStamps m1_BadStamps m2_BadStamps m3_BadStamps m5_BadStamps : Option Value} (xl_BadStamps : K.lookup C_BadStamps = some (excClassObj nm_BadStamps q_BadStamps C_BadStamps N_BadStamps bs_BadStamps [.ref C_CellError, .type "ValueError", .type "Exception", .type "BaseException", .type "object"] true sn_BadStamps sub_BadStamps ab_BadStamps col_BadStamps dd_BadStamps m0_BadStamps m1_BadStamps m2_BadStamps m3_BadStamps m5_BadStamps "ValueError.__new__"))
    (sa_BadStamps : PySem.W.findIn K (.ref C_BadStamps) "__setattr__" = some (some (.builtin "object.__setattr__")))
    (ga_BadStamps : PySem.W.findIn K (.ref C_BadStamps) "__getattribute__" = some (some (.builtin "BaseException.__getattribute__")))
    (gg_BadStamps : PySem.W.findIn K (.ref C_BadStamps) "__getattr__" = some none)
    (ca_BadStamps : PySem.W.findIn K (.ref C_BadStamps) "__class__" = some (some (.builtin "object.__class__")))
    (nb_BadStamps_begin : PySem.W.findIn K (.ref C_BadStamps) ("begin" : Str) = some none)
    (nb_BadStamps_end : PySem.W.findIn K (.ref C_BadStamps) ("end" : Str) = some none)
    {f_BadStamps : Addr} {oc_BadStamps kV_BadStamps dc_BadStamps pm_BadStamps cd_BadStamps ct_BadStamps : Value} {od_BadStamps an_BadStamps : Option Addr} {sl_BadStamps : Array (Option Value)} (in_BadStamps : PySem.W.findIn K (.ref C_BadStamps) "__init__" = some (some (.ref f_BadStamps)))
    (ty_BadStamps : PySem.W.typeIn K (.ref f_BadStamps) = some (.type "function"))
    (li_BadStamps : K.lookup f_BadStamps = some ⟨oc_BadStamps, od_BadStamps, .func (PySem.W.fnOf "__init__" ("BadStamps.__init__" : Str) (defArgs st_i_BadStamps) (defBody st_i_BadStamps) (defScope st_i_BadStamps) .none kV_BadStamps dc_BadStamps pm_BadStamps an_BadStamps cd_BadStamps ct_BadStamps), sl_BadStamps⟩)
    (ci_BadStamps : PySem.W.codeIn K cd_BadStamps ("BadStamps.__init__" : Str) = true)
    (kb_BadStamps_ValueError : PySem.W.kitOne K (.ref C_BadStamps) (.type "ValueError") = some true)
    (ki_BadStamps : PySem.W.keepIn K (.ref f_BadStamps) = true)
    (kc_BadStamps : PySem.W.keepIn K (.ref C_BadStamps) = true)
    (hd_BadStamps : PySem.W.hasDictIn K C_BadStamps = true)
    (mo_BadStamps : PySem.W.mroIn K C_BadStamps (.type "object") = some true)
    (ne_BadStamps_BadLine : (C_BadStamps == C_BadLine) = true → false = true)
    (ne_BadStamps_BadLog : (C_BadStamps == C_BadLog) = true → false = true)
    (ne_BadStamps_BadOperation : (C_BadStamps == C_BadOperation) = true → false = true)
    (ne_BadStamps_BadOrder : (C_BadStamps == C_BadOrder) = true → false = true)
    (ne_BadStamps_BadText : (C_BadStamps == C_BadText) = true → false = true)
    (ne_BadStamps_BadTolerance : (C_BadStamps == C_BadTolerance) = true → false = true)
    (ne_BadStamps_NoIndex : (C_BadStamps == C_NoIndex) = true → false = true)
    (ne_BadStamps_NoPosition : (C_BadStamps == C_NoPosition) = true → false = true)
    (ne_BadStamps_NoValue : (C_BadStamps == C_NoValue) = true → false = true)
    (ne_BadStamps_NothingToUndo : (C_BadStamps == C_NothingToUndo) = true → false = true)
    (ne_BadStamps_TooMany : (C_BadStamps == C_TooMany) = true → false = true)
    (ne_BadStamps_Unexplained : (C_BadStamps == C_Unexplained) = true → false = true)
    (ne_BadStamps_Written : (C_BadStamps == C_Written) = true → false = true)
    (sb_BadStamps_BadLine : PySem.W.subIn K (.ref C_BadStamps) (.ref C_BadLine) = some false)
    (sb_BadStamps_BadLog : PySem.W.subIn K (.ref C_BadStamps) (.ref C_BadLog) = some false)
    (sb_BadStamps_BadOperation : PySem.W.subIn K (.ref C_BadStamps) (.ref C_BadOperation) = some false)
    (sb_BadStamps_BadOrder : PySem.W.subIn K (.ref C_BadStamps) (.ref C_BadOrder) = some false)
    (sb_BadStamps_BadStamps : PySem.W.subIn K (.ref C_BadStamps) (.ref C_BadStamps) = some true)
    (sb_BadStamps_BadText : PySem.W.subIn K (.ref C_BadStamps) (.ref C_BadText) = some false)
    (sb_BadStamps_BadTolerance : PySem.W.subIn K (.ref C_BadStamps) (.ref C_BadTolerance) = some false)
    (sb_BadStamps_CellError : PySem.W.subIn K (.ref C_BadStamps) (.ref C_CellError) = some true)
    (sb_BadStamps_NoIndex : PySem.W.subIn K (.ref C_BadStamps) (.ref C_NoIndex) = some false)
    (sb_BadStamps_NoPosition : PySem.W.subIn K (.ref C_BadStamps) (.ref C_NoPosition) = some false)
    (sb_BadStamps_NoValue : PySem.W.subIn K (.ref C_BadStamps) (.ref C_NoValue) = some false)
    (sb_BadStamps_NothingToUndo : PySem.W.subIn K (.ref C_BadStamps) (.ref C_NothingToUndo) = some false)
    (sb_BadStamps_TooMany : PySem.W.subIn K (.ref C_BadStamps) (.ref C_TooMany) = some false)
    (sb_BadStamps_Unexplained : PySem.W.subIn K (.ref C_BadStamps) (.ref C_Unexplained) = some false)
    (sb_BadStamps_Written : PySem.W.subIn K (.ref C_BadStamps) (.ref C_Written) = some false)
    {nm_BadLog q_BadLog : Str} {N_BadLog : Addr} {bs_BadLog : List Value} {sn_BadLog : List Str} {sub_BadLog : List Value} {ab_BadLog : Bool} {col_BadLog : Option Bool} {dd_BadLog : Option Addr} {m0_BadLog m1_BadLog m2_BadLog m3_BadLog m5_BadLog : Option Value} (xl_BadLog : K.lookup C_BadLog = some (excClassObj nm_BadLog q_BadLog C_BadLog N_BadLog bs_BadLog [.ref C_CellError, .type "ValueError", .type "Exception", .type "BaseException", .type "object"] true sn_BadLog sub_BadLog ab_BadLog col_BadLog dd_BadLog m0_BadLog m1_BadLog m2_BadLog m3_BadLog m5_BadLog "ValueError.__new__"))
    (sa_BadLog : PySem.W.findIn K (.ref C_BadLog) "__setattr__" = some (some (.builtin "object.__setattr__")))
    (ga_BadLog : PySem.W.findIn K (.ref C_BadLog) "__getattribute__" = some (some (.builtin "BaseException.__getattribute__")))
    (gg_BadLog : PySem.W.findIn K (.ref C_BadLog) "__getattr__" = some none)
    (ca_BadLog : PySem.W.findIn K (.ref C_BadLog) "__class__" = some (some (.builtin "object.__class__")))
    (nb_BadLog_value : PySem.W.findIn K (.ref C_BadLog) ("value" : Str) = some none)
    {f_BadLog : Addr} {oc_BadLog kV_BadLog dc_BadLog pm_BadLog cd_BadLog ct_BadLog : Value} {od_BadLog an_BadLog : Option Addr} {sl_BadLog : Array (Option Value)} (in_BadLog : PySem.W.findIn K (.ref C_BadLog) "__init__" = some (some (.ref f_BadLog)))
    (ty_BadLog : PySem.W.typeIn K (.ref f_BadLog) = some (.type "function"))
    (li_BadLog : K.lookup f_BadLog = some ⟨oc_BadLog, od_BadLog, .func (PySem.W.fnOf "__init__" ("BadLog.__init__" : Str) (defArgs st_i_BadLog) (defBody st_i_BadLog) (defScope st_i_BadLog) .none kV_BadLog dc_BadLog pm_BadLog an_BadLog cd_BadLog ct_BadLog), sl_BadLog⟩)
    (ci_BadLog : PySem.W.codeIn K cd_BadLog ("BadLog.__init__" : Str) = true)
    (kb_BadLog_ValueError : PySem.W.kitOne K (.ref C_BadLog) (.type "ValueError") = some true)
    (ki_BadLog : PySem.W.keepIn K (.ref f_BadLog) = true)
    (kc_BadLog : PySem.W.keepIn K (.ref C_BadLog) = true)
    (hd_BadLog : PySem.W.hasDictIn K C_BadLog = true)
    (mo_BadLog : PySem.W.mroIn K C_BadLog (.type "object") = some true)
    (ne_BadLog_BadLine : (C_BadLog == C_BadLine) = true → false = true)
    (ne_BadLog_BadOperation : (C_BadLog == C_BadOperation) = true → false = true)
    (ne_BadLog_BadOrder : (C_BadLog == C_BadOrder) = true → false = true)
    (ne_BadLog_BadStamps : (C_BadLog == C_BadStamps) = true → false = true)
    (ne_BadLog_BadText : (C_BadLog == C_BadText) = true → false = true)
    (ne_BadLog_BadTolerance : (C_BadLog == C_BadTolerance) = true → false = true)
    (ne_BadLog_NoIndex : (C_BadLog == C_NoIndex) = true → false = true)
    (ne_BadLog_NoPosition : (C_BadLog == C_NoPosition) = true → false = true)
    (ne_BadLog_NoValue : (C_BadLog == C_NoValue) = true → false = true)
    (ne_BadLog_NothingToUndo : (C_BadLog == C_NothingToUndo) = true → false = true)
    (ne_BadLog_TooMany : (C_BadLog == C_TooMany) = true → false = true)
    (ne_BadLog_Unexplained : (C_BadLog == C_Unexplained) = true → false = true)
    (ne_BadLog_Written : (C_BadLog == C_Written) = true → false = true)
    (sb_BadLog_BadLine : PySem.W.subIn K (.ref C_BadLog) (.ref C_BadLine) = some false)
    (sb_BadLog_BadLog : PySem.W.subIn K (.ref C_BadLog) (.ref C_BadLog) = some true)
    (sb_BadLog_BadOperation : PySem.W.subIn K (.ref C_BadLog) (.ref C_BadOperation) = some false)
    (sb_BadLog_BadOrder : PySem.W.subIn K (.ref C_BadLog) (.ref C_BadOrder) = some false)
    (sb_BadLog_BadStamps : PySem.W.subIn K (.ref C_BadLog) (.ref C_BadStamps) = some false)
    (sb_BadLog_BadText : PySem.W.subIn K (.ref C_BadLog) (.ref C_BadText) = some false)
    (sb_BadLog_BadTolerance : PySem.W.subIn K (.ref C_BadLog) (.ref C_BadTolerance) = some false)
    (sb_BadLog_CellError : PySem.W.subIn K (.ref C_BadLog) (.ref C_CellError) = some true)
    (sb_BadLog_NoIndex : PySem.W.subIn K (.ref C_BadLog) (.ref C_NoIndex) = some false)
    (sb_BadLog_NoPosition : PySem.W.subIn K (.ref C_BadLog) (.ref C_NoPosition) = some false)
    (sb_BadLog_NoValue : PySem.W.subIn K (.ref C_BadLog) (.ref C_NoValue) = some false)
    (sb_BadLog_NothingToUndo : PySem.W.subIn K (.ref C_BadLog) (.ref C_NothingToUndo) = some false)
    (sb_BadLog_TooMany : PySem.W.subIn K (.ref C_BadLog) (.ref C_TooMany) = some false)
    (sb_BadLog_Unexplained : PySem.W.subIn K (.ref C_BadLog) (.ref C_Unexplained) = some false)
    (sb_BadLog_Written : PySem.W.subIn K (.ref C_BadLog) (.ref C_Written) = some false)
    {nm_BadTolerance q_BadTolerance : Str} {N_BadTolerance : Addr} {bs_BadTolerance : List Value} {sn_BadTolerance : List Str} {sub_BadTolerance : List Value} {ab_BadTolerance : Bool} {col_BadTolerance : Option Bool} {dd_BadTolerance : Option Addr} {m0_BadTolerance m1_BadTolerance m2_BadTolerance m3_BadTolerance m5_BadTolerance : Option Value} (xl_BadTolerance : K.lookup C_BadTolerance = some (excClassObj nm_BadTolerance q_BadTolerance C_BadTolerance N_BadTolerance bs_BadTolerance [.ref C_CellError, .type "ValueError", .type "Exception", .type "BaseException", .type "object"] true sn_BadTolerance sub_BadTolerance ab_BadTolerance col_BadTolerance dd_BadTolerance m0_BadTolerance m1_BadTolerance m2_BadTolerance m3_BadTolerance m5_BadTolerance "ValueError.__new__"))
    (sa_BadTolerance : PySem.W.findIn K (.ref C_BadTolerance) "__setattr__" = some (some (.builtin "object.__setattr__")))
    (ga_BadTolerance : PySem.W.findIn K (.ref C_BadTolerance) "__getattribute__" = some (some (.builtin "BaseException.__getattribute__")))
    (gg_BadTolerance : PySem.W.findIn K (.ref C_BadTolerance) "__getattr__" = some none)
    (ca_BadTolerance : PySem.W.findIn K (.ref C_BadTolerance) "__class__" = some (some (.builtin "object.__class__")))
    (nb_BadTolerance_value : PySem.W.findIn K (.ref C_BadTolerance) ("value" : Str) = some none)
    {f_BadTolerance : Addr} {oc_BadTolerance kV_BadTolerance dc_BadTolerance pm_BadTolerance cd_BadTolerance ct_BadTolerance : Value} {od_BadTolerance an_BadTolerance : Option Addr} {sl_BadTolerance : Array (Option Value)} (in_BadTolerance : PySem.W.findIn K (.ref C_BadTolerance) "__init__" = some (some (.ref f_BadTolerance)))
    (ty_BadTolerance : PySem.W.typeIn K (.ref f_BadTolerance) = some (.type "function"))
    (li_BadTolerance : K.lookup f_BadTolerance = some ⟨oc_BadTolerance, od_BadTolerance, .func (PySem.W.fnOf "__init__" ("BadTolerance.__init__" : Str) (defArgs st_i_BadTolerance) (defBody st_i_BadTolerance) (defScope st_i_BadTolerance) .none kV_BadTolerance dc_BadTolerance pm_BadTolerance an_BadTolerance cd_BadTolerance ct_BadTolerance), sl_BadTolerance⟩)
    (ci_BadTolerance : PySem.W.codeIn K cd_BadTolerance ("BadTolerance.__init__" : Str) = true)
    (kb_BadTolerance_ValueError : PySem.W.kitOne K (.ref C_BadTolerance) (.type "ValueError") = some true)
    (ki_BadTolerance : PySem.W.keepIn K (.ref f_BadTolerance) = true)
    (kc_BadTolerance : PySem.W.keepIn K (.ref C_BadTolerance) = true)
    (hd_BadTolerance : PySem.W.hasDictIn K C_BadTolerance = true)
    (mo_BadTolerance : PySem.W.mroIn K C_BadTolerance (.type "object") = some true)
    (ne_BadTolerance_BadLine : (C_BadTolerance == C_BadLine) = true → false = true)
    (ne_BadTolerance_BadLog : (C_BadTolerance == C_BadLog) = true → false = true)
    (ne_BadTolerance_BadOperation : (C_BadTolerance == C_BadOperation) = true → false = true)
    (ne_BadTolerance_BadOrder : (C_BadTolerance == C_BadOrder) = true → false = true)
    (ne_BadTolerance_BadStamps : (C_BadTolerance == C_BadStamps) = true → false = true)
    (ne_BadTolerance_BadText : (C_BadTolerance == C_BadText) = true → false = true)
    (ne_BadTolerance_NoIndex : (C_BadTolerance == C_NoIndex) = true → false = true)
    (ne_BadTolerance_NoPosition : (C_BadTolerance == C_NoPosition) = true → false = true)
    (ne_BadTolerance_NoValue : (C_BadTolerance == C_NoValue) = true → false = true)
    (ne_BadTolerance_NothingToUndo : (C_BadTolerance == C_NothingToUndo) = true → false = true)
    (ne_BadTolerance_TooMany : (C_BadTolerance == C_TooMany) = true → false = true)
    (ne_BadTolerance_Unexplained : (C_BadTolerance == C_Unexplained) = true → false = true)
    (ne_BadTolerance_Written : (C_BadTolerance == C_Written) = true → false = true)
    (sb_BadTolerance_BadLine : PySem.W.subIn K (.ref C_BadTolerance) (.ref C_BadLine) = some false)
    (sb_BadTolerance_BadLog : PySem.W.subIn K (.ref C_BadTolerance) (.ref C_BadLog) = some false)
    (sb_BadTolerance_BadOperation : PySem.W.subIn K (.ref C_BadTolerance) (.ref C_BadOperation) = some false)
    (sb_BadTolerance_BadOrder : PySem.W.subIn K (.ref C_BadTolerance) (.ref C_BadOrder) = some false)
    (sb_BadTolerance_BadStamps : PySem.W.subIn K (.ref C_BadTolerance) (.ref C_BadStamps) = some false)
    (sb_BadTolerance_BadText : PySem.W.subIn K (.ref C_BadTolerance) (.ref C_BadText) = some false)
    (sb_BadTolerance_BadTolerance : PySem.W.subIn K (.ref C_BadTolerance) (.ref C_BadTolerance) = some true)
    (sb_BadTolerance_CellError : PySem.W.subIn K (.ref C_BadTolerance) (.ref C_CellError) = some true)
    (sb_BadTolerance_NoIndex : PySem.W.subIn K (.ref C_BadTolerance) (.ref C_NoIndex) = some false)
    (sb_BadTolerance_NoPosition : PySem.W.subIn K (.ref C_BadTolerance) (.ref C_NoPosition) = some false)
    (sb_BadTolerance_NoValue : PySem.W.subIn K (.ref C_BadTolerance) (.ref C_NoValue) = some false)
    (sb_BadTolerance_NothingToUndo : PySem.W.subIn K (.ref C_BadTolerance) (.ref C_NothingToUndo) = some false)
    (sb_BadTolerance_TooMany : PySem.W.subIn K (.ref C_BadTolerance) (.ref C_TooMany) = some false)
    (sb_BadTolerance_Unexplained : PySem.W.subIn K (.ref C_BadTolerance) (.ref C_Unexplained) = some false)
    (sb_BadTolerance_Written : PySem.W.subIn K (.ref C_BadTolerance) (.ref C_Written) = some false)
    {nm_BadOperation q_BadOperation : Str} {N_BadOperation : Addr} {bs_BadOperation : List Value} {sn_BadOperation : List Str} {sub_BadOperation : List Value} {ab_BadOperation : Bool} {col_BadOperation : Option Bool} {dd_BadOperation : Option Addr} {m0_BadOperation m1_BadOperation m2_BadOperation m3_BadOperation m5_BadOperation : Option Value} (xl_BadOperation : K.lookup C_BadOperation = some (excClassObj nm_BadOperation q_BadOperation C_BadOperation N_BadOperation bs_BadOperation [.ref C_CellError, .type "ValueError", .type "Exception", .type "BaseException", .type "object"] true sn_BadOperation sub_BadOperation ab_BadOperation col_BadOperation dd_BadOperation m0_BadOperation m1_BadOperation m2_BadOperation m3_BadOperation m5_BadOperation "ValueError.__new__"))
    (sa_BadOperation : PySem.W.findIn K (.ref C_BadOperation) "__setattr__" = some (some (.builtin "object.__setattr__")))
    (ga_BadOperation : PySem.W.findIn K (.ref C_BadOperation) "__getattribute__" = some (some (.builtin "BaseException.__getattribute__")))
    (gg_BadOperation : PySem.W.findIn K (.ref C_BadOperation) "__getattr__" = some none)
    (ca_BadOperation : PySem.W.findIn K (.ref C_BadOperation) "__class__" = some (some (.builtin "object.__class__")))
    (nb_BadOperation_operation : PySem.W.findIn K (.ref C_BadOperation) ("operation" : Str) = some none)
    {f_BadOperation : Addr} {oc_BadOperation kV_BadOperation dc_BadOperation pm_BadOperation cd_BadOperation ct_BadOperation : Value} {od_BadOperation an_BadOperation : Option Addr} {sl_BadOperation : Array (Option Value)} (in_BadOperation : PySem.W.findIn K (.ref C_BadOperation) "__init__" = some (some (.ref f_BadOperation)))
    (ty_BadOperation : PySem.W.typeIn K (.ref f_BadOperation) = some (.type "function"))
    (li_BadOperation : K.lookup f_BadOperation = some ⟨oc_BadOperation, od_BadOperation, .func (PySem.W.fnOf "__init__" ("BadOperation.__init__" : Str) (defArgs st_i_BadOperation) (defBody st_i_BadOperation) (defScope st_i_BadOperation) .none kV_BadOperation dc_BadOperation pm_BadOperation an_BadOperation cd_BadOperation ct_BadOperation), sl_BadOperation⟩)
    (ci_BadOperation : PySem.W.codeIn K cd_BadOperation ("BadOperation.__init__" : Str) = true)
    (kb_BadOperation_ValueError : PySem.W.kitOne K (.ref C_BadOperation) (.type "ValueError") = some true)
    (ki_BadOperation : PySem.W.keepIn K (.ref f_BadOperation) = true)
    (kc_BadOperation : PySem.W.keepIn K (.ref C_BadOperation) = true)
    (hd_BadOperation : PySem.W.hasDictIn K C_BadOperation = true)
    (mo_BadOperation : PySem.W.mroIn K C_BadOperation (.type "object") = some true)
    (ne_BadOperation_BadLine : (C_BadOperation == C_BadLine) = true → false = true)
    (ne_BadOperation_BadLog : (C_BadOperation == C_BadLog) = true → false = true)
    (ne_BadOperation_BadOrder : (C_BadOperation == C_BadOrder) = true → false = true)
    (ne_BadOperation_BadStamps : (C_BadOperation == C_BadStamps) = true → false = true)
    (ne_BadOperation_BadText : (C_BadOperation == C_BadText) = true → false = true)
    (ne_BadOperation_BadTolerance : (C_BadOperation == C_BadTolerance) = true → false = true)
    (ne_BadOperation_NoIndex : (C_BadOperation == C_NoIndex) = true → false = true)
    (ne_BadOperation_NoPosition : (C_BadOperation == C_NoPosition) = true → false = true)
    (ne_BadOperation_NoValue : (C_BadOperation == C_NoValue) = true → false = true)
    (ne_BadOperation_NothingToUndo : (C_BadOperation == C_NothingToUndo) = true → false = true)
    (ne_BadOperation_TooMany : (C_BadOperation == C_TooMany) = true → false = true)
    (ne_BadOperation_Unexplained : (C_BadOperation == C_Unexplained) = true → false = true)
    (ne_BadOperation_Written : (C_BadOperation == C_Written) = true → false = true)
    (sb_BadOperation_BadLine : PySem.W.subIn K (.ref C_BadOperation) (.ref C_BadLine) = some false)
    (sb_BadOperation_BadLog : PySem.W.subIn K (.ref C_BadOperation) (.ref C_BadLog) = some false)
    (sb_BadOperation_BadOperation : PySem.W.subIn K (.ref C_BadOperation) (.ref C_BadOperation) = some true)
    (sb_BadOperation_BadOrder : PySem.W.subIn K (.ref C_BadOperation) (.ref C_BadOrder) = some false)
    (sb_BadOperation_BadStamps : PySem.W.subIn K (.ref C_BadOperation) (.ref C_BadStamps) = some false)
    (sb_BadOperation_BadText : PySem.W.subIn K (.ref C_BadOperation) (.ref C_BadText) = some false)
    (sb_BadOperation_BadTolerance : PySem.W.subIn K (.ref C_BadOperation) (.ref C_BadTolerance) = some false)
    (sb_BadOperation_CellError : PySem.W.subIn K (.ref C_BadOperation) (.ref C_CellError) = some true)
    (sb_BadOperation_NoIndex : PySem.W.subIn K (.ref C_BadOperation) (.ref C_NoIndex) = some false)
    (sb_BadOperation_NoPosition : PySem.W.subIn K (.ref C_BadOperation) (.ref C_NoPosition) = some false)
    (sb_BadOperation_NoValue : PySem.W.subIn K (.ref C_BadOperation) (.ref C_NoValue) = some false)
    (sb_BadOperation_NothingToUndo : PySem.W.subIn K (.ref C_BadOperation) (.ref C_NothingToUndo) = some false)
    (sb_BadOperation_TooMany : PySem.W.subIn K (.ref C_BadOperation) (.ref C_TooMany) = some false)
    (sb_BadOperation_Unexplained : PySem.W.subIn K (.ref C_BadOperation) (.ref C_Unexplained) = some false)
    (sb_BadOperation_Written : PySem.W.subIn K (.ref C_BadOperation) (.ref C_Written) = some false)
    {nm_Written q_Written : Str} {N_Written : Addr} {bs_Written : List Value} {sn_Written : List Str} {sub_Written : List Value} {ab_Written : Bool} {col_Written : Option Bool} {dd_Written : Option Addr} {m0_Written m1_Written m2_Written m3_Written m5_Written : Option Value} (xl_Written : K.lookup C_Written = some (excClassObj nm_Written q_Written C_Written N_Written bs_Written [.ref C_CellError, .type "ValueError", .type "Exception", .type "BaseException", .type "object"] true sn_Written sub_Written ab_Written col_Written dd_Written m0_Written m1_Written m2_Written m3_Written m5_Written "ValueError.__new__"))
    (sa_Written : PySem.W.findIn K (.ref C_Written) "__setattr__" = some (some (.builtin "object.__setattr__")))
    (ga_Written : PySem.W.findIn K (.ref C_Written) "__getattribute__" = some (some (.builtin "BaseException.__getattribute__")))
    (gg_Written : PySem.W.findIn K (.ref C_Written) "__getattr__" = some none)
    (ca_Written : PySem.W.findIn K (.ref C_Written) "__class__" = some (some (.builtin "object.__class__")))
    (nb_Written_value : PySem.W.findIn K (.ref C_Written) ("value" : Str) = some none)
    {f_Written : Addr} {oc_Written kV_Written dc_Written pm_Written cd_Written ct_Written : Value} {od_Written an_Written : Option Addr} {sl_Written : Array (Option Value)} (in_Written : PySem.W.findIn K (.ref C_Written) "__init__" = some (some (.ref f_Written)))
    (ty_Written : PySem.W.typeIn K (.ref f_Written) = some (.type "function"))
    (li_Written : K.lookup f_Written = some ⟨oc_Written, od_Written, .func (PySem.W.fnOf "__init__" ("Written.__init__" : Str) (defArgs st_i_Written) (defBody st_i_Written) (defScope st_i_Written) .none kV_Written dc_Written pm_Written an_Written cd_Written ct_Written), sl_Written⟩)
    (ci_Written : PySem.W.codeIn K cd_Written ("Written.__init__" : Str) = true)
    (kb_Written_ValueError : PySem.W.kitOne K (.ref C_Written) (.type "ValueError") = some true)
    (ki_Written : PySem.W.keepIn K (.ref f_Written) = true)
    (kc_Written : PySem.W.keepIn K (.ref C_Written) = true)
    (hd_Written : PySem.W.hasDictIn K C_Written = true)
    (mo_Written : PySem.W.mroIn K C_Written (.type "object") = some true)
    (ne_Written_BadLine : (C_Written == C_BadLine) = true → false = true)
    (ne_Written_BadLog : (C_Written == C_BadLog) = true → false = true)
    (ne_Written_BadOperation : (C_Written == C_BadOperation) = true → false = true)
    (ne_Written_BadOrder : (C_Written == C_BadOrder) = true → false = true)
    (ne_Written_BadStamps : (C_Written == C_BadStamps) = true → false = true)
    (ne_Written_BadText : (C_Written == C_BadText) = true → false = true)
    (ne_Written_BadTolerance : (C_Written == C_BadTolerance) = true → false = true)
    (ne_Written_NoIndex : (C_Written == C_NoIndex) = true → false = true)
    (ne_Written_NoPosition : (C_Written == C_NoPosition) = true → false = true)
    (ne_Written_NoValue : (C_Written == C_NoValue) = true → false = true)
    (ne_Written_NothingToUndo : (C_Written == C_NothingToUndo) = true → false = true)
    (ne_Written_TooMany : (C_Written == C_TooMany) = true → false = true)
    (ne_Written_Unexplained : (C_Written == C_Unexplained) = true → false = true)
    (sb_Written_BadLine : PySem.W.subIn K (.ref C_Written) (.ref C_BadLine) = some false)
    (sb_Written_BadLog : PySem.W.subIn K (.ref C_Written) (.ref C_BadLog) = some false)
    (sb_Written_BadOperation : PySem.W.subIn K (.ref C_Written) (.ref C_BadOperation) = some false)
    (sb_Written_BadOrder : PySem.W.subIn K (.ref C_Written) (.ref C_BadOrder) = some false)
    (sb_Written_BadStamps : PySem.W.subIn K (.ref C_Written) (.ref C_BadStamps) = some false)
    (sb_Written_BadText : PySem.W.subIn K (.ref C_Written) (.ref C_BadText) = some false)
    (sb_Written_BadTolerance : PySem.W.subIn K (.ref C_Written) (.ref C_BadTolerance) = some false)
    (sb_Written_CellError : PySem.W.subIn K (.ref C_Written) (.ref C_CellError) = some true)
    (sb_Written_NoIndex : PySem.W.subIn K (.ref C_Written) (.ref C_NoIndex) = some false)
    (sb_Written_NoPosition : PySem.W.subIn K (.ref C_Written) (.ref C_NoPosition) = some false)
    (sb_Written_NoValue : PySem.W.subIn K (.ref C_Written) (.ref C_NoValue) = some false)
    (sb_Written_NothingToUndo : PySem.W.subIn K (.ref C_Written) (.ref C_NothingToUndo) = some false)
    (sb_Written_TooMany : PySem.W.subIn K (.ref C_Written) (.ref C_TooMany) = some false)
    (sb_Written_Unexplained : PySem.W.subIn K (.ref C_Written) (.ref C_Unexplained) = some false)
    (sb_Written_Written : PySem.W.subIn K (.ref C_Written) (.ref C_Written) = some true)
    {nm_TooMany q_TooMany : Str} {N_TooMany : Addr} {bs_TooMany : List Value} {sn_TooMany : List Str} {sub_TooMany : List Value} {ab_TooMany : Bool} {col_TooMany : Option Bool} {dd_TooMany : Option Addr} {m0_TooMany m1_TooMany m2_TooMany m3_TooMany m5_TooMany : Option Value} (xl_TooMany : K.lookup C_TooMany = some (excClassObj nm_TooMany q_TooMany C_TooMany N_TooMany bs_TooMany [.ref C_CellError, .type "ValueError", .type "Exception", .type "BaseException", .type "object"] true sn_TooMany sub_TooMany ab_TooMany col_TooMany dd_TooMany m0_TooMany m1_TooMany m2_TooMany m3_TooMany m5_TooMany "ValueError.__new__"))
    (sa_TooMany : PySem.W.findIn K (.ref C_TooMany) "__setattr__" = some (some (.builtin "object.__setattr__")))
    (ga_TooMany : PySem.W.findIn K (.ref C_TooMany) "__getattribute__" = some (some (.builtin "BaseException.__getattribute__")))
    (gg_TooMany : PySem.W.findIn K (.ref C_TooMany) "__getattr__" = some none)
    (ca_TooMany : PySem.W.findIn K (.ref C_TooMany) "__class__" = some (some (.builtin "object.__class__")))
    (nb_TooMany_limit : PySem.W.findIn K (.ref C_TooMany) ("limit" : Str) = some none)
    {f_TooMany : Addr} {oc_TooMany kV_TooMany dc_TooMany pm_TooMany cd_TooMany ct_TooMany : Value} {od_TooMany an_TooMany : Option Addr} {sl_TooMany : Array (Option Value)} (in_TooMany : PySem.W.findIn K (.ref C_TooMany) "__init__" = some (some (.ref f_TooMany)))
    (ty_TooMany : PySem.W.typeIn K (.ref f_TooMany) = some (.type "function"))
    (li_TooMany : K.lookup f_TooMany = some ⟨oc_TooMany, od_TooMany, .func (PySem.W.fnOf "__init__" ("TooMany.__init__" : Str) (defArgs st_i_TooMany) (defBody st_i_TooMany) (defScope st_i_TooMany) .none kV_TooMany dc_TooMany pm_TooMany an_TooMany cd_TooMany ct_TooMany), sl_TooMany⟩)
    (ci_TooMany : PySem.W.codeIn K cd_TooMany ("TooMany.__init__" : Str) = true)
    (kb_TooMany_ValueError : PySem.W.kitOne K (.ref C_TooMany) (.type "ValueError") = some true)
    (ki_TooMany : PySem.W.keepIn K (.ref f_TooMany) = true)
    (kc_TooMany : PySem.W.keepIn K (.ref C_TooMany) = true)
    (hd_TooMany : PySem.W.hasDictIn K C_TooMany = true)
    (mo_TooMany : PySem.W.mroIn K C_TooMany (.type "object") = some true)
    (ne_TooMany_BadLine : (C_TooMany == C_BadLine) = true → false = true)
    (ne_TooMany_BadLog : (C_TooMany == C_BadLog) = true → false = true)
    (ne_TooMany_BadOperation : (C_TooMany == C_BadOperation) = true → false = true)
    (ne_TooMany_BadOrder : (C_TooMany == C_BadOrder) = true → false = true)
    (ne_TooMany_BadStamps : (C_TooMany == C_BadStamps) = true → false = true)
    (ne_TooMany_BadText : (C_TooMany == C_BadText) = true → false = true)
    (ne_TooMany_BadTolerance : (C_TooMany == C_BadTolerance) = true → false = true)
    (ne_TooMany_NoIndex : (C_TooMany == C_NoIndex) = true → false = true)
    (ne_TooMany_NoPosition : (C_TooMany == C_NoPosition) = true → false = true)
    (ne_TooMany_NoValue : (C_TooMany == C_NoValue) = true → false = true)
    (ne_TooMany_NothingToUndo : (C_TooMany == C_NothingToUndo) = true → false = true)
    (ne_TooMany_Unexplained : (C_TooMany == C_Unexplained) = true → false = true)
    (ne_TooMany_Written : (C_TooMany == C_Written) = true → false = true)
    (sb_TooMany_BadLine : PySem.W.subIn K (.ref C_TooMany) (.ref C_BadLine) = some false)
    (sb_TooMany_BadLog : PySem.W.subIn K (.ref C_TooMany) (.ref C_BadLog) = some false)
    (sb_TooMany_BadOperation : PySem.W.subIn K (.ref C_TooMany) (.ref C_BadOperation) = some false)
    (sb_TooMany_BadOrder : PySem.W.subIn K (.ref C_TooMany) (.ref C_BadOrder) = some false)
    (sb_TooMany_BadStamps : PySem.W.subIn K (.ref C_TooMany) (.ref C_BadStamps) = some false)
    (sb_TooMany_BadText : PySem.W.subIn K (.ref C_TooMany) (.ref C_BadText) = some false)
    (sb_TooMany_BadTolerance : PySem.W.subIn K (.ref C_TooMany) (.ref C_BadTolerance) = some false)
    (sb_TooMany_CellError : PySem.W.subIn K (.ref C_TooMany) (.ref C_CellError) = some true)
    (sb_TooMany_NoIndex : PySem.W.subIn K (.ref C_TooMany) (.ref C_NoIndex) = some false)
    (sb_TooMany_NoPosition : PySem.W.subIn K (.ref C_TooMany) (.ref C_NoPosition) = some false)
    (sb_TooMany_NoValue : PySem.W.subIn K (.ref C_TooMany) (.ref C_NoValue) = some false)
    (sb_TooMany_NothingToUndo : PySem.W.subIn K (.ref C_TooMany) (.ref C_NothingToUndo) = some false)
    (sb_TooMany_TooMany : PySem.W.subIn K (.ref C_TooMany) (.ref C_TooMany) = some true)
    (sb_TooMany_Unexplained : PySem.W.subIn K (.ref C_TooMany) (.ref C_Unexplained) = some false)
    (sb_TooMany_Written : PySem.W.subIn K (.ref C_TooMany) (.ref C_Written) = some false)
    {nm_NothingToUndo q_NothingToUndo : Str} {N_NothingToUndo : Addr} {bs_NothingToUndo : List Value} {sn_NothingToUndo : List Str} {sub_NothingToUndo : List Value} {ab_NothingToUndo : Bool} {col_NothingToUndo : Option Bool} {dd_NothingToUndo : Option Addr} {m0_NothingToUndo m1_NothingToUndo m2_NothingToUndo m3_NothingToUndo m5_NothingToUndo : Option Value} (xl_NothingToUndo : K.lookup C_NothingToUndo = some (excClassObj nm_NothingToUndo q_NothingToUndo C_NothingToUndo N_NothingToUndo bs_NothingToUndo [.ref C_CellError, .type "ValueError", .type "Exception", .type "BaseException", .type "object"] true sn_NothingToUndo sub_NothingToUndo ab_NothingToUndo col_NothingToUndo dd_NothingToUndo m0_NothingToUndo m1_NothingToUndo m2_NothingToUndo m3_NothingToUndo m5_NothingToUndo "ValueError.__new__"))
    (sa_NothingToUndo : PySem.W.findIn K (.ref C_NothingToUndo) "__setattr__" = some (some (.builtin "object.__setattr__")))
    (ga_NothingToUndo : PySem.W.findIn K (.ref C_NothingToUndo) "__getattribute__" = some (some (.builtin "BaseException.__getattribute__")))
    (gg_NothingToUndo : PySem.W.findIn K (.ref C_NothingToUndo) "__getattr__" = some none)
    (ca_NothingToUndo : PySem.W.findIn K (.ref C_NothingToUndo) "__class__" = some (some (.builtin "object.__class__")))
    {f_NothingToUndo : Addr} {oc_NothingToUndo kV_NothingToUndo dc_NothingToUndo pm_NothingToUndo cd_NothingToUndo ct_NothingToUndo : Value} {od_NothingToUndo an_NothingToUndo : Option Addr} {sl_NothingToUndo : Array (Option Value)} (in_NothingToUndo : PySem.W.findIn K (.ref C_NothingToUndo) "__init__" = some (some (.ref f_NothingToUndo)))
    (ty_NothingToUndo : PySem.W.typeIn K (.ref f_NothingToUndo) = some (.type "function"))
    (li_NothingToUndo : K.lookup f_NothingToUndo = some ⟨oc_NothingToUndo, od_NothingToUndo, .func (PySem.W.fnOf "__init__" ("NothingToUndo.__init__" : Str) (defArgs st_i_NothingToUndo) (defBody st_i_NothingToUndo) (defScope st_i_NothingToUndo) .none kV_NothingToUndo dc_NothingToUndo pm_NothingToUndo an_NothingToUndo cd_NothingToUndo ct_NothingToUndo), sl_NothingToUndo⟩)
    (ci_NothingToUndo : PySem.W.codeIn K cd_NothingToUndo ("NothingToUndo.__init__" : Str) = true)
    (kb_NothingToUndo_ValueError : PySem.W.kitOne K (.ref C_NothingToUndo) (.type "ValueError") = some true)
    (ki_NothingToUndo : PySem.W.keepIn K (.ref f_NothingToUndo) = true)
    (kc_NothingToUndo : PySem.W.keepIn K (.ref C_NothingToUndo) = true)
    (hd_NothingToUndo : PySem.W.hasDictIn K C_NothingToUndo = true)
    (mo_NothingToUndo : PySem.W.mroIn K C_NothingToUndo (.type "object") = some true)
    (ne_NothingToUndo_BadLine : (C_NothingToUndo == C_BadLine) = true → false = true)
    (ne_NothingToUndo_BadLog : (C_NothingToUndo == C_BadLog) = true → false = true)
    (ne_NothingToUndo_BadOperation : (C_NothingToUndo == C_BadOperation) = true → false = true)
    (ne_NothingToUndo_BadOrder : (C_NothingToUndo == C_BadOrder) = true → false = true)
    (ne_NothingToUndo_BadStamps : (C_NothingToUndo == C_BadStamps) = true → false = true)
    (ne_NothingToUndo_BadText : (C_NothingToUndo == C_BadText) = true → false = true)
    (ne_NothingToUndo_BadTolerance : (C_NothingToUndo == C_BadTolerance) = true → false = true)
    (ne_NothingToUndo_NoIndex : (C_NothingToUndo == C_NoIndex) = true → false = true)
    (ne_NothingToUndo_NoPosition : (C_NothingToUndo == C_NoPosition) = true → false = true)
    (ne_NothingToUndo_NoValue : (C_NothingToUndo == C_NoValue) = true → false = true)
    (ne_NothingToUndo_TooMany : (C_NothingToUndo == C_TooMany) = true → false = true)
    (ne_NothingToUndo_Unexplained : (C_NothingToUndo == C_Unexplained) = true → false = true)
    (ne_NothingToUndo_Written : (C_NothingToUndo == C_Written) = true → false = true)
    (sb_NothingToUndo_BadLine : PySem.W.subIn K (.ref C_NothingToUndo) (.ref C_BadLine) = some false)
    (sb_NothingToUndo_BadLog : PySem.W.subIn K (.ref C_NothingToUndo) (.ref C_BadLog) = some false)
    (sb_NothingToUndo_BadOperation : PySem.W.subIn K (.ref C_NothingToUndo) (.ref C_BadOperation) = some false)
    (sb_NothingToUndo_BadOrder : PySem.W.subIn K (.ref C_NothingToUndo) (.ref C_BadOrder) = some false)
    (sb_NothingToUndo_BadStamps : PySem.W.subIn K (.ref C_NothingToUndo) (.ref C_BadStamps) = some false)
    (sb_NothingToUndo_BadText : PySem.W.subIn K (.ref C_NothingToUndo) (.ref C_BadText) = some false)
    (sb_NothingToUndo_BadTolerance : PySem.W.subIn K (.ref C_NothingToUndo) (.ref C_BadTolerance) = some false)
    (sb_NothingToUndo_CellError : PySem.W.subIn K (.ref C_NothingToUndo) (.ref C_CellError) = some true)
    (sb_NothingToUndo_NoIndex : PySem.W.subIn K (.ref C_NothingToUndo) (.ref C_NoIndex) = some false)
    (sb_NothingToUndo_NoPosition : PySem.W.subIn K (.ref C_NothingToUndo) (.ref C_NoPosition) = some false)
    (sb_NothingToUndo_NoValue : PySem.W.subIn K (.ref C_NothingToUndo) (.ref C_NoValue) = some false)
    (sb_NothingToUndo_NothingToUndo : PySem.W.subIn K (.ref C_NothingToUndo) (.ref C_NothingToUndo) = some true)
    (sb_NothingToUndo_TooMany : PySem.W.subIn K (.ref C_NothingToUndo) (.ref C_TooMany) = some false)
    (sb_NothingToUndo_Unexplained : PySem.W.subIn K (.ref C_NothingToUndo) (.ref C_Unexplained) = some false)
    (sb_NothingToUndo_Written : PySem.W.subIn K (.ref C_NothingToUndo) (.ref C_Written) = some false)
    {nm_BadText q_BadText : Str} {N_BadText : Addr} {bs_BadText : List Value} {sn_BadText : List Str} {sub_BadText : List Value} {ab_BadText : Bool} {col_BadText : Option Bool} {dd_BadText : Option Addr} {m0_BadText m1_BadText m2_BadText m3_BadText m5_BadText : Option Value} (xl_BadText : K.lookup C_BadText = some (excClassObj nm_BadText q_BadText C_BadText N_BadText bs_BadText [.ref C_CellError, .type "ValueError", .type "Exception", .type "BaseException", .type "object"] true sn_BadText sub_BadText ab_BadText col_BadText dd_BadText m0_BadText m1_BadText m2_BadText m3_BadText m5_BadText "ValueError.__new__"))
    (sa_BadText : PySem.W.findIn K (.ref C_BadText) "__setattr__" = some (some (.builtin "object.__setattr__")))
    (ga_BadText : PySem.W.findIn K (.ref C_BadText) "__getattribute__" = some (some (.builtin "BaseException.__getattribute__")))
    (gg_BadText : PySem.W.findIn K (.ref C_BadText) "__getattr__" = some none)
    (ca_BadText : PySem.W.findIn K (.ref C_BadText) "__class__" = some (some (.builtin "object.__class__")))
    (nb_BadText_value : PySem.W.findIn K (.ref C_BadText) ("value" : Str) = some none)
    {f_BadText : Addr} {oc_BadText kV_BadText dc_BadText pm_BadText cd_BadText ct_BadText : Value} {od_BadText an_BadText : Option Addr} {sl_BadText : Array (Option Value)} (in_BadText : PySem.W.findIn K (.ref C_BadText) "__init__" = some (some (.ref f_BadText)))
    (ty_BadText : PySem.W.typeIn K (.ref f_BadText) = some (.type "function"))
    (li_BadText : K.lookup f_BadText = some ⟨oc_BadText, od_BadText, .func (PySem.W.fnOf "__init__" ("BadText.__init__" : Str) (defArgs st_i_BadText) (defBody st_i_BadText) (defScope st_i_BadText) .none kV_BadText dc_BadText pm_BadText an_BadText cd_BadText ct_BadText), sl_BadText⟩)
    (ci_BadText : PySem.W.codeIn K cd_BadText ("BadText.__init__" : Str) = true)
    (kb_BadText_ValueError : PySem.W.kitOne K (.ref C_BadText) (.type "ValueError") = some true)
    (ki_BadText : PySem.W.keepIn K (.ref f_BadText) = true)
    (kc_BadText : PySem.W.keepIn K (.ref C_BadText) = true)
    (hd_BadText : PySem.W.hasDictIn K C_BadText = true)
    (mo_BadText : PySem.W.mroIn K C_BadText (.type "object") = some true)
    (ne_BadText_BadLine : (C_BadText == C_BadLine) = true → false = true)
    (ne_BadText_BadLog : (C_BadText == C_BadLog) = true → false = true)
    (ne_BadText_BadOperation : (C_BadText == C_BadOperation) = true → false = true)
    (ne_BadText_BadOrder : (C_BadText == C_BadOrder) = true → false = true)
    (ne_BadText_BadStamps : (C_BadText == C_BadStamps) = true → false = true)
    (ne_BadText_BadTolerance : (C_BadText == C_BadTolerance) = true → false = true)
    (ne_BadText_NoIndex : (C_BadText == C_NoIndex) = true → false = true)
    (ne_BadText_NoPosition : (C_BadText == C_NoPosition) = true → false = true)
    (ne_BadText_NoValue : (C_BadText == C_NoValue) = true → false = true)
    (ne_BadText_NothingToUndo : (C_BadText == C_NothingToUndo) = true → false = true)
    (ne_BadText_TooMany : (C_BadText == C_TooMany) = true → false = true)
    (ne_BadText_Unexplained : (C_BadText == C_Unexplained) = true → false = true)
    (ne_BadText_Written : (C_BadText == C_Written) = true → false = true)
    (sb_BadText_BadLine : PySem.W.subIn K (.ref C_BadText) (.ref C_BadLine) = some false)
    (sb_BadText_BadLog : PySem.W.subIn K (.ref C_BadText) (.ref C_BadLog) = some false)
    (sb_BadText_BadOperation : PySem.W.subIn K (.ref C_BadText) (.ref C_BadOperation) = some false)
    (sb_BadText_BadOrder : PySem.W.subIn K (.ref C_BadText) (.ref C_BadOrder) = some false)
    (sb_BadText_BadStamps : PySem.W.subIn K (.ref C_BadText) (.ref C_BadStamps) = some false)
    (sb_BadText_BadText : PySem.W.subIn K (.ref C_BadText) (.ref C_BadText) = some true)
    (sb_BadText_BadTolerance : PySem.W.subIn K (.ref C_BadText) (.ref C_BadTolerance) = some false)
    (sb_BadText_CellError : PySem.W.subIn K (.ref C_BadText) (.ref C_CellError) = some true)
    (sb_BadText_NoIndex : PySem.W.subIn K (.ref C_BadText) (.ref C_NoIndex) = some false)
    (sb_BadText_NoPosition : PySem.W.subIn K (.ref C_BadText) (.ref C_NoPosition) = some false)
    (sb_BadText_NoValue : PySem.W.subIn K (.ref C_BadText) (.ref C_NoValue) = some false)
    (sb_BadText_NothingToUndo : PySem.W.subIn K (.ref C_BadText) (.ref C_NothingToUndo) = some false)
    (sb_BadText_TooMany : PySem.W.subIn K (.ref C_BadText) (.ref C_TooMany) = some false)
    (sb_BadText_Unexplained : PySem.W.subIn K (.ref C_BadText) (.ref C_Unexplained) = some false)
    (sb_BadText_Written : PySem.W.subIn K (.ref C_BadText) (.ref C_Written) = some false)
    {nm_BadLine q_BadLine : Str} {N_BadLine : Addr} {bs_BadLine : List Value} {sn_BadLine : List Str} {sub_BadLine : List Value} {ab_BadLine : Bool} {col_BadLine : Option Bool} {dd_BadLine : Option Addr} {m0_BadLine m1_BadLine m2_BadLine m3_BadLine m5_BadLine : Option Value} (xl_BadLine : K.lookup C_BadLine = some (excClassObj nm_BadLine q_BadLine C_BadLine N_BadLine bs_BadLine [.ref C_CellError, .type "ValueError", .type "Exception", .type "BaseException", .type "object"] true sn_BadLine sub_BadLine ab_BadLine col_BadLine dd_BadLine m0_BadLine m1_BadLine m2_BadLine m3_BadLine m5_BadLine "ValueError.__new__"))
    (sa_BadLine : PySem.W.findIn K (.ref C_BadLine) "__setattr__" = some (some (.builtin "object.__setattr__")))
    (ga_BadLine : PySem.W.findIn K (.ref C_BadLine) "__getattribute__" = some (some (.builtin "BaseException.__getattribute__")))
    (gg_BadLine : PySem.W.findIn K (.ref C_BadLine) "__getattr__" = some none)
    (ca_BadLine : PySem.W.findIn K (.ref C_BadLine) "__class__" = some (some (.builtin "object.__class__")))
    (nb_BadLine_line : PySem.W.findIn K (.ref C_BadLine) ("line" : Str) = some none)
    {f_BadLine : Addr} {oc_BadLine kV_BadLine dc_BadLine pm_BadLine cd_BadLine ct_BadLine : Value} {od_BadLine an_BadLine : Option Addr} {sl_BadLine : Array (Option Value)} (in_BadLine : PySem.W.findIn K (.ref C_BadLine) "__init__" = some (some (.ref f_BadLine)))
    (ty_BadLine : PySem.W.typeIn K (.ref f_BadLine) = some (.type "function"))
    (li_BadLine : K.lookup f_BadLine = some ⟨oc_BadLine, od_BadLine, .func (PySem.W.fnOf "__init__" ("BadLine.__init__" : Str) (defArgs st_i_BadLine) (defBody st_i_BadLine) (defScope st_i_BadLine) .none kV_BadLine dc_BadLine pm_BadLine an_BadLine cd_BadLine ct_BadLine), sl_BadLine⟩)
    (ci_BadLine : PySem.W.codeIn K cd_BadLine ("BadLine.__init__" : Str) = true)
    (kb_BadLine_ValueError : PySem.W.kitOne K (.ref C_BadLine) (.type "ValueError") = some true)
    (ki_BadLine : PySem.W.keepIn K (.ref f_BadLine) = true)
    (kc_BadLine : PySem.W.keepIn K (.ref C_BadLine) = true)
    (hd_BadLine : PySem.W.hasDictIn K C_BadLine = true)
    (mo_BadLine : PySem.W.mroIn K C_BadLine (.type "object") = some true)
    (ne_BadLine_BadLog : (C_BadLine == C_BadLog) = true → false = true)
    (ne_BadLine_BadOperation : (C_BadLine == C_BadOperation) = true → false = true)
    (ne_BadLine_BadOrder : (C_BadLine == C_BadOrder) = true → false = true)
    (ne_BadLine_BadStamps : (C_BadLine == C_BadStamps) = true → false = true)
    (ne_BadLine_BadText : (C_BadLine == C_BadText) = true → false = true)
    (ne_BadLine_BadTolerance : (C_BadLine == C_BadTolerance) = true → false = true)
    (ne_BadLine_NoIndex : (C_BadLine == C_NoIndex) = true → false = true)
    (ne_BadLine_NoPosition : (C_BadLine == C_NoPosition) = true → false = true)
    (ne_BadLine_NoValue : (C_BadLine == C_NoValue) = true → false = true)
    (ne_BadLine_NothingToUndo : (C_BadLine == C_NothingToUndo) = true → false = true)
    (ne_BadLine_TooMany : (C_BadLine == C_TooMany) = true → false = true)
    (ne_BadLine_Unexplained : (C_BadLine == C_Unexplained) = true → false = true)
    (ne_BadLine_Written : (C_BadLine == C_Written) = true → false = true)
    (sb_BadLine_BadLine : PySem.W.subIn K (.ref C_BadLine) (.ref C_BadLine) = some true)
    (sb_BadLine_BadLog : PySem.W.subIn K (.ref C_BadLine) (.ref C_BadLog) = some false)
    (sb_BadLine_BadOperation : PySem.W.subIn K (.ref C_BadLine) (.ref C_BadOperation) = some false)
    (sb_BadLine_BadOrder : PySem.W.subIn K (.ref C_BadLine) (.ref C_BadOrder) = some false)
    (sb_BadLine_BadStamps : PySem.W.subIn K (.ref C_BadLine) (.ref C_BadStamps) = some false)
    (sb_BadLine_BadText : PySem.W.subIn K (.ref C_BadLine) (.ref C_BadText) = some false)
    (sb_BadLine_BadTolerance : PySem.W.subIn K (.ref C_BadLine) (.ref C_BadTolerance) = some false)
    (sb_BadLine_CellError : PySem.W.subIn K (.ref C_BadLine) (.ref C_CellError) = some true)
    (sb_BadLine_NoIndex : PySem.W.subIn K (.ref C_BadLine) (.ref C_NoIndex) = some false)
    (sb_BadLine_NoPosition : PySem.W.subIn K (.ref C_BadLine) (.ref C_NoPosition) = some false)
    (sb_BadLine_NoValue : PySem.W.subIn K (.ref C_BadLine) (.ref C_NoValue) = some false)
    (sb_BadLine_NothingToUndo : PySem.W.subIn K (.ref C_BadLine) (.ref C_NothingToUndo) = some false)
    (sb_BadLine_TooMany : PySem.W.subIn K (.ref C_BadLine) (.ref C_TooMany) = some false)
    (sb_BadLine_Unexplained : PySem.W.subIn K (.ref C_BadLine) (.ref C_Unexplained) = some false)
    (sb_BadLine_Written : PySem.W.subIn K (.ref C_BadLine) (.ref C_Written) = some false)
    (gn_ : PySem.W.specialIn K (.builtin "object.__class__") "__get__" = some (some (.builtin "getset_descriptor.__get__")))
    (gt_ : PySem.W.takesIn K (.builtin "object.__class__") = some true)
    (cg_CellError : PySem.W.specialIn K (.ref C_CellError) "__getattribute__" = some (some (.builtin "type.__getattribute__")))
    (cr_CellError : PySem.W.readsIn K C_CellError (.type "type") = true)
    (ci_CellError : PySem.W.findCls K (.ref C_CellError) (.type "type") "__init__" = some (.val (.builtin "ValueError.__init__"))) :
    ∃ fd : FuncData, (∀ (s : Shared) (v : Value), BindsTo s fd ⟨[v], []⟩ [(("_law_script" : Str), v)]) ∧ ∀ base : Heap, K.In base → base.Ns mainGlobals mg → (∀ p ∈ ([] : List (Addr × Addr × Str)), LamX.TabB base mg p.1 p.2.1) → (letI : TabT := tabsOf [] mg; GFn l.prog w K mg base 5 fa fd [("_law_script" : Str)] s_law) := by
  have e := hfa.symm.trans (PySem.W.mg_of X G a8)
  cases e
  have F1 := fun_mk (st := st__law_pot) l1 c1 k1
  have b1 := F1.binds (ps := ps__law_pot) fun _ _ _ _ _ _ us hl => match us, hl with | [_, _], _ => rfl
  have F2 := fun_mk (st := st__law_draw) l2 c2 k2
  have b2 := F2.binds (ps := ps__law_draw) fun _ _ _ _ _ _ us hl => match us, hl with | [_, _], _ => rfl
  have F3 := fun_mk (st := st__law_any) l3 c3 k3
  have b3 := F3.binds (ps := ps__law_any) fun _ _ _ _ _ _ us hl => match us, hl with | [_, _], _ => rfl
  have F4 := fun_mk (st := st__law_odd) l4 c4 k4
  have b4 := F4.binds (ps := ps__law_odd) fun _ _ _ _ _ _ us hl => match us, hl with | [_, _], _ => rfl
  have F5 := fun_mk (st := st__law_held) l5 c5 k5
  have b5 := F5.binds (ps := ps__law_held) fun _ _ _ _ _ _ us hl => match us, hl with | [_], _ => rfl
  have F6 := fun_mk (st := st__law_marks) l6 c6 k6
  have b6 := F6.binds (ps := ps__law_marks) fun _ _ _ _ _ _ us hl => match us, hl with | [_], _ => rfl
  have F7 := fun_mk (st := st__law_right) l7 c7 k7
  have b7 := F7.binds (ps := ps__law_right) fun _ _ _ _ _ _ us hl => match us, hl with | [_], _ => rfl
  have F8 := fun_mk (st := st_law) l8 c8 k8
  refine ⟨PySem.W.fnOf "law" "law" (defArgs st_law) (defBody st_law) (defScope st_law) .none kV8 dc8 pm8 an8 cd8 ct8, fun s v => .of_eq rfl, fun base _ _ TBs => ?_⟩
  letI : TabT := tabsOf [] mg
  have MM_BadLine := PySem.W.mg_of X G ax_BadLine
  have MM_BadLog := PySem.W.mg_of X G ax_BadLog
  have MM_BadOperation := PySem.W.mg_of X G ax_BadOperation
  have MM_BadOrder := PySem.W.mg_of X G ax_BadOrder
  have MM_BadStamps := PySem.W.mg_of X G ax_BadStamps
  have MM_BadText := PySem.W.mg_of X G ax_BadText
  have MM_BadTolerance := PySem.W.mg_of X G ax_BadTolerance
  have MM_CellError := PySem.W.mg_of X G ax_CellError
  have MM_NoIndex := PySem.W.mg_of X G ax_NoIndex
  have MM_NoPosition := PySem.W.mg_of X G ax_NoPosition
  have MM_NoValue := PySem.W.mg_of X G ax_NoValue
  have MM_NothingToUndo := PySem.W.mg_of X G ax_NothingToUndo
  have MM_TooMany := PySem.W.mg_of X G ax_TooMany
  have MM_Unexplained := PySem.W.mg_of X G ax_Unexplained
  have MM_Written := PySem.W.mg_of X G ax_Written
  have CC_CellError : CeC K C_CellError := ⟨cg_CellError, cr_CellError, ci_CellError⟩
  have OE_NoIndex : OexC K C_NoIndex := ⟨⟨_, _, _, _, _, _, _, _, _, _, _, _, _, _, _, xl_NoIndex, by first | rfl | decide +kernel⟩, sa_NoIndex, ex_NoIndex, tx_NoIndex, kc_NoIndex⟩
  have XC_NoIndex : ExcC K C_NoIndex := ⟨ga_NoIndex, gg_NoIndex, ex_NoIndex, hd_NoIndex, ca_NoIndex, gn_, gt_, mo_NoIndex⟩
  have FI_NoIndex := fun_mk (st := st_i_NoIndex) li_NoIndex ci_NoIndex ki_NoIndex
  have bI_NoIndex := FI_NoIndex.binds (ps := ["self", ("index" : Str)]) fun _ _ _ _ _ _ us hl => match us, hl with | [_, _], _ => rfl
  have EE_NoIndex : ExcR l.prog w K mg base 1 ("NoIndex" : Str) (fun C => spI1 C ("index" : Str)) := ⟨C_NoIndex, f_NoIndex, _, _, OE_NoIndex, in_NoIndex, ty_NoIndex, i_NoIndex FI_NoIndex OE_NoIndex nb_NoIndex_index MM_CellError CC_CellError, bI_NoIndex, MM_NoIndex⟩
  have EEK_NoIndex : ExcRK l.prog w K mg base 1 ("NoIndex" : Str) (fun C => spI1 C ("index" : Str)) [("index" : Str)] [0] := ⟨C_NoIndex, f_NoIndex, _, _, OE_NoIndex, in_NoIndex, ty_NoIndex, i_NoIndex FI_NoIndex OE_NoIndex nb_NoIndex_index MM_CellError CC_CellError, (fun s v0 ws _ hl => match ws, hl with | [w0], _ => ⟨[w0], rfl, .of_eq rfl⟩), MM_NoIndex⟩
  have OE_NoValue : OexC K C_NoValue := ⟨⟨_, _, _, _, _, _, _, _, _, _, _, _, _, _, _, xl_NoValue, by first | rfl | decide +kernel⟩, sa_NoValue, ex_NoValue, tx_NoValue, kc_NoValue⟩
  have XC_NoValue : ExcC K C_NoValue := ⟨ga_NoValue, gg_NoValue, ex_NoValue, hd_NoValue, ca_NoValue, gn_, gt_, mo_NoValue⟩
  have FI_NoValue := fun_mk (st := st_i_NoValue) li_NoValue ci_NoValue ki_NoValue
  have bI_NoValue := FI_NoValue.binds (ps := ["self", ("value" : Str)]) fun _ _ _ _ _ _ us hl => match us, hl with | [_, _], _ => rfl
  have EE_NoValue : ExcR l.prog w K mg base 1 ("NoValue" : Str) (fun C => spI1 C ("value" : Str)) := ⟨C_NoValue, f_NoValue, _, _, OE_NoValue, in_NoValue, ty_NoValue, i_NoValue FI_NoValue OE_NoValue nb_NoValue_value MM_CellError CC_CellError, bI_NoValue, MM_NoValue⟩
  have EEK_NoValue : ExcRK l.prog w K mg base 1 ("NoValue" : Str) (fun C => spI1 C ("value" : Str)) [("value" : Str)] [0] := ⟨C_NoValue, f_NoValue, _, _, OE_NoValue, in_NoValue, ty_NoValue, i_NoValue FI_NoValue OE_NoValue nb_NoValue_value MM_CellError CC_CellError, (fun s v0 ws _ hl => match ws, hl with | [w0], _ => ⟨[w0], rfl, .of_eq rfl⟩), MM_NoValue⟩
  have OE_Unexplained : OexC K C_Unexplained := ⟨⟨_, _, _, _, _, _, _, _, _, _, _, _, _, _, _, xl_Unexplained, by first | rfl | decide +kernel⟩, sa_Unexplained, ex_Unexplained, tx_Unexplained, kc_Unexplained⟩
  have XC_Unexplained : ExcC K C_Unexplained := ⟨ga_Unexplained, gg_Unexplained, ex_Unexplained, hd_Unexplained, ca_Unexplained, gn_, gt_, mo_Unexplained⟩
  have FI_Unexplained := fun_mk (st := st_i_Unexplained) li_Unexplained ci_Unexplained ki_Unexplained
  have bI_Unexplained := FI_Unexplained.binds (ps := ["self", ("fault" : Str)]) fun _ _ _ _ _ _ us hl => match us, hl with | [_, _], _ => rfl
  have EE_Unexplained : ExcR l.prog w K mg base 1 ("Unexplained" : Str) (fun C => spI1 C ("fault" : Str)) := ⟨C_Unexplained, f_Unexplained, _, _, OE_Unexplained, in_Unexplained, ty_Unexplained, i_Unexplained FI_Unexplained OE_Unexplained nb_Unexplained_fault MM_CellError CC_CellError, bI_Unexplained, MM_Unexplained⟩
  have EEK_Unexplained : ExcRK l.prog w K mg base 1 ("Unexplained" : Str) (fun C => spI1 C ("fault" : Str)) [("fault" : Str)] [0] := ⟨C_Unexplained, f_Unexplained, _, _, OE_Unexplained, in_Unexplained, ty_Unexplained, i_Unexplained FI_Unexplained OE_Unexplained nb_Unexplained_fault MM_CellError CC_CellError, (fun s v0 ws _ hl => match ws, hl with | [w0], _ => ⟨[w0], rfl, .of_eq rfl⟩), MM_Unexplained⟩
  have OE_BadOrder : OexC K C_BadOrder := ⟨⟨_, _, _, _, _, _, _, _, _, _, _, _, _, _, _, xl_BadOrder, by first | rfl | decide +kernel⟩, sa_BadOrder, ex_BadOrder, tx_BadOrder, kc_BadOrder⟩
  have XC_BadOrder : ExcC K C_BadOrder := ⟨ga_BadOrder, gg_BadOrder, ex_BadOrder, hd_BadOrder, ca_BadOrder, gn_, gt_, mo_BadOrder⟩
  have FI_BadOrder := fun_mk (st := st_i_BadOrder) li_BadOrder ci_BadOrder ki_BadOrder
  have bI_BadOrder := FI_BadOrder.binds (ps := ["self", ("value" : Str)]) fun _ _ _ _ _ _ us hl => match us, hl with | [_, _], _ => rfl
  have EE_BadOrder : ExcR l.prog w K mg base 1 ("BadOrder" : Str) (fun C => spI1 C ("value" : Str)) := ⟨C_BadOrder, f_BadOrder, _, _, OE_BadOrder, in_BadOrder, ty_BadOrder, i_BadOrder FI_BadOrder OE_BadOrder nb_BadOrder_value MM_CellError CC_CellError, bI_BadOrder, MM_BadOrder⟩
  have EEK_BadOrder : ExcRK l.prog w K mg base 1 ("BadOrder" : Str) (fun C => spI1 C ("value" : Str)) [("value" : Str)] [0] := ⟨C_BadOrder, f_BadOrder, _, _, OE_BadOrder, in_BadOrder, ty_BadOrder, i_BadOrder FI_BadOrder OE_BadOrder nb_BadOrder_value MM_CellError CC_CellError, (fun s v0 ws _ hl => match ws, hl with | [w0], _ => ⟨[w0], rfl, .of_eq rfl⟩), MM_BadOrder⟩
  have OE_NoPosition : OexC K C_NoPosition := ⟨⟨_, _, _, _, _, _, _, _, _, _, _, _, _, _, _, xl_NoPosition, by first | rfl | decide +kernel⟩, sa_NoPosition, ex_NoPosition, tx_NoPosition, kc_NoPosition⟩
  have XC_NoPosition : ExcC K C_NoPosition := ⟨ga_NoPosition, gg_NoPosition, ex_NoPosition, hd_NoPosition, ca_NoPosition, gn_, gt_, mo_NoPosition⟩
  have FI_NoPosition := fun_mk (st := st_i_NoPosition) li_NoPosition ci_NoPosition ki_NoPosition
  have bI_NoPosition := FI_NoPosition.binds (ps := ["self", ("position" : Str)]) fun _ _ _ _ _ _ us hl => match us, hl with | [_, _], _ => rfl
  have EE_NoPosition : ExcR l.prog w K mg base 1 ("NoPosition" : Str) (fun C => spI1 C ("position" : Str)) := ⟨C_NoPosition, f_NoPosition, _, _, OE_NoPosition, in_NoPosition, ty_NoPosition, i_NoPosition FI_NoPosition OE_NoPosition nb_NoPosition_position MM_CellError CC_CellError, bI_NoPosition, MM_NoPosition⟩
  have EEK_NoPosition : ExcRK l.prog w K mg base 1 ("NoPosition" : Str) (fun C => spI1 C ("position" : Str)) [("position" : Str)] [0] := ⟨C_NoPosition, f_NoPosition, _, _, OE_NoPosition, in_NoPosition, ty_NoPosition, i_NoPosition FI_NoPosition OE_NoPosition nb_NoPosition_position MM_CellError CC_CellError, (fun s v0 ws _ hl => match ws, hl with | [w0], _ => ⟨[w0], rfl, .of_eq rfl⟩), MM_NoPosition⟩
  have OE_BadStamps : OexC K C_BadStamps := ⟨⟨_, _, _, _, _, _, _, _, _, _, _, _, _, _, _, xl_BadStamps, by first | rfl | decide +kernel⟩, sa_BadStamps, ex_BadStamps, tx_BadStamps, kc_BadStamps⟩
  have XC_BadStamps : ExcC K C_BadStamps := ⟨ga_BadStamps, gg_BadStamps, ex_BadStamps, hd_BadStamps, ca_BadStamps, gn_, gt_, mo_BadStamps⟩
  have FI_BadStamps := fun_mk (st := st_i_BadStamps) li_BadStamps ci_BadStamps ki_BadStamps
  have bI_BadStamps := FI_BadStamps.binds (ps := ["self", ("begin" : Str), ("end" : Str)]) fun _ _ _ _ _ _ us hl => match us, hl with | [_, _, _], _ => rfl
  have EE_BadStamps : ExcR l.prog w K mg base 1 ("BadStamps" : Str) (fun C => spI2 C ("begin" : Str) ("end" : Str)) := ⟨C_BadStamps, f_BadStamps, _, _, OE_BadStamps, in_BadStamps, ty_BadStamps, i_BadStamps FI_BadStamps OE_BadStamps nb_BadStamps_begin nb_BadStamps_end MM_CellError CC_CellError, bI_BadStamps, MM_BadStamps⟩
  have EEK_BadStamps : ExcRK l.prog w K mg base 1 ("BadStamps" : Str) (fun C => spI2 C ("begin" : Str) ("end" : Str)) [("end" : Str), ("begin" : Str)] [1, 0] := ⟨C_BadStamps, f_BadStamps, _, _, OE_BadStamps, in_BadStamps, ty_BadStamps, i_BadStamps FI_BadStamps OE_BadStamps nb_BadStamps_begin nb_BadStamps_end MM_CellError CC_CellError, (fun s v0 ws _ hl => match ws, hl with | [w0, w1], _ => ⟨[w1, w0], rfl, .of_eq rfl⟩), MM_BadStamps⟩
  have OE_BadLog : OexC K C_BadLog := ⟨⟨_, _, _, _, _, _, _, _, _, _, _, _, _, _, _, xl_BadLog, by first | rfl | decide +kernel⟩, sa_BadLog, ex_BadLog, tx_BadLog, kc_BadLog⟩
  have XC_BadLog : ExcC K C_BadLog := ⟨ga_BadLog, gg_BadLog, ex_BadLog, hd_BadLog, ca_BadLog, gn_, gt_, mo_BadLog⟩
  have FI_BadLog := fun_mk (st := st_i_BadLog) li_BadLog ci_BadLog ki_BadLog
  have bI_BadLog := FI_BadLog.binds (ps := ["self", ("value" : Str)]) fun _ _ _ _ _ _ us hl => match us, hl with | [_, _], _ => rfl
  have EE_BadLog : ExcR l.prog w K mg base 1 ("BadLog" : Str) (fun C => spI1 C ("value" : Str)) := ⟨C_BadLog, f_BadLog, _, _, OE_BadLog, in_BadLog, ty_BadLog, i_BadLog FI_BadLog OE_BadLog nb_BadLog_value MM_CellError CC_CellError, bI_BadLog, MM_BadLog⟩
  have EEK_BadLog : ExcRK l.prog w K mg base 1 ("BadLog" : Str) (fun C => spI1 C ("value" : Str)) [("value" : Str)] [0] := ⟨C_BadLog, f_BadLog, _, _, OE_BadLog, in_BadLog, ty_BadLog, i_BadLog FI_BadLog OE_BadLog nb_BadLog_value MM_CellError CC_CellError, (fun s v0 ws _ hl => match ws, hl with | [w0], _ => ⟨[w0], rfl, .of_eq rfl⟩), MM_BadLog⟩
  have OE_BadTolerance : OexC K C_BadTolerance := ⟨⟨_, _, _, _, _, _, _, _, _, _, _, _, _, _, _, xl_BadTolerance, by first | rfl | decide +kernel⟩, sa_BadTolerance, ex_BadTolerance, tx_BadTolerance, kc_BadTolerance⟩
  have XC_BadTolerance : ExcC K C_BadTolerance := ⟨ga_BadTolerance, gg_BadTolerance, ex_BadTolerance, hd_BadTolerance, ca_BadTolerance, gn_, gt_, mo_BadTolerance⟩
  have FI_BadTolerance := fun_mk (st := st_i_BadTolerance) li_BadTolerance ci_BadTolerance ki_BadTolerance
  have bI_BadTolerance := FI_BadTolerance.binds (ps := ["self", ("value" : Str)]) fun _ _ _ _ _ _ us hl => match us, hl with | [_, _], _ => rfl
  have EE_BadTolerance : ExcR l.prog w K mg base 1 ("BadTolerance" : Str) (fun C => spI1 C ("value" : Str)) := ⟨C_BadTolerance, f_BadTolerance, _, _, OE_BadTolerance, in_BadTolerance, ty_BadTolerance, i_BadTolerance FI_BadTolerance OE_BadTolerance nb_BadTolerance_value MM_CellError CC_CellError, bI_BadTolerance, MM_BadTolerance⟩
  have EEK_BadTolerance : ExcRK l.prog w K mg base 1 ("BadTolerance" : Str) (fun C => spI1 C ("value" : Str)) [("value" : Str)] [0] := ⟨C_BadTolerance, f_BadTolerance, _, _, OE_BadTolerance, in_BadTolerance, ty_BadTolerance, i_BadTolerance FI_BadTolerance OE_BadTolerance nb_BadTolerance_value MM_CellError CC_CellError, (fun s v0 ws _ hl => match ws, hl with | [w0], _ => ⟨[w0], rfl, .of_eq rfl⟩), MM_BadTolerance⟩
  have OE_BadOperation : OexC K C_BadOperation := ⟨⟨_, _, _, _, _, _, _, _, _, _, _, _, _, _, _, xl_BadOperation, by first | rfl | decide +kernel⟩, sa_BadOperation, ex_BadOperation, tx_BadOperation, kc_BadOperation⟩
  have XC_BadOperation : ExcC K C_BadOperation := ⟨ga_BadOperation, gg_BadOperation, ex_BadOperation, hd_BadOperation, ca_BadOperation, gn_, gt_, mo_BadOperation⟩
  have FI_BadOperation := fun_mk (st := st_i_BadOperation) li_BadOperation ci_BadOperation ki_BadOperation
  have bI_BadOperation := FI_BadOperation.binds (ps := ["self", ("operation" : Str)]) fun _ _ _ _ _ _ us hl => match us, hl with | [_, _], _ => rfl
  have EE_BadOperation : ExcR l.prog w K mg base 1 ("BadOperation" : Str) (fun C => spI1 C ("operation" : Str)) := ⟨C_BadOperation, f_BadOperation, _, _, OE_BadOperation, in_BadOperation, ty_BadOperation, i_BadOperation FI_BadOperation OE_BadOperation nb_BadOperation_operation MM_CellError CC_CellError, bI_BadOperation, MM_BadOperation⟩
  have EEK_BadOperation : ExcRK l.prog w K mg base 1 ("BadOperation" : Str) (fun C => spI1 C ("operation" : Str)) [("operation" : Str)] [0] := ⟨C_BadOperation, f_BadOperation, _, _, OE_BadOperation, in_BadOperation, ty_BadOperation, i_BadOperation FI_BadOperation OE_BadOperation nb_BadOperation_operation MM_CellError CC_CellError, (fun s v0 ws _ hl => match ws, hl with | [w0], _ => ⟨[w0], rfl, .of_eq rfl⟩), MM_BadOperation⟩
  have OE_Written : OexC K C_Written := ⟨⟨_, _, _, _, _, _, _, _, _, _, _, _, _, _, _, xl_Written, by first | rfl | decide +kernel⟩, sa_Written, ex_Written, tx_Written, kc_Written⟩
  have XC_Written : ExcC K C_Written := ⟨ga_Written, gg_Written, ex_Written, hd_Written, ca_Written, gn_, gt_, mo_Written⟩
  have FI_Written := fun_mk (st := st_i_Written) li_Written ci_Written ki_Written
  have bI_Written := FI_Written.binds (ps := ["self", ("value" : Str)]) fun _ _ _ _ _ _ us hl => match us, hl with | [_, _], _ => rfl
  have EE_Written : ExcR l.prog w K mg base 1 ("Written" : Str) (fun C => spI1 C ("value" : Str)) := ⟨C_Written, f_Written, _, _, OE_Written, in_Written, ty_Written, i_Written FI_Written OE_Written nb_Written_value MM_CellError CC_CellError, bI_Written, MM_Written⟩
  have EEK_Written : ExcRK l.prog w K mg base 1 ("Written" : Str) (fun C => spI1 C ("value" : Str)) [("value" : Str)] [0] := ⟨C_Written, f_Written, _, _, OE_Written, in_Written, ty_Written, i_Written FI_Written OE_Written nb_Written_value MM_CellError CC_CellError, (fun s v0 ws _ hl => match ws, hl with | [w0], _ => ⟨[w0], rfl, .of_eq rfl⟩), MM_Written⟩
  have OE_TooMany : OexC K C_TooMany := ⟨⟨_, _, _, _, _, _, _, _, _, _, _, _, _, _, _, xl_TooMany, by first | rfl | decide +kernel⟩, sa_TooMany, ex_TooMany, tx_TooMany, kc_TooMany⟩
  have XC_TooMany : ExcC K C_TooMany := ⟨ga_TooMany, gg_TooMany, ex_TooMany, hd_TooMany, ca_TooMany, gn_, gt_, mo_TooMany⟩
  have FI_TooMany := fun_mk (st := st_i_TooMany) li_TooMany ci_TooMany ki_TooMany
  have bI_TooMany := FI_TooMany.binds (ps := ["self", ("limit" : Str)]) fun _ _ _ _ _ _ us hl => match us, hl with | [_, _], _ => rfl
  have EE_TooMany : ExcR l.prog w K mg base 1 ("TooMany" : Str) (fun C => spI1 C ("limit" : Str)) := ⟨C_TooMany, f_TooMany, _, _, OE_TooMany, in_TooMany, ty_TooMany, i_TooMany FI_TooMany OE_TooMany nb_TooMany_limit MM_CellError CC_CellError, bI_TooMany, MM_TooMany⟩
  have EEK_TooMany : ExcRK l.prog w K mg base 1 ("TooMany" : Str) (fun C => spI1 C ("limit" : Str)) [("limit" : Str)] [0] := ⟨C_TooMany, f_TooMany, _, _, OE_TooMany, in_TooMany, ty_TooMany, i_TooMany FI_TooMany OE_TooMany nb_TooMany_limit MM_CellError CC_CellError, (fun s v0 ws _ hl => match ws, hl with | [w0], _ => ⟨[w0], rfl, .of_eq rfl⟩), MM_TooMany⟩
  have OE_NothingToUndo : OexC K C_NothingToUndo := ⟨⟨_, _, _, _, _, _, _, _, _, _, _, _, _, _, _, xl_NothingToUndo, by first | rfl | decide +kernel⟩, sa_NothingToUndo, ex_NothingToUndo, tx_NothingToUndo, kc_NothingToUndo⟩
  have XC_NothingToUndo : ExcC K C_NothingToUndo := ⟨ga_NothingToUndo, gg_NothingToUndo, ex_NothingToUndo, hd_NothingToUndo, ca_NothingToUndo, gn_, gt_, mo_NothingToUndo⟩
  have FI_NothingToUndo := fun_mk (st := st_i_NothingToUndo) li_NothingToUndo ci_NothingToUndo ki_NothingToUndo
  have bI_NothingToUndo := FI_NothingToUndo.binds (ps := ["self"]) fun _ _ _ _ _ _ us hl => match us, hl with | [_], _ => rfl
  have EE_NothingToUndo : ExcR0 l.prog w K mg base 1 ("NothingToUndo" : Str) := ⟨C_NothingToUndo, f_NothingToUndo, _, _, OE_NothingToUndo, in_NothingToUndo, ty_NothingToUndo, i_NothingToUndo FI_NothingToUndo OE_NothingToUndo MM_CellError CC_CellError, bI_NothingToUndo, rfl, MM_NothingToUndo⟩
  have OE_BadText : OexC K C_BadText := ⟨⟨_, _, _, _, _, _, _, _, _, _, _, _, _, _, _, xl_BadText, by first | rfl | decide +kernel⟩, sa_BadText, ex_BadText, tx_BadText, kc_BadText⟩
  have XC_BadText : ExcC K C_BadText := ⟨ga_BadText, gg_BadText, ex_BadText, hd_BadText, ca_BadText, gn_, gt_, mo_BadText⟩
  have FI_BadText := fun_mk (st := st_i_BadText) li_BadText ci_BadText ki_BadText
  have bI_BadText := FI_BadText.binds (ps := ["self", ("value" : Str)]) fun _ _ _ _ _ _ us hl => match us, hl with | [_, _], _ => rfl
  have EE_BadText : ExcR l.prog w K mg base 1 ("BadText" : Str) (fun C => spI1 C ("value" : Str)) := ⟨C_BadText, f_BadText, _, _, OE_BadText, in_BadText, ty_BadText, i_BadText FI_BadText OE_BadText nb_BadText_value MM_CellError CC_CellError, bI_BadText, MM_BadText⟩
  have EEK_BadText : ExcRK l.prog w K mg base 1 ("BadText" : Str) (fun C => spI1 C ("value" : Str)) [("value" : Str)] [0] := ⟨C_BadText, f_BadText, _, _, OE_BadText, in_BadText, ty_BadText, i_BadText FI_BadText OE_BadText nb_BadText_value MM_CellError CC_CellError, (fun s v0 ws _ hl => match ws, hl with | [w0], _ => ⟨[w0], rfl, .of_eq rfl⟩), MM_BadText⟩
  have OE_BadLine : OexC K C_BadLine := ⟨⟨_, _, _, _, _, _, _, _, _, _, _, _, _, _, _, xl_BadLine, by first | rfl | decide +kernel⟩, sa_BadLine, ex_BadLine, tx_BadLine, kc_BadLine⟩
  have XC_BadLine : ExcC K C_BadLine := ⟨ga_BadLine, gg_BadLine, ex_BadLine, hd_BadLine, ca_BadLine, gn_, gt_, mo_BadLine⟩
  have FI_BadLine := fun_mk (st := st_i_BadLine) li_BadLine ci_BadLine ki_BadLine
  have bI_BadLine := FI_BadLine.binds (ps := ["self", ("line" : Str)]) fun _ _ _ _ _ _ us hl => match us, hl with | [_, _], _ => rfl
  have EE_BadLine : ExcR l.prog w K mg base 1 ("BadLine" : Str) (fun C => spI1 C ("line" : Str)) := ⟨C_BadLine, f_BadLine, _, _, OE_BadLine, in_BadLine, ty_BadLine, i_BadLine FI_BadLine OE_BadLine nb_BadLine_line MM_CellError CC_CellError, bI_BadLine, MM_BadLine⟩
  have EEK_BadLine : ExcRK l.prog w K mg base 1 ("BadLine" : Str) (fun C => spI1 C ("line" : Str)) [("line" : Str)] [0] := ⟨C_BadLine, f_BadLine, _, _, OE_BadLine, in_BadLine, ty_BadLine, i_BadLine FI_BadLine OE_BadLine nb_BadLine_line MM_CellError CC_CellError, (fun s v0 ws _ hl => match ws, hl with | [w0], _ => ⟨[w0], rfl, .of_eq rfl⟩), MM_BadLine⟩
  have SBB_BadLine : SubOk K mg [("NoIndex" : Str), ("NoValue" : Str), ("Unexplained" : Str), ("BadOrder" : Str), ("NoPosition" : Str), ("BadStamps" : Str), ("BadLog" : Str), ("BadTolerance" : Str), ("BadOperation" : Str), ("Written" : Str), ("TooMany" : Str), ("NothingToUndo" : Str), ("BadText" : Str), ("BadLine" : Str)] ("BadLine" : Str) (.ref C_BadLine) := by
    intro c hc
    simp only [List.mem_cons, List.not_mem_nil, or_false] at hc; rcases hc with rfl | rfl | rfl | rfl | rfl | rfl | rfl | rfl | rfl | rfl | rfl | rfl | rfl | rfl
    · exact ⟨C_NoIndex, MM_NoIndex, (exm_of ex_BadLine ix_BadLine tx_BadLine sb_NoIndex_BadLine).trans (by decide +kernel)⟩
    · exact ⟨C_NoValue, MM_NoValue, (exm_of ex_BadLine ix_BadLine tx_BadLine sb_NoValue_BadLine).trans (by decide +kernel)⟩
    · exact ⟨C_Unexplained, MM_Unexplained, (exm_of ex_BadLine ix_BadLine tx_BadLine sb_Unexplained_BadLine).trans (by decide +kernel)⟩
    · exact ⟨C_BadOrder, MM_BadOrder, (exm_of ex_BadLine ix_BadLine tx_BadLine sb_BadOrder_BadLine).trans (by decide +kernel)⟩
    · exact ⟨C_NoPosition, MM_NoPosition, (exm_of ex_BadLine ix_BadLine tx_BadLine sb_NoPosition_BadLine).trans (by decide +kernel)⟩
    · exact ⟨C_BadStamps, MM_BadStamps, (exm_of ex_BadLine ix_BadLine tx_BadLine sb_BadStamps_BadLine).trans (by decide +kernel)⟩
    · exact ⟨C_BadLog, MM_BadLog, (exm_of ex_BadLine ix_BadLine tx_BadLine sb_BadLog_BadLine).trans (by decide +kernel)⟩
    · exact ⟨C_BadTolerance, MM_BadTolerance, (exm_of ex_BadLine ix_BadLine tx_BadLine sb_BadTolerance_BadLine).trans (by decide +kernel)⟩
    · exact ⟨C_BadOperation, MM_BadOperation, (exm_of ex_BadLine ix_BadLine tx_BadLine sb_BadOperation_BadLine).trans (by decide +kernel)⟩
    · exact ⟨C_Written, MM_Written, (exm_of ex_BadLine ix_BadLine tx_BadLine sb_Written_BadLine).trans (by decide +kernel)⟩
    · exact ⟨C_TooMany, MM_TooMany, (exm_of ex_BadLine ix_BadLine tx_BadLine sb_TooMany_BadLine).trans (by decide +kernel)⟩
    · exact ⟨C_NothingToUndo, MM_NothingToUndo, (exm_of ex_BadLine ix_BadLine tx_BadLine sb_NothingToUndo_BadLine).trans (by decide +kernel)⟩
    · exact ⟨C_BadText, MM_BadText, (exm_of ex_BadLine ix_BadLine tx_BadLine sb_BadText_BadLine).trans (by decide +kernel)⟩
    · exact ⟨C_BadLine, MM_BadLine, (exm_of ex_BadLine ix_BadLine tx_BadLine sb_BadLine_BadLine).trans (by decide +kernel)⟩
  have ISS_BadLine : IsF K mg [("NoIndex" : Str), ("NoValue" : Str), ("Unexplained" : Str), ("BadOrder" : Str), ("NoPosition" : Str), ("BadStamps" : Str), ("BadLog" : Str), ("BadTolerance" : Str), ("BadOperation" : Str), ("Written" : Str), ("TooMany" : Str), ("NothingToUndo" : Str), ("BadText" : Str), ("BadLine" : Str)] ("BadLine" : Str) (.ref C_BadLine) := by
    intro c hc
    simp only [List.mem_cons, List.not_mem_nil, or_false] at hc; rcases hc with rfl | rfl | rfl | rfl | rfl | rfl | rfl | rfl | rfl | rfl | rfl | rfl | rfl | rfl
    · exact ⟨C_NoIndex, MM_NoIndex, XC_NoIndex, (kit_of ix_BadLine tx_BadLine sb_NoIndex_BadLine ne_NoIndex_BadLine).trans (by decide +kernel)⟩
    · exact ⟨C_NoValue, MM_NoValue, XC_NoValue, (kit_of ix_BadLine tx_BadLine sb_NoValue_BadLine ne_NoValue_BadLine).trans (by decide +kernel)⟩
    · exact ⟨C_Unexplained, MM_Unexplained, XC_Unexplained, (kit_of ix_BadLine tx_BadLine sb_Unexplained_BadLine ne_Unexplained_BadLine).trans (by decide +kernel)⟩
    · exact ⟨C_BadOrder, MM_BadOrder, XC_BadOrder, (kit_of ix_BadLine tx_BadLine sb_BadOrder_BadLine ne_BadOrder_BadLine).trans (by decide +kernel)⟩
    · exact ⟨C_NoPosition, MM_NoPosition, XC_NoPosition, (kit_of ix_BadLine tx_BadLine sb_NoPosition_BadLine ne_NoPosition_BadLine).trans (by decide +kernel)⟩
    · exact ⟨C_BadStamps, MM_BadStamps, XC_BadStamps, (kit_of ix_BadLine tx_BadLine sb_BadStamps_BadLine ne_BadStamps_BadLine).trans (by decide +kernel)⟩
    · exact ⟨C_BadLog, MM_BadLog, XC_BadLog, (kit_of ix_BadLine tx_BadLine sb_BadLog_BadLine ne_BadLog_BadLine).trans (by decide +kernel)⟩
    · exact ⟨C_BadTolerance, MM_BadTolerance, XC_BadTolerance, (kit_of ix_BadLine tx_BadLine sb_BadTolerance_BadLine ne_BadTolerance_BadLine).trans (by decide +kernel)⟩
    · exact ⟨C_BadOperation, MM_BadOperation, XC_BadOperation, (kit_of ix_BadLine tx_BadLine sb_BadOperation_BadLine ne_BadOperation_BadLine).trans (by decide +kernel)⟩
    · exact ⟨C_Written, MM_Written, XC_Written, (kit_of ix_BadLine tx_BadLine sb_Written_BadLine ne_Written_BadLine).trans (by decide +kernel)⟩
    · exact ⟨C_TooMany, MM_TooMany, XC_TooMany, (kit_of ix_BadLine tx_BadLine sb_TooMany_BadLine ne_TooMany_BadLine).trans (by decide +kernel)⟩
    · exact ⟨C_NothingToUndo, MM_NothingToUndo, XC_NothingToUndo, (kit_of ix_BadLine tx_BadLine sb_NothingToUndo_BadLine ne_NothingToUndo_BadLine).trans (by decide +kernel)⟩
    · exact ⟨C_BadText, MM_BadText, XC_BadText, (kit_of ix_BadLine tx_BadLine sb_BadText_BadLine ne_BadText_BadLine).trans (by decide +kernel)⟩
    · exact ⟨C_BadLine, MM_BadLine, XC_BadLine, (kit_of ix_BadLine tx_BadLine sb_BadLine_BadLine (fun _ => rfl)).trans (by decide +kernel)⟩
  have SBB_BadLog : SubOk K mg [("NoIndex" : Str), ("NoValue" : Str), ("Unexplained" : Str), ("BadOrder" : Str), ("NoPosition" : Str), ("BadStamps" : Str), ("BadLog" : Str), ("BadTolerance" : Str), ("BadOperation" : Str), ("Written" : Str), ("TooMany" : Str), ("NothingToUndo" : Str), ("BadText" : Str), ("BadLine" : Str)] ("BadLog" : Str) (.ref C_BadLog) := by
    intro c hc
    simp only [List.mem_cons, List.not_mem_nil, or_false] at hc; rcases hc with rfl | rfl | rfl | rfl | rfl | rfl | rfl | rfl | rfl | rfl | rfl | rfl | rfl | rfl
    · exact ⟨C_NoIndex, MM_NoIndex, (exm_of ex_BadLog ix_BadLog tx_BadLog sb_NoIndex_BadLog).trans (by decide +kernel)⟩
    · exact ⟨C_NoValue, MM_NoValue, (exm_of ex_BadLog ix_BadLog tx_BadLog sb_NoValue_BadLog).trans (by decide +kernel)⟩
    · exact ⟨C_Unexplained, MM_Unexplained, (exm_of ex_BadLog ix_BadLog tx_BadLog sb_Unexplained_BadLog).trans (by decide +kernel)⟩
    · exact ⟨C_BadOrder, MM_BadOrder, (exm_of ex_BadLog ix_BadLog tx_BadLog sb_BadOrder_BadLog).trans (by decide +kernel)⟩
    · exact ⟨C_NoPosition, MM_NoPosition, (exm_of ex_BadLog ix_BadLog tx_BadLog sb_NoPosition_BadLog).trans (by decide +kernel)⟩
    · exact ⟨C_BadStamps, MM_BadStamps, (exm_of ex_BadLog ix_BadLog tx_BadLog sb_BadStamps_BadLog).trans (by decide +kernel)⟩
    · exact ⟨C_BadLog, MM_BadLog, (exm_of ex_BadLog ix_BadLog tx_BadLog sb_BadLog_BadLog).trans (by decide +kernel)⟩
    · exact ⟨C_BadTolerance, MM_BadTolerance, (exm_of ex_BadLog ix_BadLog tx_BadLog sb_BadTolerance_BadLog).trans (by decide +kernel)⟩
    · exact ⟨C_BadOperation, MM_BadOperation, (exm_of ex_BadLog ix_BadLog tx_BadLog sb_BadOperation_BadLog).trans (by decide +kernel)⟩
    · exact ⟨C_Written, MM_Written, (exm_of ex_BadLog ix_BadLog tx_BadLog sb_Written_BadLog).trans (by decide +kernel)⟩
    · exact ⟨C_TooMany, MM_TooMany, (exm_of ex_BadLog ix_BadLog tx_BadLog sb_TooMany_BadLog).trans (by decide +kernel)⟩
    · exact ⟨C_NothingToUndo, MM_NothingToUndo, (exm_of ex_BadLog ix_BadLog tx_BadLog sb_NothingToUndo_BadLog).trans (by decide +kernel)⟩
    · exact ⟨C_BadText, MM_BadText, (exm_of ex_BadLog ix_BadLog tx_BadLog sb_BadText_BadLog).trans (by decide +kernel)⟩
    · exact ⟨C_BadLine, MM_BadLine, (exm_of ex_BadLog ix_BadLog tx_BadLog sb_BadLine_BadLog).trans (by decide +kernel)⟩
  have ISS_BadLog : IsF K mg [("NoIndex" : Str), ("NoValue" : Str), ("Unexplained" : Str), ("BadOrder" : Str), ("NoPosition" : Str), ("BadStamps" : Str), ("BadLog" : Str), ("BadTolerance" : Str), ("BadOperation" : Str), ("Written" : Str), ("TooMany" : Str), ("NothingToUndo" : Str), ("BadText" : Str), ("BadLine" : Str)] ("BadLog" : Str) (.ref C_BadLog) := by
    intro c hc
    simp only [List.mem_cons, List.not_mem_nil, or_false] at hc; rcases hc with rfl | rfl | rfl | rfl | rfl | rfl | rfl | rfl | rfl | rfl | rfl | rfl | rfl | rfl
    · exact ⟨C_NoIndex, MM_NoIndex, XC_NoIndex, (kit_of ix_BadLog tx_BadLog sb_NoIndex_BadLog ne_NoIndex_BadLog).trans (by decide +kernel)⟩
    · exact ⟨C_NoValue, MM_NoValue, XC_NoValue, (kit_of ix_BadLog tx_BadLog sb_NoValue_BadLog ne_NoValue_BadLog).trans (by decide +kernel)⟩
    · exact ⟨C_Unexplained, MM_Unexplained, XC_Unexplained, (kit_of ix_BadLog tx_BadLog sb_Unexplained_BadLog ne_Unexplained_BadLog).trans (by decide +kernel)⟩
    · exact ⟨C_BadOrder, MM_BadOrder, XC_BadOrder, (kit_of ix_BadLog tx_BadLog sb_BadOrder_BadLog ne_BadOrder_BadLog).trans (by decide +kernel)⟩
    · exact ⟨C_NoPosition, MM_NoPosition, XC_NoPosition, (kit_of ix_BadLog tx_BadLog sb_NoPosition_BadLog ne_NoPosition_BadLog).trans (by decide +kernel)⟩
    · exact ⟨C_BadStamps, MM_BadStamps, XC_BadStamps, (kit_of ix_BadLog tx_BadLog sb_BadStamps_BadLog ne_BadStamps_BadLog).trans (by decide +kernel)⟩
    · exact ⟨C_BadLog, MM_BadLog, XC_BadLog, (kit_of ix_BadLog tx_BadLog sb_BadLog_BadLog (fun _ => rfl)).trans (by decide +kernel)⟩
    · exact ⟨C_BadTolerance, MM_BadTolerance, XC_BadTolerance, (kit_of ix_BadLog tx_BadLog sb_BadTolerance_BadLog ne_BadTolerance_BadLog).trans (by decide +kernel)⟩
    · exact ⟨C_BadOperation, MM_BadOperation, XC_BadOperation, (kit_of ix_BadLog tx_BadLog sb_BadOperation_BadLog ne_BadOperation_BadLog).trans (by decide +kernel)⟩
    · exact ⟨C_Written, MM_Written, XC_Written, (kit_of ix_BadLog tx_BadLog sb_Written_BadLog ne_Written_BadLog).trans (by decide +kernel)⟩
    · exact ⟨C_TooMany, MM_TooMany, XC_TooMany, (kit_of ix_BadLog tx_BadLog sb_TooMany_BadLog ne_TooMany_BadLog).trans (by decide +kernel)⟩
    · exact ⟨C_NothingToUndo, MM_NothingToUndo, XC_NothingToUndo, (kit_of ix_BadLog tx_BadLog sb_NothingToUndo_BadLog ne_NothingToUndo_BadLog).trans (by decide +kernel)⟩
    · exact ⟨C_BadText, MM_BadText, XC_BadText, (kit_of ix_BadLog tx_BadLog sb_BadText_BadLog ne_BadText_BadLog).trans (by decide +kernel)⟩
    · exact ⟨C_BadLine, MM_BadLine, XC_BadLine, (kit_of ix_BadLog tx_BadLog sb_BadLine_BadLog ne_BadLine_BadLog).trans (by decide +kernel)⟩
  have SBB_BadOperation : SubOk K mg [("NoIndex" : Str), ("NoValue" : Str), ("Unexplained" : Str), ("BadOrder" : Str), ("NoPosition" : Str), ("BadStamps" : Str), ("BadLog" : Str), ("BadTolerance" : Str), ("BadOperation" : Str), ("Written" : Str), ("TooMany" : Str), ("NothingToUndo" : Str), ("BadText" : Str), ("BadLine" : Str)] ("BadOperation" : Str) (.ref C_BadOperation) := by
    intro c hc
    simp only [List.mem_cons, List.not_mem_nil, or_false] at hc; rcases hc with rfl | rfl | rfl | rfl | rfl | rfl | rfl | rfl | rfl | rfl | rfl | rfl | rfl | rfl
    · exact ⟨C_NoIndex, MM_NoIndex, (exm_of ex_BadOperation ix_BadOperation tx_BadOperation sb_NoIndex_BadOperation).trans (by decide +kernel)⟩
    · exact ⟨C_NoValue, MM_NoValue, (exm_of ex_BadOperation ix_BadOperation tx_BadOperation sb_NoValue_BadOperation).trans (by decide +kernel)⟩
    · exact ⟨C_Unexplained, MM_Unexplained, (exm_of ex_BadOperation ix_BadOperation tx_BadOperation sb_Unexplained_BadOperation).trans (by decide +kernel)⟩
    · exact ⟨C_BadOrder, MM_BadOrder, (exm_of ex_BadOperation ix_BadOperation tx_BadOperation sb_BadOrder_BadOperation).trans (by decide +kernel)⟩
    · exact ⟨C_NoPosition, MM_NoPosition, (exm_of ex_BadOperation ix_BadOperation tx_BadOperation sb_NoPosition_BadOperation).trans (by decide +kernel)⟩
    · exact ⟨C_BadStamps, MM_BadStamps, (exm_of ex_BadOperation ix_BadOperation tx_BadOperation sb_BadStamps_BadOperation).trans (by decide +kernel)⟩
    · exact ⟨C_BadLog, MM_BadLog, (exm_of ex_BadOperation ix_BadOperation tx_BadOperation sb_BadLog_BadOperation).trans (by decide +kernel)⟩
    · exact ⟨C_BadTolerance, MM_BadTolerance, (exm_of ex_BadOperation ix_BadOperation tx_BadOperation sb_BadTolerance_BadOperation).trans (by decide +kernel)⟩
    · exact ⟨C_BadOperation, MM_BadOperation, (exm_of ex_BadOperation ix_BadOperation tx_BadOperation sb_BadOperation_BadOperation).trans (by decide +kernel)⟩
    · exact ⟨C_Written, MM_Written, (exm_of ex_BadOperation ix_BadOperation tx_BadOperation sb_Written_BadOperation).trans (by decide +kernel)⟩
    · exact ⟨C_TooMany, MM_TooMany, (exm_of ex_BadOperation ix_BadOperation tx_BadOperation sb_TooMany_BadOperation).trans (by decide +kernel)⟩
    · exact ⟨C_NothingToUndo, MM_NothingToUndo, (exm_of ex_BadOperation ix_BadOperation tx_BadOperation sb_NothingToUndo_BadOperation).trans (by decide +kernel)⟩
    · exact ⟨C_BadText, MM_BadText, (exm_of ex_BadOperation ix_BadOperation tx_BadOperation sb_BadText_BadOperation).trans (by decide +kernel)⟩
    · exact ⟨C_BadLine, MM_BadLine, (exm_of ex_BadOperation ix_BadOperation tx_BadOperation sb_BadLine_BadOperation).trans (by decide +kernel)⟩
  have ISS_BadOperation : IsF K mg [("NoIndex" : Str), ("NoValue" : Str), ("Unexplained" : Str), ("BadOrder" : Str), ("NoPosition" : Str), ("BadStamps" : Str), ("BadLog" : Str), ("BadTolerance" : Str), ("BadOperation" : Str), ("Written" : Str), ("TooMany" : Str), ("NothingToUndo" : Str), ("BadText" : Str), ("BadLine" : Str)] ("BadOperation" : Str) (.ref C_BadOperation) := by
    intro c hc
    simp only [List.mem_cons, List.not_mem_nil, or_false] at hc; rcases hc with rfl | rfl | rfl | rfl | rfl | rfl | rfl | rfl | rfl | rfl | rfl | rfl | rfl | rfl
    · exact ⟨C_NoIndex, MM_NoIndex, XC_NoIndex, (kit_of ix_BadOperation tx_BadOperation sb_NoIndex_BadOperation ne_NoIndex_BadOperation).trans (by decide +kernel)⟩
    · exact ⟨C_NoValue, MM_NoValue, XC_NoValue, (kit_of ix_BadOperation tx_BadOperation sb_NoValue_BadOperation ne_NoValue_BadOperation).trans (by decide +kernel)⟩
    · exact ⟨C_Unexplained, MM_Unexplained, XC_Unexplained, (kit_of ix_BadOperation tx_BadOperation sb_Unexplained_BadOperation ne_Unexplained_BadOperation).trans (by decide +kernel)⟩
    · exact ⟨C_BadOrder, MM_BadOrder, XC_BadOrder, (kit_of ix_BadOperation tx_BadOperation sb_BadOrder_BadOperation ne_BadOrder_BadOperation).trans (by decide +kernel)⟩
    · exact ⟨C_NoPosition, MM_NoPosition, XC_NoPosition, (kit_of ix_BadOperation tx_BadOperation sb_NoPosition_BadOperation ne_NoPosition_BadOperation).trans (by decide +kernel)⟩
    · exact ⟨C_BadStamps, MM_BadStamps, XC_BadStamps, (kit_of ix_BadOperation tx_BadOperation sb_BadStamps_BadOperation ne_BadStamps_BadOperation).trans (by decide +kernel)⟩
    · exact ⟨C_BadLog, MM_BadLog, XC_BadLog, (kit_of ix_BadOperation tx_BadOperation sb_BadLog_BadOperation ne_BadLog_BadOperation).trans (by decide +kernel)⟩
    · exact ⟨C_BadTolerance, MM_BadTolerance, XC_BadTolerance, (kit_of ix_BadOperation tx_BadOperation sb_BadTolerance_BadOperation ne_BadTolerance_BadOperation).trans (by decide +kernel)⟩
    · exact ⟨C_BadOperation, MM_BadOperation, XC_BadOperation, (kit_of ix_BadOperation tx_BadOperation sb_BadOperation_BadOperation (fun _ => rfl)).trans (by decide +kernel)⟩
    · exact ⟨C_Written, MM_Written, XC_Written, (kit_of ix_BadOperation tx_BadOperation sb_Written_BadOperation ne_Written_BadOperation).trans (by decide +kernel)⟩
    · exact ⟨C_TooMany, MM_TooMany, XC_TooMany, (kit_of ix_BadOperation tx_BadOperation sb_TooMany_BadOperation ne_TooMany_BadOperation).trans (by decide +kernel)⟩
    · exact ⟨C_NothingToUndo, MM_NothingToUndo, XC_NothingToUndo, (kit_of ix_BadOperation tx_BadOperation sb_NothingToUndo_BadOperation ne_NothingToUndo_BadOperation).trans (by decide +kernel)⟩
    · exact ⟨C_BadText, MM_BadText, XC_BadText, (kit_of ix_BadOperation tx_BadOperation sb_BadText_BadOperation ne_BadText_BadOperation).trans (by decide +kernel)⟩
    · exact ⟨C_BadLine, MM_BadLine, XC_BadLine, (kit_of ix_BadOperation tx_BadOperation sb_BadLine_BadOperation ne_BadLine_BadOperation).trans (by decide +kernel)⟩
  have SBB_BadOrder : SubOk K mg [("NoIndex" : Str), ("NoValue" : Str), ("Unexplained" : Str), ("BadOrder" : Str), ("NoPosition" : Str), ("BadStamps" : Str), ("BadLog" : Str), ("BadTolerance" : Str), ("BadOperation" : Str), ("Written" : Str), ("TooMany" : Str), ("NothingToUndo" : Str), ("BadText" : Str), ("BadLine" : Str)] ("BadOrder" : Str) (.ref C_BadOrder) := by
    intro c hc
    simp only [List.mem_cons, List.not_mem_nil, or_false] at hc; rcases hc with rfl | rfl | rfl | rfl | rfl | rfl | rfl | rfl | rfl | rfl | rfl | rfl | rfl | rfl
    · exact ⟨C_NoIndex, MM_NoIndex, (exm_of ex_BadOrder ix_BadOrder tx_BadOrder sb_NoIndex_BadOrder).trans (by decide +kernel)⟩
    · exact ⟨C_NoValue, MM_NoValue, (exm_of ex_BadOrder ix_BadOrder tx_BadOrder sb_NoValue_BadOrder).trans (by decide +kernel)⟩
    · exact ⟨C_Unexplained, MM_Unexplained, (exm_of ex_BadOrder ix_BadOrder tx_BadOrder sb_Unexplained_BadOrder).trans (by decide +kernel)⟩
    · exact ⟨C_BadOrder, MM_BadOrder, (exm_of ex_BadOrder ix_BadOrder tx_BadOrder sb_BadOrder_BadOrder).trans (by decide +kernel)⟩
    · exact ⟨C_NoPosition, MM_NoPosition, (exm_of ex_BadOrder ix_BadOrder tx_BadOrder sb_NoPosition_BadOrder).trans (by decide +kernel)⟩
    · exact ⟨C_BadStamps, MM_BadStamps, (exm_of ex_BadOrder ix_BadOrder tx_BadOrder sb_BadStamps_BadOrder).trans (by decide +kernel)⟩
    · exact ⟨C_BadLog, MM_BadLog, (exm_of ex_BadOrder ix_BadOrder tx_BadOrder sb_BadLog_BadOrder).trans (by decide +kernel)⟩
    · exact ⟨C_BadTolerance, MM_BadTolerance, (exm_of ex_BadOrder ix_BadOrder tx_BadOrder sb_BadTolerance_BadOrder).trans (by decide +kernel)⟩
    · exact ⟨C_BadOperation, MM_BadOperation, (exm_of ex_BadOrder ix_BadOrder tx_BadOrder sb_BadOperation_BadOrder).trans (by decide +kernel)⟩
    · exact ⟨C_Written, MM_Written, (exm_of ex_BadOrder ix_BadOrder tx_BadOrder sb_Written_BadOrder).trans (by decide +kernel)⟩
    · exact ⟨C_TooMany, MM_TooMany, (exm_of ex_BadOrder ix_BadOrder tx_BadOrder sb_TooMany_BadOrder).trans (by decide +kernel)⟩
    · exact ⟨C_NothingToUndo, MM_NothingToUndo, (exm_of ex_BadOrder ix_BadOrder tx_BadOrder sb_NothingToUndo_BadOrder).trans (by decide +kernel)⟩
    · exact ⟨C_BadText, MM_BadText, (exm_of ex_BadOrder ix_BadOrder tx_BadOrder sb_BadText_BadOrder).trans (by decide +kernel)⟩
    · exact ⟨C_BadLine, MM_BadLine, (exm_of ex_BadOrder ix_BadOrder tx_BadOrder sb_BadLine_BadOrder).trans (by decide +kernel)⟩
  have ISS_BadOrder : IsF K mg [("NoIndex" : Str), ("NoValue" : Str), ("Unexplained" : Str), ("BadOrder" : Str), ("NoPosition" : Str), ("BadStamps" : Str), ("BadLog" : Str), ("BadTolerance" : Str), ("BadOperation" : Str), ("Written" : Str), ("TooMany" : Str), ("NothingToUndo" : Str), ("BadText" : Str), ("BadLine" : Str)] ("BadOrder" : Str) (.ref C_BadOrder) := by
    intro c hc
    simp only [List.mem_cons, List.not_mem_nil, or_false] at hc; rcases hc with rfl | rfl | rfl | rfl | rfl | rfl | rfl | rfl | rfl | rfl | rfl | rfl | rfl | rfl
    · exact ⟨C_NoIndex, MM_NoIndex, XC_NoIndex, (kit_of ix_BadOrder tx_BadOrder sb_NoIndex_BadOrder ne_NoIndex_BadOrder).trans (by decide +kernel)⟩
    · exact ⟨C_NoValue, MM_NoValue, XC_NoValue, (kit_of ix_BadOrder tx_BadOrder sb_NoValue_BadOrder ne_NoValue_BadOrder).trans (by decide +kernel)⟩
    · exact ⟨C_Unexplained, MM_Unexplained, XC_Unexplained, (kit_of ix_BadOrder tx_BadOrder sb_Unexplained_BadOrder ne_Unexplained_BadOrder).trans (by decide +kernel)⟩
    · exact ⟨C_BadOrder, MM_BadOrder, XC_BadOrder, (kit_of ix_BadOrder tx_BadOrder sb_BadOrder_BadOrder (fun _ => rfl)).trans (by decide +kernel)⟩
    · exact ⟨C_NoPosition, MM_NoPosition, XC_NoPosition, (kit_of ix_BadOrder tx_BadOrder sb_NoPosition_BadOrder ne_NoPosition_BadOrder).trans (by decide +kernel)⟩
    · exact ⟨C_BadStamps, MM_BadStamps, XC_BadStamps, (kit_of ix_BadOrder tx_BadOrder sb_BadStamps_BadOrder ne_BadStamps_BadOrder).trans (by decide +kernel)⟩
    · exact ⟨C_BadLog, MM_BadLog, XC_BadLog, (kit_of ix_BadOrder tx_BadOrder sb_BadLog_BadOrder ne_BadLog_BadOrder).trans (by decide +kernel)⟩
    · exact ⟨C_BadTolerance, MM_BadTolerance, XC_BadTolerance, (kit_of ix_BadOrder tx_BadOrder sb_BadTolerance_BadOrder ne_BadTolerance_BadOrder).trans (by decide +kernel)⟩
    · exact ⟨C_BadOperation, MM_BadOperation, XC_BadOperation, (kit_of ix_BadOrder tx_BadOrder sb_BadOperation_BadOrder ne_BadOperation_BadOrder).trans (by decide +kernel)⟩
    · exact ⟨C_Written, MM_Written, XC_Written, (kit_of ix_BadOrder tx_BadOrder sb_Written_BadOrder ne_Written_BadOrder).trans (by decide +kernel)⟩
    · exact ⟨C_TooMany, MM_TooMany, XC_TooMany, (kit_of ix_BadOrder tx_BadOrder sb_TooMany_BadOrder ne_TooMany_BadOrder).trans (by decide +kernel)⟩
    · exact ⟨C_NothingToUndo, MM_NothingToUndo, XC_NothingToUndo, (kit_of ix_BadOrder tx_BadOrder sb_NothingToUndo_BadOrder ne_NothingToUndo_BadOrder).trans (by decide +kernel)⟩
    · exact ⟨C_BadText, MM_BadText, XC_BadText, (kit_of ix_BadOrder tx_BadOrder sb_BadText_BadOrder ne_BadText_BadOrder).trans (by decide +kernel)⟩
    · exact ⟨C_BadLine, MM_BadLine, XC_BadLine, (kit_of ix_BadOrder tx_BadOrder sb_BadLine_BadOrder ne_BadLine_BadOrder).trans (by decide +kernel)⟩
  have SBB_BadStamps : SubOk K mg [("NoIndex" : Str), ("NoValue" : Str), ("Unexplained" : Str), ("BadOrder" : Str), ("NoPosition" : Str), ("BadStamps" : Str), ("BadLog" : Str), ("BadTolerance" : Str), ("BadOperation" : Str), ("Written" : Str), ("TooMany" : Str), ("NothingToUndo" : Str), ("BadText" : Str), ("BadLine" : Str)] ("BadStamps" : Str) (.ref C_BadStamps) := by
    intro c hc
    simp only [List.mem_cons, List.not_mem_nil, or_false] at hc; rcases hc with rfl | rfl | rfl | rfl | rfl | rfl | rfl | rfl | rfl | rfl | rfl | rfl | rfl | rfl
    · exact ⟨C_NoIndex, MM_NoIndex, (exm_of ex_BadStamps ix_BadStamps tx_BadStamps sb_NoIndex_BadStamps).trans (by decide +kernel)⟩
    · exact ⟨C_NoValue, MM_NoValue, (exm_of ex_BadStamps ix_BadStamps tx_BadStamps sb_NoValue_BadStamps).trans (by decide +kernel)⟩
    · exact ⟨C_Unexplained, MM_Unexplained, (exm_of ex_BadStamps ix_BadStamps tx_BadStamps sb_Unexplained_BadStamps).trans (by decide +kernel)⟩
    · exact ⟨C_BadOrder, MM_BadOrder, (exm_of ex_BadStamps ix_BadStamps tx_BadStamps sb_BadOrder_BadStamps).trans (by decide +kernel)⟩
    · exact ⟨C_NoPosition, MM_NoPosition, (exm_of ex_BadStamps ix_BadStamps tx_BadStamps sb_NoPosition_BadStamps).trans (by decide +kernel)⟩
    · exact ⟨C_BadStamps, MM_BadStamps, (exm_of ex_BadStamps ix_BadStamps tx_BadStamps sb_BadStamps_BadStamps).trans (by decide +kernel)⟩
    · exact ⟨C_BadLog, MM_BadLog, (exm_of ex_BadStamps ix_BadStamps tx_BadStamps sb_BadLog_BadStamps).trans (by decide +kernel)⟩
    · exact ⟨C_BadTolerance, MM_BadTolerance, (exm_of ex_BadStamps ix_BadStamps tx_BadStamps sb_BadTolerance_BadStamps).trans (by decide +kernel)⟩
    · exact ⟨C_BadOperation, MM_BadOperation, (exm_of ex_BadStamps ix_BadStamps tx_BadStamps sb_BadOperation_BadStamps).trans (by decide +kernel)⟩
    · exact ⟨C_Written, MM_Written, (exm_of ex_BadStamps ix_BadStamps tx_BadStamps sb_Written_BadStamps).trans (by decide +kernel)⟩
    · exact ⟨C_TooMany, MM_TooMany, (exm_of ex_BadStamps ix_BadStamps tx_BadStamps sb_TooMany_BadStamps).trans (by decide +kernel)⟩
    · exact ⟨C_NothingToUndo, MM_NothingToUndo, (exm_of ex_BadStamps ix_BadStamps tx_BadStamps sb_NothingToUndo_BadStamps).trans (by decide +kernel)⟩
    · exact ⟨C_BadText, MM_BadText, (exm_of ex_BadStamps ix_BadStamps tx_BadStamps sb_BadText_BadStamps).trans (by decide +kernel)⟩
    · exact ⟨C_BadLine, MM_BadLine, (exm_of ex_BadStamps ix_BadStamps tx_BadStamps sb_BadLine_BadStamps).trans (by decide +kernel)⟩
  have ISS_BadStamps : IsF K mg [("NoIndex" : Str), ("NoValue" : Str), ("Unexplained" : Str), ("BadOrder" : Str), ("NoPosition" : Str), ("BadStamps" : Str), ("BadLog" : Str), ("BadTolerance" : Str), ("BadOperation" : Str), ("Written" : Str), ("TooMany" : Str), ("NothingToUndo" : Str), ("BadText" : Str), ("BadLine" : Str)] ("BadStamps" : Str) (.ref C_BadStamps) := by
    intro c hc
    simp only [List.mem_cons, List.not_mem_nil, or_false] at hc; rcases hc with rfl | rfl | rfl | rfl | rfl | rfl | rfl | rfl | rfl | rfl | rfl | rfl | rfl | rfl
    · exact ⟨C_NoIndex, MM_NoIndex, XC_NoIndex, (kit_of ix_BadStamps tx_BadStamps sb_NoIndex_BadStamps ne_NoIndex_BadStamps).trans (by decide +kernel)⟩
    · exact ⟨C_NoValue, MM_NoValue, XC_NoValue, (kit_of ix_BadStamps tx_BadStamps sb_NoValue_BadStamps ne_NoValue_BadStamps).trans (by decide +kernel)⟩
    · exact ⟨C_Unexplained, MM_Unexplained, XC_Unexplained, (kit_of ix_BadStamps tx_BadStamps sb_Unexplained_BadStamps ne_Unexplained_BadStamps).trans (by decide +kernel)⟩
    · exact ⟨C_BadOrder, MM_BadOrder, XC_BadOrder, (kit_of ix_BadStamps tx_BadStamps sb_BadOrder_BadStamps ne_BadOrder_BadStamps).trans (by decide +kernel)⟩
    · exact ⟨C_NoPosition, MM_NoPosition, XC_NoPosition, (kit_of ix_BadStamps tx_BadStamps sb_NoPosition_BadStamps ne_NoPosition_BadStamps).trans (by decide +kernel)⟩
    · exact ⟨C_BadStamps, MM_BadStamps, XC_BadStamps, (kit_of ix_BadStamps tx_BadStamps sb_BadStamps_BadStamps (fun _ => rfl)).trans (by decide +kernel)⟩
    · exact ⟨C_BadLog, MM_BadLog, XC_BadLog, (kit_of ix_BadStamps tx_BadStamps sb_BadLog_BadStamps ne_BadLog_BadStamps).trans (by decide +kernel)⟩
    · exact ⟨C_BadTolerance, MM_BadTolerance, XC_BadTolerance, (kit_of ix_BadStamps tx_BadStamps sb_BadTolerance_BadStamps ne_BadTolerance_BadStamps).trans (by decide +kernel)⟩
    · exact ⟨C_BadOperation, MM_BadOperation, XC_BadOperation, (kit_of ix_BadStamps tx_BadStamps sb_BadOperation_BadStamps ne_BadOperation_BadStamps).trans (by decide +kernel)⟩
    · exact ⟨C_Written, MM_Written, XC_Written, (kit_of ix_BadStamps tx_BadStamps sb_Written_BadStamps ne_Written_BadStamps).trans (by decide +kernel)⟩
    · exact ⟨C_TooMany, MM_TooMany, XC_TooMany, (kit_of ix_BadStamps tx_BadStamps sb_TooMany_BadStamps ne_TooMany_BadStamps).trans (by decide +kernel)⟩
    · exact ⟨C_NothingToUndo, MM_NothingToUndo, XC_NothingToUndo, (kit_of ix_BadStamps tx_BadStamps sb_NothingToUndo_BadStamps ne_NothingToUndo_BadStamps).trans (by decide +kernel)⟩
    · exact ⟨C_BadText, MM_BadText, XC_BadText, (kit_of ix_BadStamps tx_BadStamps sb_BadText_BadStamps ne_BadText_BadStamps).trans (by decide +kernel)⟩
    · exact ⟨C_BadLine, MM_BadLine, XC_BadLine, (kit_of ix_BadStamps tx_BadStamps sb_BadLine_BadStamps ne_BadLine_BadStamps).trans (by decide +kernel)⟩
  have SBB_BadText : SubOk K mg [("NoIndex" : Str), ("NoValue" : Str), ("Unexplained" : Str), ("BadOrder" : Str), ("NoPosition" : Str), ("BadStamps" : Str), ("BadLog" : Str), ("BadTolerance" : Str), ("BadOperation" : Str), ("Written" : Str), ("TooMany" : Str), ("NothingToUndo" : Str), ("BadText" : Str), ("BadLine" : Str)] ("BadText" : Str) (.ref C_BadText) := by
    intro c hc
    simp only [List.mem_cons, List.not_mem_nil, or_false] at hc; rcases hc with rfl | rfl | rfl | rfl | rfl | rfl | rfl | rfl | rfl | rfl | rfl | rfl | rfl | rfl
    · exact ⟨C_NoIndex, MM_NoIndex, (exm_of ex_BadText ix_BadText tx_BadText sb_NoIndex_BadText).trans (by decide +kernel)⟩
    · exact ⟨C_NoValue, MM_NoValue, (exm_of ex_BadText ix_BadText tx_BadText sb_NoValue_BadText).trans (by decide +kernel)⟩
    · exact ⟨C_Unexplained, MM_Unexplained, (exm_of ex_BadText ix_BadText tx_BadText sb_Unexplained_BadText).trans (by decide +kernel)⟩
    · exact ⟨C_BadOrder, MM_BadOrder, (exm_of ex_BadText ix_BadText tx_BadText sb_BadOrder_BadText).trans (by decide +kernel)⟩
    · exact ⟨C_NoPosition, MM_NoPosition, (exm_of ex_BadText ix_BadText tx_BadText sb_NoPosition_BadText).trans (by decide +kernel)⟩
    · exact ⟨C_BadStamps, MM_BadStamps, (exm_of ex_BadText ix_BadText tx_BadText sb_BadStamps_BadText).trans (by decide +kernel)⟩
    · exact ⟨C_BadLog, MM_BadLog, (exm_of ex_BadText ix_BadText tx_BadText sb_BadLog_BadText).trans (by decide +kernel)⟩
    · exact ⟨C_BadTolerance, MM_BadTolerance, (exm_of ex_BadText ix_BadText tx_BadText sb_BadTolerance_BadText).trans (by decide +kernel)⟩
    · exact ⟨C_BadOperation, MM_BadOperation, (exm_of ex_BadText ix_BadText tx_BadText sb_BadOperation_BadText).trans (by decide +kernel)⟩
    · exact ⟨C_Written, MM_Written, (exm_of ex_BadText ix_BadText tx_BadText sb_Written_BadText).trans (by decide +kernel)⟩
    · exact ⟨C_TooMany, MM_TooMany, (exm_of ex_BadText ix_BadText tx_BadText sb_TooMany_BadText).trans (by decide +kernel)⟩
    · exact ⟨C_NothingToUndo, MM_NothingToUndo, (exm_of ex_BadText ix_BadText tx_BadText sb_NothingToUndo_BadText).trans (by decide +kernel)⟩
    · exact ⟨C_BadText, MM_BadText, (exm_of ex_BadText ix_BadText tx_BadText sb_BadText_BadText).trans (by decide +kernel)⟩
    · exact ⟨C_BadLine, MM_BadLine, (exm_of ex_BadText ix_BadText tx_BadText sb_BadLine_BadText).trans (by decide +kernel)⟩
  have ISS_BadText : IsF K mg [("NoIndex" : Str), ("NoValue" : Str), ("Unexplained" : Str), ("BadOrder" : Str), ("NoPosition" : Str), ("BadStamps" : Str), ("BadLog" : Str), ("BadTolerance" : Str), ("BadOperation" : Str), ("Written" : Str), ("TooMany" : Str), ("NothingToUndo" : Str), ("BadText" : Str), ("BadLine" : Str)] ("BadText" : Str) (.ref C_BadText) := by
    intro c hc
    simp only [List.mem_cons, List.not_mem_nil, or_false] at hc; rcases hc with rfl | rfl | rfl | rfl | rfl | rfl | rfl | rfl | rfl | rfl | rfl | rfl | rfl | rfl
    · exact ⟨C_NoIndex, MM_NoIndex, XC_NoIndex, (kit_of ix_BadText tx_BadText sb_NoIndex_BadText ne_NoIndex_BadText).trans (by decide +kernel)⟩
    · exact ⟨C_NoValue, MM_NoValue, XC_NoValue, (kit_of ix_BadText tx_BadText sb_NoValue_BadText ne_NoValue_BadText).trans (by decide +kernel)⟩
    · exact ⟨C_Unexplained, MM_Unexplained, XC_Unexplained, (kit_of ix_BadText tx_BadText sb_Unexplained_BadText ne_Unexplained_BadText).trans (by decide +kernel)⟩
    · exact ⟨C_BadOrder, MM_BadOrder, XC_BadOrder, (kit_of ix_BadText tx_BadText sb_BadOrder_BadText ne_BadOrder_BadText).trans (by decide +kernel)⟩
    · exact ⟨C_NoPosition, MM_NoPosition, XC_NoPosition, (kit_of ix_BadText tx_BadText sb_NoPosition_BadText ne_NoPosition_BadText).trans (by decide +kernel)⟩
    · exact ⟨C_BadStamps, MM_BadStamps, XC_BadStamps, (kit_of ix_BadText tx_BadText sb_BadStamps_BadText ne_BadStamps_BadText).trans (by decide +kernel)⟩
    · exact ⟨C_BadLog, MM_BadLog, XC_BadLog, (kit_of ix_BadText tx_BadText sb_BadLog_BadText ne_BadLog_BadText).trans (by decide +kernel)⟩
    · exact ⟨C_BadTolerance, MM_BadTolerance, XC_BadTolerance, (kit_of ix_BadText tx_BadText sb_BadTolerance_BadText ne_BadTolerance_BadText).trans (by decide +kernel)⟩
    · exact ⟨C_BadOperation, MM_BadOperation, XC_BadOperation, (kit_of ix_BadText tx_BadText sb_BadOperation_BadText ne_BadOperation_BadText).trans (by decide +kernel)⟩
    · exact ⟨C_Written, MM_Written, XC_Written, (kit_of ix_BadText tx_BadText sb_Written_BadText ne_Written_BadText).trans (by decide +kernel)⟩
    · exact ⟨C_TooMany, MM_TooMany, XC_TooMany, (kit_of ix_BadText tx_BadText sb_TooMany_BadText ne_TooMany_BadText).trans (by decide +kernel)⟩
    · exact ⟨C_NothingToUndo, MM_NothingToUndo, XC_NothingToUndo, (kit_of ix_BadText tx_BadText sb_NothingToUndo_BadText ne_NothingToUndo_BadText).trans (by decide +kernel)⟩
    · exact ⟨C_BadText, MM_BadText, XC_BadText, (kit_of ix_BadText tx_BadText sb_BadText_BadText (fun _ => rfl)).trans (by decide +kernel)⟩
    · exact ⟨C_BadLine, MM_BadLine, XC_BadLine, (kit_of ix_BadText tx_BadText sb_BadLine_BadText ne_BadLine_BadText).trans (by decide +kernel)⟩
  have SBB_BadTolerance : SubOk K mg [("NoIndex" : Str), ("NoValue" : Str), ("Unexplained" : Str), ("BadOrder" : Str), ("NoPosition" : Str), ("BadStamps" : Str), ("BadLog" : Str), ("BadTolerance" : Str), ("BadOperation" : Str), ("Written" : Str), ("TooMany" : Str), ("NothingToUndo" : Str), ("BadText" : Str), ("BadLine" : Str)] ("BadTolerance" : Str) (.ref C_BadTolerance) := by
    intro c hc
    simp only [List.mem_cons, List.not_mem_nil, or_false] at hc; rcases hc with rfl | rfl | rfl | rfl | rfl | rfl | rfl | rfl | rfl | rfl | rfl | rfl | rfl | rfl
    · exact ⟨C_NoIndex, MM_NoIndex, (exm_of ex_BadTolerance ix_BadTolerance tx_BadTolerance sb_NoIndex_BadTolerance).trans (by decide +kernel)⟩
    · exact ⟨C_NoValue, MM_NoValue, (exm_of ex_BadTolerance ix_BadTolerance tx_BadTolerance sb_NoValue_BadTolerance).trans (by decide +kernel)⟩
    · exact ⟨C_Unexplained, MM_Unexplained, (exm_of ex_BadTolerance ix_BadTolerance tx_BadTolerance sb_Unexplained_BadTolerance).trans (by decide +kernel)⟩
    · exact ⟨C_BadOrder, MM_BadOrder, (exm_of ex_BadTolerance ix_BadTolerance tx_BadTolerance sb_BadOrder_BadTolerance).trans (by decide +kernel)⟩
    · exact ⟨C_NoPosition, MM_NoPosition, (exm_of ex_BadTolerance ix_BadTolerance tx_BadTolerance sb_NoPosition_BadTolerance).trans (by decide +kernel)⟩
    · exact ⟨C_BadStamps, MM_BadStamps, (exm_of ex_BadTolerance ix_BadTolerance tx_BadTolerance sb_BadStamps_BadTolerance).trans (by decide +kernel)⟩
    · exact ⟨C_BadLog, MM_BadLog, (exm_of ex_BadTolerance ix_BadTolerance tx_BadTolerance sb_BadLog_BadTolerance).trans (by decide +kernel)⟩
    · exact ⟨C_BadTolerance, MM_BadTolerance, (exm_of ex_BadTolerance ix_BadTolerance tx_BadTolerance sb_BadTolerance_BadTolerance).trans (by decide +kernel)⟩
    · exact ⟨C_BadOperation, MM_BadOperation, (exm_of ex_BadTolerance ix_BadTolerance tx_BadTolerance sb_BadOperation_BadTolerance).trans (by decide +kernel)⟩
    · exact ⟨C_Written, MM_Written, (exm_of ex_BadTolerance ix_BadTolerance tx_BadTolerance sb_Written_BadTolerance).trans (by decide +kernel)⟩
    · exact ⟨C_TooMany, MM_TooMany, (exm_of ex_BadTolerance ix_BadTolerance tx_BadTolerance sb_TooMany_BadTolerance).trans (by decide +kernel)⟩
    · exact ⟨C_NothingToUndo, MM_NothingToUndo, (exm_of ex_BadTolerance ix_BadTolerance tx_BadTolerance sb_NothingToUndo_BadTolerance).trans (by decide +kernel)⟩
    · exact ⟨C_BadText, MM_BadText, (exm_of ex_BadTolerance ix_BadTolerance tx_BadTolerance sb_BadText_BadTolerance).trans (by decide +kernel)⟩
    · exact ⟨C_BadLine, MM_BadLine, (exm_of ex_BadTolerance ix_BadTolerance tx_BadTolerance sb_BadLine_BadTolerance).trans (by decide +kernel)⟩
  have ISS_BadTolerance : IsF K mg [("NoIndex" : Str), ("NoValue" : Str), ("Unexplained" : Str), ("BadOrder" : Str), ("NoPosition" : Str), ("BadStamps" : Str), ("BadLog" : Str), ("BadTolerance" : Str), ("BadOperation" : Str), ("Written" : Str), ("TooMany" : Str), ("NothingToUndo" : Str), ("BadText" : Str), ("BadLine" : Str)] ("BadTolerance" : Str) (.ref C_BadTolerance) := by
    intro c hc
    simp only [List.mem_cons, List.not_mem_nil, or_false] at hc; rcases hc with rfl | rfl | rfl | rfl | rfl | rfl | rfl | rfl | rfl | rfl | rfl | rfl | rfl | rfl
    · exact ⟨C_NoIndex, MM_NoIndex, XC_NoIndex, (kit_of ix_BadTolerance tx_BadTolerance sb_NoIndex_BadTolerance ne_NoIndex_BadTolerance).trans (by decide +kernel)⟩
    · exact ⟨C_NoValue, MM_NoValue, XC_NoValue, (kit_of ix_BadTolerance tx_BadTolerance sb_NoValue_BadTolerance ne_NoValue_BadTolerance).trans (by decide +kernel)⟩
    · exact ⟨C_Unexplained, MM_Unexplained, XC_Unexplained, (kit_of ix_BadTolerance tx_BadTolerance sb_Unexplained_BadTolerance ne_Unexplained_BadTolerance).trans (by decide +kernel)⟩
    · exact ⟨C_BadOrder, MM_BadOrder, XC_BadOrder, (kit_of ix_BadTolerance tx_BadTolerance sb_BadOrder_BadTolerance ne_BadOrder_BadTolerance).trans (by decide +kernel)⟩
    · exact ⟨C_NoPosition, MM_NoPosition, XC_NoPosition, (kit_of ix_BadTolerance tx_BadTolerance sb_NoPosition_BadTolerance ne_NoPosition_BadTolerance).trans (by decide +kernel)⟩
    · exact ⟨C_BadStamps, MM_BadStamps, XC_BadStamps, (kit_of ix_BadTolerance tx_BadTolerance sb_BadStamps_BadTolerance ne_BadStamps_BadTolerance).trans (by decide +kernel)⟩
    · exact ⟨C_BadLog, MM_BadLog, XC_BadLog, (kit_of ix_BadTolerance tx_BadTolerance sb_BadLog_BadTolerance ne_BadLog_BadTolerance).trans (by decide +kernel)⟩
    · exact ⟨C_BadTolerance, MM_BadTolerance, XC_BadTolerance, (kit_of ix_BadTolerance tx_BadTolerance sb_BadTolerance_BadTolerance (fun _ => rfl)).trans (by decide +kernel)⟩
    · exact ⟨C_BadOperation, MM_BadOperation, XC_BadOperation, (kit_of ix_BadTolerance tx_BadTolerance sb_BadOperation_BadTolerance ne_BadOperation_BadTolerance).trans (by decide +kernel)⟩
    · exact ⟨C_Written, MM_Written, XC_Written, (kit_of ix_BadTolerance tx_BadTolerance sb_Written_BadTolerance ne_Written_BadTolerance).trans (by decide +kernel)⟩
    · exact ⟨C_TooMany, MM_TooMany, XC_TooMany, (kit_of ix_BadTolerance tx_BadTolerance sb_TooMany_BadTolerance ne_TooMany_BadTolerance).trans (by decide +kernel)⟩
    · exact ⟨C_NothingToUndo, MM_NothingToUndo, XC_NothingToUndo, (kit_of ix_BadTolerance tx_BadTolerance sb_NothingToUndo_BadTolerance ne_NothingToUndo_BadTolerance).trans (by decide +kernel)⟩
    · exact ⟨C_BadText, MM_BadText, XC_BadText, (kit_of ix_BadTolerance tx_BadTolerance sb_BadText_BadTolerance ne_BadText_BadTolerance).trans (by decide +kernel)⟩
    · exact ⟨C_BadLine, MM_BadLine, XC_BadLine, (kit_of ix_BadTolerance tx_BadTolerance sb_BadLine_BadTolerance ne_BadLine_BadTolerance).trans (by decide +kernel)⟩
  have SBB_CellError : SubOk K mg [("NoIndex" : Str), ("NoValue" : Str), ("Unexplained" : Str), ("BadOrder" : Str), ("NoPosition" : Str), ("BadStamps" : Str), ("BadLog" : Str), ("BadTolerance" : Str), ("BadOperation" : Str), ("Written" : Str), ("TooMany" : Str), ("NothingToUndo" : Str), ("BadText" : Str), ("BadLine" : Str)] ("CellError" : Str) (.ref C_CellError) := by
    intro c hc
    simp only [List.mem_cons, List.not_mem_nil, or_false] at hc; rcases hc with rfl | rfl | rfl | rfl | rfl | rfl | rfl | rfl | rfl | rfl | rfl | rfl | rfl | rfl
    · exact ⟨C_NoIndex, MM_NoIndex, (exm_of ex_CellError ix_CellError tx_CellError sb_NoIndex_CellError).trans (by decide +kernel)⟩
    · exact ⟨C_NoValue, MM_NoValue, (exm_of ex_CellError ix_CellError tx_CellError sb_NoValue_CellError).trans (by decide +kernel)⟩
    · exact ⟨C_Unexplained, MM_Unexplained, (exm_of ex_CellError ix_CellError tx_CellError sb_Unexplained_CellError).trans (by decide +kernel)⟩
    · exact ⟨C_BadOrder, MM_BadOrder, (exm_of ex_CellError ix_CellError tx_CellError sb_BadOrder_CellError).trans (by decide +kernel)⟩
    · exact ⟨C_NoPosition, MM_NoPosition, (exm_of ex_CellError ix_CellError tx_CellError sb_NoPosition_CellError).trans (by decide +kernel)⟩
    · exact ⟨C_BadStamps, MM_BadStamps, (exm_of ex_CellError ix_CellError tx_CellError sb_BadStamps_CellError).trans (by decide +kernel)⟩
    · exact ⟨C_BadLog, MM_BadLog, (exm_of ex_CellError ix_CellError tx_CellError sb_BadLog_CellError).trans (by decide +kernel)⟩
    · exact ⟨C_BadTolerance, MM_BadTolerance, (exm_of ex_CellError ix_CellError tx_CellError sb_BadTolerance_CellError).trans (by decide +kernel)⟩
    · exact ⟨C_BadOperation, MM_BadOperation, (exm_of ex_CellError ix_CellError tx_CellError sb_BadOperation_CellError).trans (by decide +kernel)⟩
    · exact ⟨C_Written, MM_Written, (exm_of ex_CellError ix_CellError tx_CellError sb_Written_CellError).trans (by decide +kernel)⟩
    · exact ⟨C_TooMany, MM_TooMany, (exm_of ex_CellError ix_CellError tx_CellError sb_TooMany_CellError).trans (by decide +kernel)⟩
    · exact ⟨C_NothingToUndo, MM_NothingToUndo, (exm_of ex_CellError ix_CellError tx_CellError sb_NothingToUndo_CellError).trans (by decide +kernel)⟩
    · exact ⟨C_BadText, MM_BadText, (exm_of ex_CellError ix_CellError tx_CellError sb_BadText_CellError).trans (by decide +kernel)⟩
    · exact ⟨C_BadLine, MM_BadLine, (exm_of ex_CellError ix_CellError tx_CellError sb_BadLine_CellError).trans (by decide +kernel)⟩
  have ISS_CellError : IsF K mg [("NoIndex" : Str), ("NoValue" : Str), ("Unexplained" : Str), ("BadOrder" : Str), ("NoPosition" : Str), ("BadStamps" : Str), ("BadLog" : Str), ("BadTolerance" : Str), ("BadOperation" : Str), ("Written" : Str), ("TooMany" : Str), ("NothingToUndo" : Str), ("BadText" : Str), ("BadLine" : Str)] ("CellError" : Str) (.ref C_CellError) := by
    intro c hc
    simp only [List.mem_cons, List.not_mem_nil, or_false] at hc; rcases hc with rfl | rfl | rfl | rfl | rfl | rfl | rfl | rfl | rfl | rfl | rfl | rfl | rfl | rfl
    · exact ⟨C_NoIndex, MM_NoIndex, XC_NoIndex, (kit_of ix_CellError tx_CellError sb_NoIndex_CellError (fun _ => rfl)).trans (by decide +kernel)⟩
    · exact ⟨C_NoValue, MM_NoValue, XC_NoValue, (kit_of ix_CellError tx_CellError sb_NoValue_CellError (fun _ => rfl)).trans (by decide +kernel)⟩
    · exact ⟨C_Unexplained, MM_Unexplained, XC_Unexplained, (kit_of ix_CellError tx_CellError sb_Unexplained_CellError (fun _ => rfl)).trans (by decide +kernel)⟩
    · exact ⟨C_BadOrder, MM_BadOrder, XC_BadOrder, (kit_of ix_CellError tx_CellError sb_BadOrder_CellError (fun _ => rfl)).trans (by decide +kernel)⟩
    · exact ⟨C_NoPosition, MM_NoPosition, XC_NoPosition, (kit_of ix_CellError tx_CellError sb_NoPosition_CellError (fun _ => rfl)).trans (by decide +kernel)⟩
    · exact ⟨C_BadStamps, MM_BadStamps, XC_BadStamps, (kit_of ix_CellError tx_CellError sb_BadStamps_CellError (fun _ => rfl)).trans (by decide +kernel)⟩
    · exact ⟨C_BadLog, MM_BadLog, XC_BadLog, (kit_of ix_CellError tx_CellError sb_BadLog_CellError (fun _ => rfl)).trans (by decide +kernel)⟩
    · exact ⟨C_BadTolerance, MM_BadTolerance, XC_BadTolerance, (kit_of ix_CellError tx_CellError sb_BadTolerance_CellError (fun _ => rfl)).trans (by decide +kernel)⟩
    · exact ⟨C_BadOperation, MM_BadOperation, XC_BadOperation, (kit_of ix_CellError tx_CellError sb_BadOperation_CellError (fun _ => rfl)).trans (by decide +kernel)⟩
    · exact ⟨C_Written, MM_Written, XC_Written, (kit_of ix_CellError tx_CellError sb_Written_CellError (fun _ => rfl)).trans (by decide +kernel)⟩
    · exact ⟨C_TooMany, MM_TooMany, XC_TooMany, (kit_of ix_CellError tx_CellError sb_TooMany_CellError (fun _ => rfl)).trans (by decide +kernel)⟩
    · exact ⟨C_NothingToUndo, MM_NothingToUndo, XC_NothingToUndo, (kit_of ix_CellError tx_CellError sb_NothingToUndo_CellError (fun _ => rfl)).trans (by decide +kernel)⟩
    · exact ⟨C_BadText, MM_BadText, XC_BadText, (kit_of ix_CellError tx_CellError sb_BadText_CellError (fun _ => rfl)).trans (by decide +kernel)⟩
    · exact ⟨C_BadLine, MM_BadLine, XC_BadLine, (kit_of ix_CellError tx_CellError sb_BadLine_CellError (fun _ => rfl)).trans (by decide +kernel)⟩
  have SBB_NoIndex : SubOk K mg [("NoIndex" : Str), ("NoValue" : Str), ("Unexplained" : Str), ("BadOrder" : Str), ("NoPosition" : Str), ("BadStamps" : Str), ("BadLog" : Str), ("BadTolerance" : Str), ("BadOperation" : Str), ("Written" : Str), ("TooMany" : Str), ("NothingToUndo" : Str), ("BadText" : Str), ("BadLine" : Str)] ("NoIndex" : Str) (.ref C_NoIndex) := by
    intro c hc
    simp only [List.mem_cons, List.not_mem_nil, or_false] at hc; rcases hc with rfl | rfl | rfl | rfl | rfl | rfl | rfl | rfl | rfl | rfl | rfl | rfl | rfl | rfl
    · exact ⟨C_NoIndex, MM_NoIndex, (exm_of ex_NoIndex ix_NoIndex tx_NoIndex sb_NoIndex_NoIndex).trans (by decide +kernel)⟩
    · exact ⟨C_NoValue, MM_NoValue, (exm_of ex_NoIndex ix_NoIndex tx_NoIndex sb_NoValue_NoIndex).trans (by decide +kernel)⟩
    · exact ⟨C_Unexplained, MM_Unexplained, (exm_of ex_NoIndex ix_NoIndex tx_NoIndex sb_Unexplained_NoIndex).trans (by decide +kernel)⟩
    · exact ⟨C_BadOrder, MM_BadOrder, (exm_of ex_NoIndex ix_NoIndex tx_NoIndex sb_BadOrder_NoIndex).trans (by decide +kernel)⟩
    · exact ⟨C_NoPosition, MM_NoPosition, (exm_of ex_NoIndex ix_NoIndex tx_NoIndex sb_NoPosition_NoIndex).trans (by decide +kernel)⟩
    · exact ⟨C_BadStamps, MM_BadStamps, (exm_of ex_NoIndex ix_NoIndex tx_NoIndex sb_BadStamps_NoIndex).trans (by decide +kernel)⟩
    · exact ⟨C_BadLog, MM_BadLog, (exm_of ex_NoIndex ix_NoIndex tx_NoIndex sb_BadLog_NoIndex).trans (by decide +kernel)⟩
    · exact ⟨C_BadTolerance, MM_BadTolerance, (exm_of ex_NoIndex ix_NoIndex tx_NoIndex sb_BadTolerance_NoIndex).trans (by decide +kernel)⟩
    · exact ⟨C_BadOperation, MM_BadOperation, (exm_of ex_NoIndex ix_NoIndex tx_NoIndex sb_BadOperation_NoIndex).trans (by decide +kernel)⟩
    · exact ⟨C_Written, MM_Written, (exm_of ex_NoIndex ix_NoIndex tx_NoIndex sb_Written_NoIndex).trans (by decide +kernel)⟩
    · exact ⟨C_TooMany, MM_TooMany, (exm_of ex_NoIndex ix_NoIndex tx_NoIndex sb_TooMany_NoIndex).trans (by decide +kernel)⟩
    · exact ⟨C_NothingToUndo, MM_NothingToUndo, (exm_of ex_NoIndex ix_NoIndex tx_NoIndex sb_NothingToUndo_NoIndex).trans (by decide +kernel)⟩
    · exact ⟨C_BadText, MM_BadText, (exm_of ex_NoIndex ix_NoIndex tx_NoIndex sb_BadText_NoIndex).trans (by decide +kernel)⟩
    · exact ⟨C_BadLine, MM_BadLine, (exm_of ex_NoIndex ix_NoIndex tx_NoIndex sb_BadLine_NoIndex).trans (by decide +kernel)⟩
  have ISS_NoIndex : IsF K mg [("NoIndex" : Str), ("NoValue" : Str), ("Unexplained" : Str), ("BadOrder" : Str), ("NoPosition" : Str), ("BadStamps" : Str), ("BadLog" : Str), ("BadTolerance" : Str), ("BadOperation" : Str), ("Written" : Str), ("TooMany" : Str), ("NothingToUndo" : Str), ("BadText" : Str), ("BadLine" : Str)] ("NoIndex" : Str) (.ref C_NoIndex) := by
    intro c hc
    simp only [List.mem_cons, List.not_mem_nil, or_false] at hc; rcases hc with rfl | rfl | rfl | rfl | rfl | rfl | rfl | rfl | rfl | rfl | rfl | rfl | rfl | rfl
    · exact ⟨C_NoIndex, MM_NoIndex, XC_NoIndex, (kit_of ix_NoIndex tx_NoIndex sb_NoIndex_NoIndex (fun _ => rfl)).trans (by decide +kernel)⟩
    · exact ⟨C_NoValue, MM_NoValue, XC_NoValue, (kit_of ix_NoIndex tx_NoIndex sb_NoValue_NoIndex ne_NoValue_NoIndex).trans (by decide +kernel)⟩
    · exact ⟨C_Unexplained, MM_Unexplained, XC_Unexplained, (kit_of ix_NoIndex tx_NoIndex sb_Unexplained_NoIndex ne_Unexplained_NoIndex).trans (by decide +kernel)⟩
    · exact ⟨C_BadOrder, MM_BadOrder, XC_BadOrder, (kit_of ix_NoIndex tx_NoIndex sb_BadOrder_NoIndex ne_BadOrder_NoIndex).trans (by decide +kernel)⟩
    · exact ⟨C_NoPosition, MM_NoPosition, XC_NoPosition, (kit_of ix_NoIndex tx_NoIndex sb_NoPosition_NoIndex ne_NoPosition_NoIndex).trans (by decide +kernel)⟩
    · exact ⟨C_BadStamps, MM_BadStamps, XC_BadStamps, (kit_of ix_NoIndex tx_NoIndex sb_BadStamps_NoIndex ne_BadStamps_NoIndex).trans (by decide +kernel)⟩
    · exact ⟨C_BadLog, MM_BadLog, XC_BadLog, (kit_of ix_NoIndex tx_NoIndex sb_BadLog_NoIndex ne_BadLog_NoIndex).trans (by decide +kernel)⟩
    · exact ⟨C_BadTolerance, MM_BadTolerance, XC_BadTolerance, (kit_of ix_NoIndex tx_NoIndex sb_BadTolerance_NoIndex ne_BadTolerance_NoIndex).trans (by decide +kernel)⟩
    · exact ⟨C_BadOperation, MM_BadOperation, XC_BadOperation, (kit_of ix_NoIndex tx_NoIndex sb_BadOperation_NoIndex ne_BadOperation_NoIndex).trans (by decide +kernel)⟩
    · exact ⟨C_Written, MM_Written, XC_Written, (kit_of ix_NoIndex tx_NoIndex sb_Written_NoIndex ne_Written_NoIndex).trans (by decide +kernel)⟩
    · exact ⟨C_TooMany, MM_TooMany, XC_TooMany, (kit_of ix_NoIndex tx_NoIndex sb_TooMany_NoIndex ne_TooMany_NoIndex).trans (by decide +kernel)⟩
    · exact ⟨C_NothingToUndo, MM_NothingToUndo, XC_NothingToUndo, (kit_of ix_NoIndex tx_NoIndex sb_NothingToUndo_NoIndex ne_NothingToUndo_NoIndex).trans (by decide +kernel)⟩
    · exact ⟨C_BadText, MM_BadText, XC_BadText, (kit_of ix_NoIndex tx_NoIndex sb_BadText_NoIndex ne_BadText_NoIndex).trans (by decide +kernel)⟩
    · exact ⟨C_BadLine, MM_BadLine, XC_BadLine, (kit_of ix_NoIndex tx_NoIndex sb_BadLine_NoIndex ne_BadLine_NoIndex).trans (by decide +kernel)⟩
  have SBB_NoPosition : SubOk K mg [("NoIndex" : Str), ("NoValue" : Str), ("Unexplained" : Str), ("BadOrder" : Str), ("NoPosition" : Str), ("BadStamps" : Str), ("BadLog" : Str), ("BadTolerance" : Str), ("BadOperation" : Str), ("Written" : Str), ("TooMany" : Str), ("NothingToUndo" : Str), ("BadText" : Str), ("BadLine" : Str)] ("NoPosition" : Str) (.ref C_NoPosition) := by
    intro c hc
    simp only [List.mem_cons, List.not_mem_nil, or_false] at hc; rcases hc with rfl | rfl | rfl | rfl | rfl | rfl | rfl | rfl | rfl | rfl | rfl | rfl | rfl | rfl
    · exact ⟨C_NoIndex, MM_NoIndex, (exm_of ex_NoPosition ix_NoPosition tx_NoPosition sb_NoIndex_NoPosition).trans (by decide +kernel)⟩
    · exact ⟨C_NoValue, MM_NoValue, (exm_of ex_NoPosition ix_NoPosition tx_NoPosition sb_NoValue_NoPosition).trans (by decide +kernel)⟩
    · exact ⟨C_Unexplained, MM_Unexplained, (exm_of ex_NoPosition ix_NoPosition tx_NoPosition sb_Unexplained_NoPosition).trans (by decide +kernel)⟩
    · exact ⟨C_BadOrder, MM_BadOrder, (exm_of ex_NoPosition ix_NoPosition tx_NoPosition sb_BadOrder_NoPosition).trans (by decide +kernel)⟩
    · exact ⟨C_NoPosition, MM_NoPosition, (exm_of ex_NoPosition ix_NoPosition tx_NoPosition sb_NoPosition_NoPosition).trans (by decide +kernel)⟩
    · exact ⟨C_BadStamps, MM_BadStamps, (exm_of ex_NoPosition ix_NoPosition tx_NoPosition sb_BadStamps_NoPosition).trans (by decide +kernel)⟩
    · exact ⟨C_BadLog, MM_BadLog, (exm_of ex_NoPosition ix_NoPosition tx_NoPosition sb_BadLog_NoPosition).trans (by decide +kernel)⟩
    · exact ⟨C_BadTolerance, MM_BadTolerance, (exm_of ex_NoPosition ix_NoPosition tx_NoPosition sb_BadTolerance_NoPosition).trans (by decide +kernel)⟩
    · exact ⟨C_BadOperation, MM_BadOperation, (exm_of ex_NoPosition ix_NoPosition tx_NoPosition sb_BadOperation_NoPosition).trans (by decide +kernel)⟩
    · exact ⟨C_Written, MM_Written, (exm_of ex_NoPosition ix_NoPosition tx_NoPosition sb_Written_NoPosition).trans (by decide +kernel)⟩
    · exact ⟨C_TooMany, MM_TooMany, (exm_of ex_NoPosition ix_NoPosition tx_NoPosition sb_TooMany_NoPosition).trans (by decide +kernel)⟩
    · exact ⟨C_NothingToUndo, MM_NothingToUndo, (exm_of ex_NoPosition ix_NoPosition tx_NoPosition sb_NothingToUndo_NoPosition).trans (by decide +kernel)⟩
    · exact ⟨C_BadText, MM_BadText, (exm_of ex_NoPosition ix_NoPosition tx_NoPosition sb_BadText_NoPosition).trans (by decide +kernel)⟩
    · exact ⟨C_BadLine, MM_BadLine, (exm_of ex_NoPosition ix_NoPosition tx_NoPosition sb_BadLine_NoPosition).trans (by decide +kernel)⟩
  have ISS_NoPosition : IsF K mg [("NoIndex" : Str), ("NoValue" : Str), ("Unexplained" : Str), ("BadOrder" : Str), ("NoPosition" : Str), ("BadStamps" : Str), ("BadLog" : Str), ("BadTolerance" : Str), ("BadOperation" : Str), ("Written" : Str), ("TooMany" : Str), ("NothingToUndo" : Str), ("BadText" : Str), ("BadLine" : Str)] ("NoPosition" : Str) (.ref C_NoPosition) := by
    intro c hc
    simp only [List.mem_cons, List.not_mem_nil, or_false] at hc; rcases hc with rfl | rfl | rfl | rfl | rfl | rfl | rfl | rfl | rfl | rfl | rfl | rfl | rfl | rfl
    · exact ⟨C_NoIndex, MM_NoIndex, XC_NoIndex, (kit_of ix_NoPosition tx_NoPosition sb_NoIndex_NoPosition ne_NoIndex_NoPosition).trans (by decide +kernel)⟩
    · exact ⟨C_NoValue, MM_NoValue, XC_NoValue, (kit_of ix_NoPosition tx_NoPosition sb_NoValue_NoPosition ne_NoValue_NoPosition).trans (by decide +kernel)⟩
    · exact ⟨C_Unexplained, MM_Unexplained, XC_Unexplained, (kit_of ix_NoPosition tx_NoPosition sb_Unexplained_NoPosition ne_Unexplained_NoPosition).trans (by decide +kernel)⟩
    · exact ⟨C_BadOrder, MM_BadOrder, XC_BadOrder, (kit_of ix_NoPosition tx_NoPosition sb_BadOrder_NoPosition ne_BadOrder_NoPosition).trans (by decide +kernel)⟩
    · exact ⟨C_NoPosition, MM_NoPosition, XC_NoPosition, (kit_of ix_NoPosition tx_NoPosition sb_NoPosition_NoPosition (fun _ => rfl)).trans (by decide +kernel)⟩
    · exact ⟨C_BadStamps, MM_BadStamps, XC_BadStamps, (kit_of ix_NoPosition tx_NoPosition sb_BadStamps_NoPosition ne_BadStamps_NoPosition).trans (by decide +kernel)⟩
    · exact ⟨C_BadLog, MM_BadLog, XC_BadLog, (kit_of ix_NoPosition tx_NoPosition sb_BadLog_NoPosition ne_BadLog_NoPosition).trans (by decide +kernel)⟩
    · exact ⟨C_BadTolerance, MM_BadTolerance, XC_BadTolerance, (kit_of ix_NoPosition tx_NoPosition sb_BadTolerance_NoPosition ne_BadTolerance_NoPosition).trans (by decide +kernel)⟩
    · exact ⟨C_BadOperation, MM_BadOperation, XC_BadOperation, (kit_of ix_NoPosition tx_NoPosition sb_BadOperation_NoPosition ne_BadOperation_NoPosition).trans (by decide +kernel)⟩
    · exact ⟨C_Written, MM_Written, XC_Written, (kit_of ix_NoPosition tx_NoPosition sb_Written_NoPosition ne_Written_NoPosition).trans (by decide +kernel)⟩
    · exact ⟨C_TooMany, MM_TooMany, XC_TooMany, (kit_of ix_NoPosition tx_NoPosition sb_TooMany_NoPosition ne_TooMany_NoPosition).trans (by decide +kernel)⟩
    · exact ⟨C_NothingToUndo, MM_NothingToUndo, XC_NothingToUndo, (kit_of ix_NoPosition tx_NoPosition sb_NothingToUndo_NoPosition ne_NothingToUndo_NoPosition).trans (by decide +kernel)⟩
    · exact ⟨C_BadText, MM_BadText, XC_BadText, (kit_of ix_NoPosition tx_NoPosition sb_BadText_NoPosition ne_BadText_NoPosition).trans (by decide +kernel)⟩
    · exact ⟨C_BadLine, MM_BadLine, XC_BadLine, (kit_of ix_NoPosition tx_NoPosition sb_BadLine_NoPosition ne_BadLine_NoPosition).trans (by decide +kernel)⟩
  have SBB_NoValue : SubOk K mg [("NoIndex" : Str), ("NoValue" : Str), ("Unexplained" : Str), ("BadOrder" : Str), ("NoPosition" : Str), ("BadStamps" : Str), ("BadLog" : Str), ("BadTolerance" : Str), ("BadOperation" : Str), ("Written" : Str), ("TooMany" : Str), ("NothingToUndo" : Str), ("BadText" : Str), ("BadLine" : Str)] ("NoValue" : Str) (.ref C_NoValue) := by
    intro c hc
    simp only [List.mem_cons, List.not_mem_nil, or_false] at hc; rcases hc with rfl | rfl | rfl | rfl | rfl | rfl | rfl | rfl | rfl | rfl | rfl | rfl | rfl | rfl
    · exact ⟨C_NoIndex, MM_NoIndex, (exm_of ex_NoValue ix_NoValue tx_NoValue sb_NoIndex_NoValue).trans (by decide +kernel)⟩
    · exact ⟨C_NoValue, MM_NoValue, (exm_of ex_NoValue ix_NoValue tx_NoValue sb_NoValue_NoValue).trans (by decide +kernel)⟩
    · exact ⟨C_Unexplained, MM_Unexplained, (exm_of ex_NoValue ix_NoValue tx_NoValue sb_Unexplained_NoValue).trans (by decide +kernel)⟩
    · exact ⟨C_BadOrder, MM_BadOrder, (exm_of ex_NoValue ix_NoValue tx_NoValue sb_BadOrder_NoValue).trans (by decide +kernel)⟩
    · exact ⟨C_NoPosition, MM_NoPosition, (exm_of ex_NoValue ix_NoValue tx_NoValue sb_NoPosition_NoValue).trans (by decide +kernel)⟩
    · exact ⟨C_BadStamps, MM_BadStamps, (exm_of ex_NoValue ix_NoValue tx_NoValue sb_BadStamps_NoValue).trans (by decide +kernel)⟩
    · exact ⟨C_BadLog, MM_BadLog, (exm_of ex_NoValue ix_NoValue tx_NoValue sb_BadLog_NoValue).trans (by decide +kernel)⟩
    · exact ⟨C_BadTolerance, MM_BadTolerance, (exm_of ex_NoValue ix_NoValue tx_NoValue sb_BadTolerance_NoValue).trans (by decide +kernel)⟩
    · exact ⟨C_BadOperation, MM_BadOperation, (exm_of ex_NoValue ix_NoValue tx_NoValue sb_BadOperation_NoValue).trans (by decide +kernel)⟩
    · exact ⟨C_Written, MM_Written, (exm_of ex_NoValue ix_NoValue tx_NoValue sb_Written_NoValue).trans (by decide +kernel)⟩
    · exact ⟨C_TooMany, MM_TooMany, (exm_of ex_NoValue ix_NoValue tx_NoValue sb_TooMany_NoValue).trans (by decide +kernel)⟩
    · exact ⟨C_NothingToUndo, MM_NothingToUndo, (exm_of ex_NoValue ix_NoValue tx_NoValue sb_NothingToUndo_NoValue).trans (by decide +kernel)⟩
    · exact ⟨C_BadText, MM_BadText, (exm_of ex_NoValue ix_NoValue tx_NoValue sb_BadText_NoValue).trans (by decide +kernel)⟩
    · exact ⟨C_BadLine, MM_BadLine, (exm_of ex_NoValue ix_NoValue tx_NoValue sb_BadLine_NoValue).trans (by decide +kernel)⟩
  have ISS_NoValue : IsF K mg [("NoIndex" : Str), ("NoValue" : Str), ("Unexplained" : Str), ("BadOrder" : Str), ("NoPosition" : Str), ("BadStamps" : Str), ("BadLog" : Str), ("BadTolerance" : Str), ("BadOperation" : Str), ("Written" : Str), ("TooMany" : Str), ("NothingToUndo" : Str), ("BadText" : Str), ("BadLine" : Str)] ("NoValue" : Str) (.ref C_NoValue) := by
    intro c hc
    simp only [List.mem_cons, List.not_mem_nil, or_false] at hc; rcases hc with rfl | rfl | rfl | rfl | rfl | rfl | rfl | rfl | rfl | rfl | rfl | rfl | rfl | rfl
    · exact ⟨C_NoIndex, MM_NoIndex, XC_NoIndex, (kit_of ix_NoValue tx_NoValue sb_NoIndex_NoValue ne_NoIndex_NoValue).trans (by decide +kernel)⟩
    · exact ⟨C_NoValue, MM_NoValue, XC_NoValue, (kit_of ix_NoValue tx_NoValue sb_NoValue_NoValue (fun _ => rfl)).trans (by decide +kernel)⟩
    · exact ⟨C_Unexplained, MM_Unexplained, XC_Unexplained, (kit_of ix_NoValue tx_NoValue sb_Unexplained_NoValue ne_Unexplained_NoValue).trans (by decide +kernel)⟩
    · exact ⟨C_BadOrder, MM_BadOrder, XC_BadOrder, (kit_of ix_NoValue tx_NoValue sb_BadOrder_NoValue ne_BadOrder_NoValue).trans (by decide +kernel)⟩
    · exact ⟨C_NoPosition, MM_NoPosition, XC_NoPosition, (kit_of ix_NoValue tx_NoValue sb_NoPosition_NoValue ne_NoPosition_NoValue).trans (by decide +kernel)⟩
    · exact ⟨C_BadStamps, MM_BadStamps, XC_BadStamps, (kit_of ix_NoValue tx_NoValue sb_BadStamps_NoValue ne_BadStamps_NoValue).trans (by decide +kernel)⟩
    · exact ⟨C_BadLog, MM_BadLog, XC_BadLog, (kit_of ix_NoValue tx_NoValue sb_BadLog_NoValue ne_BadLog_NoValue).trans (by decide +kernel)⟩
    · exact ⟨C_BadTolerance, MM_BadTolerance, XC_BadTolerance, (kit_of ix_NoValue tx_NoValue sb_BadTolerance_NoValue ne_BadTolerance_NoValue).trans (by decide +kernel)⟩
    · exact ⟨C_BadOperation, MM_BadOperation, XC_BadOperation, (kit_of ix_NoValue tx_NoValue sb_BadOperation_NoValue ne_BadOperation_NoValue).trans (by decide +kernel)⟩
    · exact ⟨C_Written, MM_Written, XC_Written, (kit_of ix_NoValue tx_NoValue sb_Written_NoValue ne_Written_NoValue).trans (by decide +kernel)⟩
    · exact ⟨C_TooMany, MM_TooMany, XC_TooMany, (kit_of ix_NoValue tx_NoValue sb_TooMany_NoValue ne_TooMany_NoValue).trans (by decide +kernel)⟩
    · exact ⟨C_NothingToUndo, MM_NothingToUndo, XC_NothingToUndo, (kit_of ix_NoValue tx_NoValue sb_NothingToUndo_NoValue ne_NothingToUndo_NoValue).trans (by decide +kernel)⟩
    · exact ⟨C_BadText, MM_BadText, XC_BadText, (kit_of ix_NoValue tx_NoValue sb_BadText_NoValue ne_BadText_NoValue).trans (by decide +kernel)⟩
    · exact ⟨C_BadLine, MM_BadLine, XC_BadLine, (kit_of ix_NoValue tx_NoValue sb_BadLine_NoValue ne_BadLine_NoValue).trans (by decide +kernel)⟩
  have SBB_NothingToUndo : SubOk K mg [("NoIndex" : Str), ("NoValue" : Str), ("Unexplained" : Str), ("BadOrder" : Str), ("NoPosition" : Str), ("BadStamps" : Str), ("BadLog" : Str), ("BadTolerance" : Str), ("BadOperation" : Str), ("Written" : Str), ("TooMany" : Str), ("NothingToUndo" : Str), ("BadText" : Str), ("BadLine" : Str)] ("NothingToUndo" : Str) (.ref C_NothingToUndo) := by
    intro c hc
    simp only [List.mem_cons, List.not_mem_nil, or_false] at hc; rcases hc with rfl | rfl | rfl | rfl | rfl | rfl | rfl | rfl | rfl | rfl | rfl | rfl | rfl | rfl
    · exact ⟨C_NoIndex, MM_NoIndex, (exm_of ex_NothingToUndo ix_NothingToUndo tx_NothingToUndo sb_NoIndex_NothingToUndo).trans (by decide +kernel)⟩
    · exact ⟨C_NoValue, MM_NoValue, (exm_of ex_NothingToUndo ix_NothingToUndo tx_NothingToUndo sb_NoValue_NothingToUndo).trans (by decide +kernel)⟩
    · exact ⟨C_Unexplained, MM_Unexplained, (exm_of ex_NothingToUndo ix_NothingToUndo tx_NothingToUndo sb_Unexplained_NothingToUndo).trans (by decide +kernel)⟩
    · exact ⟨C_BadOrder, MM_BadOrder, (exm_of ex_NothingToUndo ix_NothingToUndo tx_NothingToUndo sb_BadOrder_NothingToUndo).trans (by decide +kernel)⟩
    · exact ⟨C_NoPosition, MM_NoPosition, (exm_of ex_NothingToUndo ix_NothingToUndo tx_NothingToUndo sb_NoPosition_NothingToUndo).trans (by decide +kernel)⟩
    · exact ⟨C_BadStamps, MM_BadStamps, (exm_of ex_NothingToUndo ix_NothingToUndo tx_NothingToUndo sb_BadStamps_NothingToUndo).trans (by decide +kernel)⟩
    · exact ⟨C_BadLog, MM_BadLog, (exm_of ex_NothingToUndo ix_NothingToUndo tx_NothingToUndo sb_BadLog_NothingToUndo).trans (by decide +kernel)⟩
    · exact ⟨C_BadTolerance, MM_BadTolerance, (exm_of ex_NothingToUndo ix_NothingToUndo tx_NothingToUndo sb_BadTolerance_NothingToUndo).trans (by decide +kernel)⟩
    · exact ⟨C_BadOperation, MM_BadOperation, (exm_of ex_NothingToUndo ix_NothingToUndo tx_NothingToUndo sb_BadOperation_NothingToUndo).trans (by decide +kernel)⟩
    · exact ⟨C_Written, MM_Written, (exm_of ex_NothingToUndo ix_NothingToUndo tx_NothingToUndo sb_Written_NothingToUndo).trans (by decide +kernel)⟩
    · exact ⟨C_TooMany, MM_TooMany, (exm_of ex_NothingToUndo ix_NothingToUndo tx_NothingToUndo sb_TooMany_NothingToUndo).trans (by decide +kernel)⟩
    · exact ⟨C_NothingToUndo, MM_NothingToUndo, (exm_of ex_NothingToUndo ix_NothingToUndo tx_NothingToUndo sb_NothingToUndo_NothingToUndo).trans (by decide +kernel)⟩
    · exact ⟨C_BadText, MM_BadText, (exm_of ex_NothingToUndo ix_NothingToUndo tx_NothingToUndo sb_BadText_NothingToUndo).trans (by decide +kernel)⟩
    · exact ⟨C_BadLine, MM_BadLine, (exm_of ex_NothingToUndo ix_NothingToUndo tx_NothingToUndo sb_BadLine_NothingToUndo).trans (by decide +kernel)⟩
  have ISS_NothingToUndo : IsF K mg [("NoIndex" : Str), ("NoValue" : Str), ("Unexplained" : Str), ("BadOrder" : Str), ("NoPosition" : Str), ("BadStamps" : Str), ("BadLog" : Str), ("BadTolerance" : Str), ("BadOperation" : Str), ("Written" : Str), ("TooMany" : Str), ("NothingToUndo" : Str), ("BadText" : Str), ("BadLine" : Str)] ("NothingToUndo" : Str) (.ref C_NothingToUndo) := by
    intro c hc
    simp only [List.mem_cons, List.not_mem_nil, or_false] at hc; rcases hc with rfl | rfl | rfl | rfl | rfl | rfl | rfl | rfl | rfl | rfl | rfl | rfl | rfl | rfl
    · exact ⟨C_NoIndex, MM_NoIndex, XC_NoIndex, (kit_of ix_NothingToUndo tx_NothingToUndo sb_NoIndex_NothingToUndo ne_NoIndex_NothingToUndo).trans (by decide +kernel)⟩
    · exact ⟨C_NoValue, MM_NoValue, XC_NoValue, (kit_of ix_NothingToUndo tx_NothingToUndo sb_NoValue_NothingToUndo ne_NoValue_NothingToUndo).trans (by decide +kernel)⟩
    · exact ⟨C_Unexplained, MM_Unexplained, XC_Unexplained, (kit_of ix_NothingToUndo tx_NothingToUndo sb_Unexplained_NothingToUndo ne_Unexplained_NothingToUndo).trans (by decide +kernel)⟩
    · exact ⟨C_BadOrder, MM_BadOrder, XC_BadOrder, (kit_of ix_NothingToUndo tx_NothingToUndo sb_BadOrder_NothingToUndo ne_BadOrder_NothingToUndo).trans (by decide +kernel)⟩
    · exact ⟨C_NoPosition, MM_NoPosition, XC_NoPosition, (kit_of ix_NothingToUndo tx_NothingToUndo sb_NoPosition_NothingToUndo ne_NoPosition_NothingToUndo).trans (by decide +kernel)⟩
    · exact ⟨C_BadStamps, MM_BadStamps, XC_BadStamps, (kit_of ix_NothingToUndo tx_NothingToUndo sb_BadStamps_NothingToUndo ne_BadStamps_NothingToUndo).trans (by decide +kernel)⟩
    · exact ⟨C_BadLog, MM_BadLog, XC_BadLog, (kit_of ix_NothingToUndo tx_NothingToUndo sb_BadLog_NothingToUndo ne_BadLog_NothingToUndo).trans (by decide +kernel)⟩
    · exact ⟨C_BadTolerance, MM_BadTolerance, XC_BadTolerance, (kit_of ix_NothingToUndo tx_NothingToUndo sb_BadTolerance_NothingToUndo ne_BadTolerance_NothingToUndo).trans (by decide +kernel)⟩
    · exact ⟨C_BadOperation, MM_BadOperation, XC_BadOperation, (kit_of ix_NothingToUndo tx_NothingToUndo sb_BadOperation_NothingToUndo ne_BadOperation_NothingToUndo).trans (by decide +kernel)⟩
    · exact ⟨C_Written, MM_Written, XC_Written, (kit_of ix_NothingToUndo tx_NothingToUndo sb_Written_NothingToUndo ne_Written_NothingToUndo).trans (by decide +kernel)⟩
    · exact ⟨C_TooMany, MM_TooMany, XC_TooMany, (kit_of ix_NothingToUndo tx_NothingToUndo sb_TooMany_NothingToUndo ne_TooMany_NothingToUndo).trans (by decide +kernel)⟩
    · exact ⟨C_NothingToUndo, MM_NothingToUndo, XC_NothingToUndo, (kit_of ix_NothingToUndo tx_NothingToUndo sb_NothingToUndo_NothingToUndo (fun _ => rfl)).trans (by decide +kernel)⟩
    · exact ⟨C_BadText, MM_BadText, XC_BadText, (kit_of ix_NothingToUndo tx_NothingToUndo sb_BadText_NothingToUndo ne_BadText_NothingToUndo).trans (by decide +kernel)⟩
    · exact ⟨C_BadLine, MM_BadLine, XC_BadLine, (kit_of ix_NothingToUndo tx_NothingToUndo sb_BadLine_NothingToUndo ne_BadLine_NothingToUndo).trans (by decide +kernel)⟩
  have SBB_TooMany : SubOk K mg [("NoIndex" : Str), ("NoValue" : Str), ("Unexplained" : Str), ("BadOrder" : Str), ("NoPosition" : Str), ("BadStamps" : Str), ("BadLog" : Str), ("BadTolerance" : Str), ("BadOperation" : Str), ("Written" : Str), ("TooMany" : Str), ("NothingToUndo" : Str), ("BadText" : Str), ("BadLine" : Str)] ("TooMany" : Str) (.ref C_TooMany) := by
    intro c hc
    simp only [List.mem_cons, List.not_mem_nil, or_false] at hc; rcases hc with rfl | rfl | rfl | rfl | rfl | rfl | rfl | rfl | rfl | rfl | rfl | rfl | rfl | rfl
    · exact ⟨C_NoIndex, MM_NoIndex, (exm_of ex_TooMany ix_TooMany tx_TooMany sb_NoIndex_TooMany).trans (by decide +kernel)⟩
    · exact ⟨C_NoValue, MM_NoValue, (exm_of ex_TooMany ix_TooMany tx_TooMany sb_NoValue_TooMany).trans (by decide +kernel)⟩
    · exact ⟨C_Unexplained, MM_Unexplained, (exm_of ex_TooMany ix_TooMany tx_TooMany sb_Unexplained_TooMany).trans (by decide +kernel)⟩
    · exact ⟨C_BadOrder, MM_BadOrder, (exm_of ex_TooMany ix_TooMany tx_TooMany sb_BadOrder_TooMany).trans (by decide +kernel)⟩
    · exact ⟨C_NoPosition, MM_NoPosition, (exm_of ex_TooMany ix_TooMany tx_TooMany sb_NoPosition_TooMany).trans (by decide +kernel)⟩
    · exact ⟨C_BadStamps, MM_BadStamps, (exm_of ex_TooMany ix_TooMany tx_TooMany sb_BadStamps_TooMany).trans (by decide +kernel)⟩
    · exact ⟨C_BadLog, MM_BadLog, (exm_of ex_TooMany ix_TooMany tx_TooMany sb_BadLog_TooMany).trans (by decide +kernel)⟩
    · exact ⟨C_BadTolerance, MM_BadTolerance, (exm_of ex_TooMany ix_TooMany tx_TooMany sb_BadTolerance_TooMany).trans (by decide +kernel)⟩
    · exact ⟨C_BadOperation, MM_BadOperation, (exm_of ex_TooMany ix_TooMany tx_TooMany sb_BadOperation_TooMany).trans (by decide +kernel)⟩
    · exact ⟨C_Written, MM_Written, (exm_of ex_TooMany ix_TooMany tx_TooMany sb_Written_TooMany).trans (by decide +kernel)⟩
    · exact ⟨C_TooMany, MM_TooMany, (exm_of ex_TooMany ix_TooMany tx_TooMany sb_TooMany_TooMany).trans (by decide +kernel)⟩
    · exact ⟨C_NothingToUndo, MM_NothingToUndo, (exm_of ex_TooMany ix_TooMany tx_TooMany sb_NothingToUndo_TooMany).trans (by decide +kernel)⟩
    · exact ⟨C_BadText, MM_BadText, (exm_of ex_TooMany ix_TooMany tx_TooMany sb_BadText_TooMany).trans (by decide +kernel)⟩
    · exact ⟨C_BadLine, MM_BadLine, (exm_of ex_TooMany ix_TooMany tx_TooMany sb_BadLine_TooMany).trans (by decide +kernel)⟩
  have ISS_TooMany : IsF K mg [("NoIndex" : Str), ("NoValue" : Str), ("Unexplained" : Str), ("BadOrder" : Str), ("NoPosition" : Str), ("BadStamps" : Str), ("BadLog" : Str), ("BadTolerance" : Str), ("BadOperation" : Str), ("Written" : Str), ("TooMany" : Str), ("NothingToUndo" : Str), ("BadText" : Str), ("BadLine" : Str)] ("TooMany" : Str) (.ref C_TooMany) := by
    intro c hc
    simp only [List.mem_cons, List.not_mem_nil, or_false] at hc; rcases hc with rfl | rfl | rfl | rfl | rfl | rfl | rfl | rfl | rfl | rfl | rfl | rfl | rfl | rfl
    · exact ⟨C_NoIndex, MM_NoIndex, XC_NoIndex, (kit_of ix_TooMany tx_TooMany sb_NoIndex_TooMany ne_NoIndex_TooMany).trans (by decide +kernel)⟩
    · exact ⟨C_NoValue, MM_NoValue, XC_NoValue, (kit_of ix_TooMany tx_TooMany sb_NoValue_TooMany ne_NoValue_TooMany).trans (by decide +kernel)⟩
    · exact ⟨C_Unexplained, MM_Unexplained, XC_Unexplained, (kit_of ix_TooMany tx_TooMany sb_Unexplained_TooMany ne_Unexplained_TooMany).trans (by decide +kernel)⟩
    · exact ⟨C_BadOrder, MM_BadOrder, XC_BadOrder, (kit_of ix_TooMany tx_TooMany sb_BadOrder_TooMany ne_BadOrder_TooMany).trans (by decide +kernel)⟩
    · exact ⟨C_NoPosition, MM_NoPosition, XC_NoPosition, (kit_of ix_TooMany tx_TooMany sb_NoPosition_TooMany ne_NoPosition_TooMany).trans (by decide +kernel)⟩
    · exact ⟨C_BadStamps, MM_BadStamps, XC_BadStamps, (kit_of ix_TooMany tx_TooMany sb_BadStamps_TooMany ne_BadStamps_TooMany).trans (by decide +kernel)⟩
    · exact ⟨C_BadLog, MM_BadLog, XC_BadLog, (kit_of ix_TooMany tx_TooMany sb_BadLog_TooMany ne_BadLog_TooMany).trans (by decide +kernel)⟩
    · exact ⟨C_BadTolerance, MM_BadTolerance, XC_BadTolerance, (kit_of ix_TooMany tx_TooMany sb_BadTolerance_TooMany ne_BadTolerance_TooMany).trans (by decide +kernel)⟩
    · exact ⟨C_BadOperation, MM_BadOperation, XC_BadOperation, (kit_of ix_TooMany tx_TooMany sb_BadOperation_TooMany ne_BadOperation_TooMany).trans (by decide +kernel)⟩
    · exact ⟨C_Written, MM_Written, XC_Written, (kit_of ix_TooMany tx_TooMany sb_Written_TooMany ne_Written_TooMany).trans (by decide +kernel)⟩
    · exact ⟨C_TooMany, MM_TooMany, XC_TooMany, (kit_of ix_TooMany tx_TooMany sb_TooMany_TooMany (fun _ => rfl)).trans (by decide +kernel)⟩
    · exact ⟨C_NothingToUndo, MM_NothingToUndo, XC_NothingToUndo, (kit_of ix_TooMany tx_TooMany sb_NothingToUndo_TooMany ne_NothingToUndo_TooMany).trans (by decide +kernel)⟩
    · exact ⟨C_BadText, MM_BadText, XC_BadText, (kit_of ix_TooMany tx_TooMany sb_BadText_TooMany ne_BadText_TooMany).trans (by decide +kernel)⟩
    · exact ⟨C_BadLine, MM_BadLine, XC_BadLine, (kit_of ix_TooMany tx_TooMany sb_BadLine_TooMany ne_BadLine_TooMany).trans (by decide +kernel)⟩
  have SBB_Unexplained : SubOk K mg [("NoIndex" : Str), ("NoValue" : Str), ("Unexplained" : Str), ("BadOrder" : Str), ("NoPosition" : Str), ("BadStamps" : Str), ("BadLog" : Str), ("BadTolerance" : Str), ("BadOperation" : Str), ("Written" : Str), ("TooMany" : Str), ("NothingToUndo" : Str), ("BadText" : Str), ("BadLine" : Str)] ("Unexplained" : Str) (.ref C_Unexplained) := by
    intro c hc
    simp only [List.mem_cons, List.not_mem_nil, or_false] at hc; rcases hc with rfl | rfl | rfl | rfl | rfl | rfl | rfl | rfl | rfl | rfl | rfl | rfl | rfl | rfl
    · exact ⟨C_NoIndex, MM_NoIndex, (exm_of ex_Unexplained ix_Unexplained tx_Unexplained sb_NoIndex_Unexplained).trans (by decide +kernel)⟩
    · exact ⟨C_NoValue, MM_NoValue, (exm_of ex_Unexplained ix_Unexplained tx_Unexplained sb_NoValue_Unexplained).trans (by decide +kernel)⟩
    · exact ⟨C_Unexplained, MM_Unexplained, (exm_of ex_Unexplained ix_Unexplained tx_Unexplained sb_Unexplained_Unexplained).trans (by decide +kernel)⟩
    · exact ⟨C_BadOrder, MM_BadOrder, (exm_of ex_Unexplained ix_Unexplained tx_Unexplained sb_BadOrder_Unexplained).trans (by decide +kernel)⟩
    · exact ⟨C_NoPosition, MM_NoPosition, (exm_of ex_Unexplained ix_Unexplained tx_Unexplained sb_NoPosition_Unexplained).trans (by decide +kernel)⟩
    · exact ⟨C_BadStamps, MM_BadStamps, (exm_of ex_Unexplained ix_Unexplained tx_Unexplained sb_BadStamps_Unexplained).trans (by decide +kernel)⟩
    · exact ⟨C_BadLog, MM_BadLog, (exm_of ex_Unexplained ix_Unexplained tx_Unexplained sb_BadLog_Unexplained).trans (by decide +kernel)⟩
    · exact ⟨C_BadTolerance, MM_BadTolerance, (exm_of ex_Unexplained ix_Unexplained tx_Unexplained sb_BadTolerance_Unexplained).trans (by decide +kernel)⟩
    · exact ⟨C_BadOperation, MM_BadOperation, (exm_of ex_Unexplained ix_Unexplained tx_Unexplained sb_BadOperation_Unexplained).trans (by decide +kernel)⟩
    · exact ⟨C_Written, MM_Written, (exm_of ex_Unexplained ix_Unexplained tx_Unexplained sb_Written_Unexplained).trans (by decide +kernel)⟩
    · exact ⟨C_TooMany, MM_TooMany, (exm_of ex_Unexplained ix_Unexplained tx_Unexplained sb_TooMany_Unexplained).trans (by decide +kernel)⟩
    · exact ⟨C_NothingToUndo, MM_NothingToUndo, (exm_of ex_Unexplained ix_Unexplained tx_Unexplained sb_NothingToUndo_Unexplained).trans (by decide +kernel)⟩
    · exact ⟨C_BadText, MM_BadText, (exm_of ex_Unexplained ix_Unexplained tx_Unexplained sb_BadText_Unexplained).trans (by decide +kernel)⟩
    · exact ⟨C_BadLine, MM_BadLine, (exm_of ex_Unexplained ix_Unexplained tx_Unexplained sb_BadLine_Unexplained).trans (by decide +kernel)⟩
  have ISS_Unexplained : IsF K mg [("NoIndex" : Str), ("NoValue" : Str), ("Unexplained" : Str), ("BadOrder" : Str), ("NoPosition" : Str), ("BadStamps" : Str), ("BadLog" : Str), ("BadTolerance" : Str), ("BadOperation" : Str), ("Written" : Str), ("TooMany" : Str), ("NothingToUndo" : Str), ("BadText" : Str), ("BadLine" : Str)] ("Unexplained" : Str) (.ref C_Unexplained) := by
    intro c hc
    simp only [List.mem_cons, List.not_mem_nil, or_false] at hc; rcases hc with rfl | rfl | rfl | rfl | rfl | rfl | rfl | rfl | rfl | rfl | rfl | rfl | rfl | rfl
    · exact ⟨C_NoIndex, MM_NoIndex, XC_NoIndex, (kit_of ix_Unexplained tx_Unexplained sb_NoIndex_Unexplained ne_NoIndex_Unexplained).trans (by decide +kernel)⟩
    · exact ⟨C_NoValue, MM_NoValue, XC_NoValue, (kit_of ix_Unexplained tx_Unexplained sb_NoValue_Unexplained ne_NoValue_Unexplained).trans (by decide +kernel)⟩
    · exact ⟨C_Unexplained, MM_Unexplained, XC_Unexplained, (kit_of ix_Unexplained tx_Unexplained sb_Unexplained_Unexplained (fun _ => rfl)).trans (by decide +kernel)⟩
    · exact ⟨C_BadOrder, MM_BadOrder, XC_BadOrder, (kit_of ix_Unexplained tx_Unexplained sb_BadOrder_Unexplained ne_BadOrder_Unexplained).trans (by decide +kernel)⟩
    · exact ⟨C_NoPosition, MM_NoPosition, XC_NoPosition, (kit_of ix_Unexplained tx_Unexplained sb_NoPosition_Unexplained ne_NoPosition_Unexplained).trans (by decide +kernel)⟩
    · exact ⟨C_BadStamps, MM_BadStamps, XC_BadStamps, (kit_of ix_Unexplained tx_Unexplained sb_BadStamps_Unexplained ne_BadStamps_Unexplained).trans (by decide +kernel)⟩
    · exact ⟨C_BadLog, MM_BadLog, XC_BadLog, (kit_of ix_Unexplained tx_Unexplained sb_BadLog_Unexplained ne_BadLog_Unexplained).trans (by decide +kernel)⟩
    · exact ⟨C_BadTolerance, MM_BadTolerance, XC_BadTolerance, (kit_of ix_Unexplained tx_Unexplained sb_BadTolerance_Unexplained ne_BadTolerance_Unexplained).trans (by decide +kernel)⟩
    · exact ⟨C_BadOperation, MM_BadOperation, XC_BadOperation, (kit_of ix_Unexplained tx_Unexplained sb_BadOperation_Unexplained ne_BadOperation_Unexplained).trans (by decide +kernel)⟩
    · exact ⟨C_Written, MM_Written, XC_Written, (kit_of ix_Unexplained tx_Unexplained sb_Written_Unexplained ne_Written_Unexplained).trans (by decide +kernel)⟩
    · exact ⟨C_TooMany, MM_TooMany, XC_TooMany, (kit_of ix_Unexplained tx_Unexplained sb_TooMany_Unexplained ne_TooMany_Unexplained).trans (by decide +kernel)⟩
    · exact ⟨C_NothingToUndo, MM_NothingToUndo, XC_NothingToUndo, (kit_of ix_Unexplained tx_Unexplained sb_NothingToUndo_Unexplained ne_NothingToUndo_Unexplained).trans (by decide +kernel)⟩
    · exact ⟨C_BadText, MM_BadText, XC_BadText, (kit_of ix_Unexplained tx_Unexplained sb_BadText_Unexplained ne_BadText_Unexplained).trans (by decide +kernel)⟩
    · exact ⟨C_BadLine, MM_BadLine, XC_BadLine, (kit_of ix_Unexplained tx_Unexplained sb_BadLine_Unexplained ne_BadLine_Unexplained).trans (by decide +kernel)⟩
  have SBB_Written : SubOk K mg [("NoIndex" : Str), ("NoValue" : Str), ("Unexplained" : Str), ("BadOrder" : Str), ("NoPosition" : Str), ("BadStamps" : Str), ("BadLog" : Str), ("BadTolerance" : Str), ("BadOperation" : Str), ("Written" : Str), ("TooMany" : Str), ("NothingToUndo" : Str), ("BadText" : Str), ("BadLine" : Str)] ("Written" : Str) (.ref C_Written) := by
    intro c hc
    simp only [List.mem_cons, List.not_mem_nil, or_false] at hc; rcases hc with rfl | rfl | rfl | rfl | rfl | rfl | rfl | rfl | rfl | rfl | rfl | rfl | rfl | rfl
    · exact ⟨C_NoIndex, MM_NoIndex, (exm_of ex_Written ix_Written tx_Written sb_NoIndex_Written).trans (by decide +kernel)⟩
    · exact ⟨C_NoValue, MM_NoValue, (exm_of ex_Written ix_Written tx_Written sb_NoValue_Written).trans (by decide +kernel)⟩
    · exact ⟨C_Unexplained, MM_Unexplained, (exm_of ex_Written ix_Written tx_Written sb_Unexplained_Written).trans (by decide +kernel)⟩
    · exact ⟨C_BadOrder, MM_BadOrder, (exm_of ex_Written ix_Written tx_Written sb_BadOrder_Written).trans (by decide +kernel)⟩
    · exact ⟨C_NoPosition, MM_NoPosition, (exm_of ex_Written ix_Written tx_Written sb_NoPosition_Written).trans (by decide +kernel)⟩
    · exact ⟨C_BadStamps, MM_BadStamps, (exm_of ex_Written ix_Written tx_Written sb_BadStamps_Written).trans (by decide +kernel)⟩
    · exact ⟨C_BadLog, MM_BadLog, (exm_of ex_Written ix_Written tx_Written sb_BadLog_Written).trans (by decide +kernel)⟩
    · exact ⟨C_BadTolerance, MM_BadTolerance, (exm_of ex_Written ix_Written tx_Written sb_BadTolerance_Written).trans (by decide +kernel)⟩
    · exact ⟨C_BadOperation, MM_BadOperation, (exm_of ex_Written ix_Written tx_Written sb_BadOperation_Written).trans (by decide +kernel)⟩
    · exact ⟨C_Written, MM_Written, (exm_of ex_Written ix_Written tx_Written sb_Written_Written).trans (by decide +kernel)⟩
    · exact ⟨C_TooMany, MM_TooMany, (exm_of ex_Written ix_Written tx_Written sb_TooMany_Written).trans (by decide +kernel)⟩
    · exact ⟨C_NothingToUndo, MM_NothingToUndo, (exm_of ex_Written ix_Written tx_Written sb_NothingToUndo_Written).trans (by decide +kernel)⟩
    · exact ⟨C_BadText, MM_BadText, (exm_of ex_Written ix_Written tx_Written sb_BadText_Written).trans (by decide +kernel)⟩
    · exact ⟨C_BadLine, MM_BadLine, (exm_of ex_Written ix_Written tx_Written sb_BadLine_Written).trans (by decide +kernel)⟩
  have ISS_Written : IsF K mg [("NoIndex" : Str), ("NoValue" : Str), ("Unexplained" : Str), ("BadOrder" : Str), ("NoPosition" : Str), ("BadStamps" : Str), ("BadLog" : Str), ("BadTolerance" : Str), ("BadOperation" : Str), ("Written" : Str), ("TooMany" : Str), ("NothingToUndo" : Str), ("BadText" : Str), ("BadLine" : Str)] ("Written" : Str) (.ref C_Written) := by
    intro c hc
    simp only [List.mem_cons, List.not_mem_nil, or_false] at hc; rcases hc with rfl | rfl | rfl | rfl | rfl | rfl | rfl | rfl | rfl | rfl | rfl | rfl | rfl | rfl
    · exact ⟨C_NoIndex, MM_NoIndex, XC_NoIndex, (kit_of ix_Written tx_Written sb_NoIndex_Written ne_NoIndex_Written).trans (by decide +kernel)⟩
    · exact ⟨C_NoValue, MM_NoValue, XC_NoValue, (kit_of ix_Written tx_Written sb_NoValue_Written ne_NoValue_Written).trans (by decide +kernel)⟩
    · exact ⟨C_Unexplained, MM_Unexplained, XC_Unexplained, (kit_of ix_Written tx_Written sb_Unexplained_Written ne_Unexplained_Written).trans (by decide +kernel)⟩
    · exact ⟨C_BadOrder, MM_BadOrder, XC_BadOrder, (kit_of ix_Written tx_Written sb_BadOrder_Written ne_BadOrder_Written).trans (by decide +kernel)⟩
    · exact ⟨C_NoPosition, MM_NoPosition, XC_NoPosition, (kit_of ix_Written tx_Written sb_NoPosition_Written ne_NoPosition_Written).trans (by decide +kernel)⟩
    · exact ⟨C_BadStamps, MM_BadStamps, XC_BadStamps, (kit_of ix_Written tx_Written sb_BadStamps_Written ne_BadStamps_Written).trans (by decide +kernel)⟩
    · exact ⟨C_BadLog, MM_BadLog, XC_BadLog, (kit_of ix_Written tx_Written sb_BadLog_Written ne_BadLog_Written).trans (by decide +kernel)⟩
    · exact ⟨C_BadTolerance, MM_BadTolerance, XC_BadTolerance, (kit_of ix_Written tx_Written sb_BadTolerance_Written ne_BadTolerance_Written).trans (by decide +kernel)⟩
    · exact ⟨C_BadOperation, MM_BadOperation, XC_BadOperation, (kit_of ix_Written tx_Written sb_BadOperation_Written ne_BadOperation_Written).trans (by decide +kernel)⟩
    · exact ⟨C_Written, MM_Written, XC_Written, (kit_of ix_Written tx_Written sb_Written_Written (fun _ => rfl)).trans (by decide +kernel)⟩
    · exact ⟨C_TooMany, MM_TooMany, XC_TooMany, (kit_of ix_Written tx_Written sb_TooMany_Written ne_TooMany_Written).trans (by decide +kernel)⟩
    · exact ⟨C_NothingToUndo, MM_NothingToUndo, XC_NothingToUndo, (kit_of ix_Written tx_Written sb_NothingToUndo_Written ne_NothingToUndo_Written).trans (by decide +kernel)⟩
    · exact ⟨C_BadText, MM_BadText, XC_BadText, (kit_of ix_Written tx_Written sb_BadText_Written ne_BadText_Written).trans (by decide +kernel)⟩
    · exact ⟨C_BadLine, MM_BadLine, XC_BadLine, (kit_of ix_Written tx_Written sb_BadLine_Written ne_BadLine_Written).trans (by decide +kernel)⟩
  have ATT_begin : AtF K mg [("BadStamps" : Str)] ("begin" : Str) := by
    intro c hc
    simp only [List.mem_cons, List.not_mem_nil, or_false] at hc; rcases hc with rfl
    · exact ⟨C_BadStamps, MM_BadStamps, XC_BadStamps, nb_BadStamps_begin⟩
  have ATT_end : AtF K mg [("BadStamps" : Str)] ("end" : Str) := by
    intro c hc
    simp only [List.mem_cons, List.not_mem_nil, or_false] at hc; rcases hc with rfl
    · exact ⟨C_BadStamps, MM_BadStamps, XC_BadStamps, nb_BadStamps_end⟩
  have ATT_fault : AtF K mg [("Unexplained" : Str)] ("fault" : Str) := by
    intro c hc
    simp only [List.mem_cons, List.not_mem_nil, or_false] at hc; rcases hc with rfl
    · exact ⟨C_Unexplained, MM_Unexplained, XC_Unexplained, nb_Unexplained_fault⟩
  have ATT_index : AtF K mg [("NoIndex" : Str)] ("index" : Str) := by
    intro c hc
    simp only [List.mem_cons, List.not_mem_nil, or_false] at hc; rcases hc with rfl
    · exact ⟨C_NoIndex, MM_NoIndex, XC_NoIndex, nb_NoIndex_index⟩
  have ATT_limit : AtF K mg [("TooMany" : Str)] ("limit" : Str) := by
    intro c hc
    simp only [List.mem_cons, List.not_mem_nil, or_false] at hc; rcases hc with rfl
    · exact ⟨C_TooMany, MM_TooMany, XC_TooMany, nb_TooMany_limit⟩
  have ATT_line : AtF K mg [("BadLine" : Str)] ("line" : Str) := by
    intro c hc
    simp only [List.mem_cons, List.not_mem_nil, or_false] at hc; rcases hc with rfl
    · exact ⟨C_BadLine, MM_BadLine, XC_BadLine, nb_BadLine_line⟩
  have ATT_operation : AtF K mg [("BadOperation" : Str)] ("operation" : Str) := by
    intro c hc
    simp only [List.mem_cons, List.not_mem_nil, or_false] at hc; rcases hc with rfl
    · exact ⟨C_BadOperation, MM_BadOperation, XC_BadOperation, nb_BadOperation_operation⟩
  have ATT_position : AtF K mg [("NoPosition" : Str)] ("position" : Str) := by
    intro c hc
    simp only [List.mem_cons, List.not_mem_nil, or_false] at hc; rcases hc with rfl
    · exact ⟨C_NoPosition, MM_NoPosition, XC_NoPosition, nb_NoPosition_position⟩
  have ATT_value : AtF K mg [("NoValue" : Str), ("BadOrder" : Str), ("BadLog" : Str), ("BadTolerance" : Str), ("Written" : Str), ("BadText" : Str)] ("value" : Str) := by
    intro c hc
    simp only [List.mem_cons, List.not_mem_nil, or_false] at hc; rcases hc with rfl | rfl | rfl | rfl | rfl | rfl
    · exact ⟨C_NoValue, MM_NoValue, XC_NoValue, nb_NoValue_value⟩
    · exact ⟨C_BadOrder, MM_BadOrder, XC_BadOrder, nb_BadOrder_value⟩
    · exact ⟨C_BadLog, MM_BadLog, XC_BadLog, nb_BadLog_value⟩
    · exact ⟨C_BadTolerance, MM_BadTolerance, XC_BadTolerance, nb_BadTolerance_value⟩
    · exact ⟨C_Written, MM_Written, XC_Written, nb_Written_value⟩
    · exact ⟨C_BadText, MM_BadText, XC_BadText, nb_BadText_value⟩
  have ISS_ValueError : IsF K mg [("NoIndex" : Str), ("NoValue" : Str), ("Unexplained" : Str), ("BadOrder" : Str), ("NoPosition" : Str), ("BadStamps" : Str), ("BadLog" : Str), ("BadTolerance" : Str), ("BadOperation" : Str), ("Written" : Str), ("TooMany" : Str), ("NothingToUndo" : Str), ("BadText" : Str), ("BadLine" : Str)] ("ValueError" : Str) (.type "ValueError") := by
    intro c hc
    simp only [List.mem_cons, List.not_mem_nil, or_false] at hc; rcases hc with rfl | rfl | rfl | rfl | rfl | rfl | rfl | rfl | rfl | rfl | rfl | rfl | rfl | rfl
    · exact ⟨C_NoIndex, MM_NoIndex, XC_NoIndex, kb_NoIndex_ValueError.trans (by decide +kernel)⟩
    · exact ⟨C_NoValue, MM_NoValue, XC_NoValue, kb_NoValue_ValueError.trans (by decide +kernel)⟩
    · exact ⟨C_Unexplained, MM_Unexplained, XC_Unexplained, kb_Unexplained_ValueError.trans (by decide +kernel)⟩
    · exact ⟨C_BadOrder, MM_BadOrder, XC_BadOrder, kb_BadOrder_ValueError.trans (by decide +kernel)⟩
    · exact ⟨C_NoPosition, MM_NoPosition, XC_NoPosition, kb_NoPosition_ValueError.trans (by decide +kernel)⟩
    · exact ⟨C_BadStamps, MM_BadStamps, XC_BadStamps, kb_BadStamps_ValueError.trans (by decide +kernel)⟩
    · exact ⟨C_BadLog, MM_BadLog, XC_BadLog, kb_BadLog_ValueError.trans (by decide +kernel)⟩
    · exact ⟨C_BadTolerance, MM_BadTolerance, XC_BadTolerance, kb_BadTolerance_ValueError.trans (by decide +kernel)⟩
    · exact ⟨C_BadOperation, MM_BadOperation, XC_BadOperation, kb_BadOperation_ValueError.trans (by decide +kernel)⟩
    · exact ⟨C_Written, MM_Written, XC_Written, kb_Written_ValueError.trans (by decide +kernel)⟩
    · exact ⟨C_TooMany, MM_TooMany, XC_TooMany, kb_TooMany_ValueError.trans (by decide +kernel)⟩
    · exact ⟨C_NothingToUndo, MM_NothingToUndo, XC_NothingToUndo, kb_NothingToUndo_ValueError.trans (by decide +kernel)⟩
    · exact ⟨C_BadText, MM_BadText, XC_BadText, kb_BadText_ValueError.trans (by decide +kernel)⟩
    · exact ⟨C_BadLine, MM_BadLine, XC_BadLine, kb_BadLine_ValueError.trans (by decide +kernel)⟩
  have G1 := g__law_pot (P := l.prog) (w := w) (mg := mg) (base := base) F1 (c_len := PySem.W.mg_none_of X G z_len) (c_int := PySem.W.mg_none_of X G z_int) (c_abs := PySem.W.mg_none_of X G z_abs) 
  have G2 := g__law_draw (P := l.prog) (w := w) (mg := mg) (base := base) F2 
  have G3 := g__law_any (P := l.prog) (w := w) (mg := mg) (base := base) F3 (G__law_draw := G2.mono (by decide)) (m__law_draw := PySem.W.mg_of X G a2) (k__law_draw := k2) (b__law_draw := b2) (c_len := PySem.W.mg_none_of X G z_len) 
  have G4 := g__law_odd (P := l.prog) (w := w) (mg := mg) (base := base) F4 (G__law_any := G3.mono (by decide)) (m__law_any := PySem.W.mg_of X G a3) (k__law_any := k3) (b__law_any := b3) (c_isinstance := PySem.W.mg_none_of X G z_isinstance) (c_tuple := PySem.W.mg_none_of X G z_tuple) (c_str := PySem.W.mg_none_of X G z_str) (c_int := PySem.W.mg_none_of X G z_int) (c_list := PySem.W.mg_none_of X G z_list) 
  have G5 := g__law_held (P := l.prog) (w := w) (mg := mg) (base := base) F5 (hMG := rfl) (AT_begin := ATT_begin) (AT_end := ATT_end) (AT_fault := ATT_fault) (AT_index := ATT_index) (AT_limit := ATT_limit) (AT_line := ATT_line) (AT_operation := ATT_operation) (AT_position := ATT_position) (AT_value := ATT_value)
  have G6 := g__law_marks (P := l.prog) (w := w) (mg := mg) (base := base) F6 (c_isinstance := PySem.W.mg_none_of X G z_isinstance) (hMG := rfl) (M_BadLine := MM_BadLine) (M_BadLog := MM_BadLog) (M_BadOperation := MM_BadOperation) (M_BadOrder := MM_BadOrder) (M_BadStamps := MM_BadStamps) (M_BadText := MM_BadText) (M_BadTolerance := MM_BadTolerance) (M_NoIndex := MM_NoIndex) (M_NoPosition := MM_NoPosition) (M_NoValue := MM_NoValue) (M_NothingToUndo := MM_NothingToUndo) (M_TooMany := MM_TooMany) (M_Unexplained := MM_Unexplained) (M_Written := MM_Written) (IS_BadLine := ISS_BadLine) (IS_BadLog := ISS_BadLog) (IS_BadOperation := ISS_BadOperation) (IS_BadOrder := ISS_BadOrder) (IS_BadStamps := ISS_BadStamps) (IS_BadText := ISS_BadText) (IS_BadTolerance := ISS_BadTolerance) (IS_NoIndex := ISS_NoIndex) (IS_NoPosition := ISS_NoPosition) (IS_NoValue := ISS_NoValue) (IS_NothingToUndo := ISS_NothingToUndo) (IS_TooMany := ISS_TooMany) (IS_Unexplained := ISS_Unexplained) (IS_Written := ISS_Written)
  have G7 := g__law_right (P := l.prog) (w := w) (mg := mg) (base := base) F7 (G__law_odd := G4.mono (by decide)) (m__law_odd := PySem.W.mg_of X G a4) (k__law_odd := k4) (b__law_odd := b4) (G__law_any := G3.mono (by decide)) (m__law_any := PySem.W.mg_of X G a3) (k__law_any := k3) (b__law_any := b3) (G__law_held := G5.mono (by decide)) (m__law_held := PySem.W.mg_of X G a5) (k__law_held := k5) (b__law_held := b5) (G__law_marks := G6.mono (by decide)) (m__law_marks := PySem.W.mg_of X G a6) (k__law_marks := k6) (b__law_marks := b6) (c_repr := PySem.W.mg_none_of X G z_repr) (c_enumerate := PySem.W.mg_none_of X G z_enumerate) (c_range := PySem.W.mg_none_of X G z_range) (c_isinstance := PySem.W.mg_none_of X G z_isinstance) (c_ValueError := PySem.W.mg_none_of X G z_ValueError) (hMG := rfl) (M_CellError := MM_CellError) (IS_ValueError := ISS_ValueError) (IS_CellError := ISS_CellError) (E_BadLine := EE_BadLine) (E_BadLog := EE_BadLog) (E_BadOperation := EE_BadOperation) (E_BadOrder := EE_BadOrder) (E_BadStamps := EE_BadStamps) (E_BadText := EE_BadText) (E_BadTolerance := EE_BadTolerance) (E_NoIndex := EE_NoIndex) (E_NoPosition := EE_NoPosition) (E_NoValue := EE_NoValue) (E_TooMany := EE_TooMany) (E_Unexplained := EE_Unexplained) (E_Written := EE_Written) (E0_NothingToUndo := EE_NothingToUndo) (EK_BadLine := EEK_BadLine) (EK_BadLog := EEK_BadLog) (EK_BadOperation := EEK_BadOperation) (EK_BadOrder := EEK_BadOrder) (EK_BadStamps := EEK_BadStamps) (EK_BadText := EEK_BadText) (EK_BadTolerance := EEK_BadTolerance) (EK_NoIndex := EEK_NoIndex) (EK_NoPosition := EEK_NoPosition) (EK_NoValue := EEK_NoValue) (EK_TooMany := EEK_TooMany) (EK_Unexplained := EEK_Unexplained) (EK_Written := EEK_Written)
  exact g_law (P := l.prog) (w := w) (mg := mg) (base := base) F8 (G__law_pot := G1.mono (by decide)) (m__law_pot := PySem.W.mg_of X G a1) (k__law_pot := k1) (b__law_pot := b1) (G__law_right := G7.mono (by decide)) (m__law_right := PySem.W.mg_of X G a7) (k__law_right := k7) (b__law_right := b7) (c_range := PySem.W.mg_none_of X G z_range) (c_max := PySem.W.mg_none_of X G z_max) (c_min := PySem.W.mg_none_of X G z_min) (c_all := PySem.W.mg_none_of X G z_all) (c_len := PySem.W.mg_none_of X G z_len)
end K49
open PySem PySem.W PyProof.Rows
set_option maxHeartbeats 0 in
theorem PySem.Challenge.cw_clockslack_k49_errors_alone_holds : PySem.Challenge.rw_clockslack_k49_errors_alone.Holds := by
  w_on; o_law; k_head; (case hw => w_witness2)
  k_fill
  refine' DL.walk_gfnT (l := PySem.Challenge.rw_clockslack_k49_errors_alone) (n := 63) (k := 5) (x := ("_law_script" : Str)) (Fm := K49.s_law) [] (by decide) (by decide) rfl ⟨rfl, by decide, by decide⟩ (fun w h Y => PySem.W.kIn_of Y) ?hT ?nT ?hC ?F (fun ns h => K49.sem_law ns h)
  case F =>
    intro w mg fa h KX G hmg
    refine' K49.all_mk KX G hmg ?a1 ?l1 ?c1 ?k1 ?a2 ?l2 ?c2 ?k2 ?a3 ?l3 ?c3 ?k3 ?a4 ?l4 ?c4 ?k4 ?a5 ?l5 ?c5 ?k5 ?a6 ?l6 ?c6 ?k6 ?a7 ?l7 ?c7 ?k7 ?a8 ?l8 ?c8 ?k8 ?z_len ?z_int ?z_abs ?z_isinstance ?z_tuple ?z_str ?z_list ?z_repr ?z_enumerate ?z_range ?z_ValueError ?z_max ?z_min ?z_all ?ax_BadLine ?ix_BadLine ?tx_BadLine ?ex_BadLine ?ax_BadLog ?ix_BadLog ?tx_BadLog ?ex_BadLog ?ax_BadOperation ?ix_BadOperation ?tx_BadOperation ?ex_BadOperation ?ax_BadOrder ?ix_BadOrder ?tx_BadOrder ?ex_BadOrder ?ax_BadStamps ?ix_BadStamps ?tx_BadStamps ?ex_BadStamps ?ax_BadText ?ix_BadText ?tx_BadText ?ex_BadText ?ax_BadTolerance ?ix_BadTolerance ?tx_BadTolerance ?ex_BadTolerance ?ax_CellError ?ix_CellError ?tx_CellError ?ex_CellError ?ax_NoIndex ?ix_NoIndex ?tx_NoIndex ?ex_NoIndex ?ax_NoPosition ?ix_NoPosition ?tx_NoPosition ?ex_NoPosition ?ax_NoValue ?ix_NoValue ?tx_NoValue ?ex_NoValue ?ax_NothingToUndo ?ix_NothingToUndo ?tx_NothingToUndo ?ex_NothingToUndo ?ax_TooMany ?ix_TooMany ?tx_TooMany ?ex_TooMany ?ax_Unexplained ?ix_Unexplained ?tx_Unexplained ?ex_Unexplained ?ax_Written ?ix_Written ?tx_Written ?ex_Written ?xl_NoIndex ?sa_NoIndex ?ga_NoIndex ?gg_NoIndex ?ca_NoIndex ?nb_NoIndex_index ?in_NoIndex ?ty_NoIndex ?li_NoIndex ?ci_NoIndex ?kb_NoIndex_ValueError ?ki_NoIndex ?kc_NoIndex ?hd_NoIndex ?mo_NoIndex ?ne_NoIndex_BadLine ?ne_NoIndex_BadLog ?ne_NoIndex_BadOperation ?ne_NoIndex_BadOrder ?ne_NoIndex_BadStamps ?ne_NoIndex_BadText ?ne_NoIndex_BadTolerance ?ne_NoIndex_NoPosition ?ne_NoIndex_NoValue ?ne_NoIndex_NothingToUndo ?ne_NoIndex_TooMany ?ne_NoIndex_Unexplained ?ne_NoIndex_Written ?sb_NoIndex_BadLine ?sb_NoIndex_BadLog ?sb_NoIndex_BadOperation ?sb_NoIndex_BadOrder ?sb_NoIndex_BadStamps ?sb_NoIndex_BadText ?sb_NoIndex_BadTolerance ?sb_NoIndex_CellError ?sb_NoIndex_NoIndex ?sb_NoIndex_NoPosition ?sb_NoIndex_NoValue ?sb_NoIndex_NothingToUndo ?sb_NoIndex_TooMany ?sb_NoIndex_Unexplained ?sb_NoIndex_Written ?xl_NoValue ?sa_NoValue ?ga_NoValue ?gg_NoValue ?ca_NoValue ?nb_NoValue_value ?in_NoValue ?ty_NoValue ?li_NoValue ?ci_NoValue ?kb_NoValue_ValueError ?ki_NoValue ?kc_NoValue ?hd_NoValue ?mo_NoValue ?ne_NoValue_BadLine ?ne_NoValue_BadLog ?ne_NoValue_BadOperation ?ne_NoValue_BadOrder ?ne_NoValue_BadStamps ?ne_NoValue_BadText ?ne_NoValue_BadTolerance ?ne_NoValue_NoIndex ?ne_NoValue_NoPosition ?ne_NoValue_NothingToUndo ?ne_NoValue_TooMany ?ne_NoValue_Unexplained ?ne_NoValue_Written ?sb_NoValue_BadLine ?sb_NoValue_BadLog ?sb_NoValue_BadOperation ?sb_NoValue_BadOrder ?sb_NoValue_BadStamps ?sb_NoValue_BadText ?sb_NoValue_BadTolerance ?sb_NoValue_CellError ?sb_NoValue_NoIndex ?sb_NoValue_NoPosition ?sb_NoValue_NoValue ?sb_NoValue_NothingToUndo ?sb_NoValue_TooMany ?sb_NoValue_Unexplained ?sb_NoValue_Written ?xl_Unexplained ?sa_Unexplained ?ga_Unexplained ?gg_Unexplained ?ca_Unexplained ?nb_Unexplained_fault ?in_Unexplained ?ty_Unexplained ?li_Unexplained ?ci_Unexplained ?kb_Unexplained_ValueError ?ki_Unexplained ?kc_Unexplained ?hd_Unexplained ?mo_Unexplained ?ne_Unexplained_BadLine ?ne_Unexplained_BadLog ?ne_Unexplained_BadOperation ?ne_Unexplained_BadOrder ?ne_Unexplained_BadStamps ?ne_Unexplained_BadText ?ne_Unexplained_BadTolerance ?ne_Unexplained_NoIndex ?ne_Unexplained_NoPosition ?ne_Unexplained_NoValue ?ne_Unexplained_NothingToUndo ?ne_Unexplained_TooMany ?ne_Unexplained_Written ?sb_Unexplained_BadLine ?sb_Unexplained_BadLog ?sb_Unexplained_BadOperation ?sb_Unexplained_BadOrder ?sb_Unexplained_BadStamps ?sb_Unexplained_BadText ?sb_Unexplained_BadTolerance ?sb_Unexplained_CellError ?sb_Unexplained_NoIndex ?sb_Unexplained_NoPosition ?sb_Unexplained_NoValue ?sb_Unexplained_NothingToUndo ?sb_Unexplained_TooMany ?sb_Unexplained_Unexplained ?sb_Unexplained_Written ?xl_BadOrder ?sa_BadOrder ?ga_BadOrder ?gg_BadOrder ?ca_BadOrder ?nb_BadOrder_value ?in_BadOrder ?ty_BadOrder ?li_BadOrder ?ci_BadOrder ?kb_BadOrder_ValueError ?ki_BadOrder ?kc_BadOrder ?hd_BadOrder ?mo_BadOrder ?ne_BadOrder_BadLine ?ne_BadOrder_BadLog ?ne_BadOrder_BadOperation ?ne_BadOrder_BadStamps ?ne_BadOrder_BadText ?ne_BadOrder_BadTolerance ?ne_BadOrder_NoIndex ?ne_BadOrder_NoPosition ?ne_BadOrder_NoValue ?ne_BadOrder_NothingToUndo ?ne_BadOrder_TooMany ?ne_BadOrder_Unexplained ?ne_BadOrder_Written ?sb_BadOrder_BadLine ?sb_BadOrder_BadLog ?sb_BadOrder_BadOperation ?sb_BadOrder_BadOrder ?sb_BadOrder_BadStamps ?sb_BadOrder_BadText ?sb_BadOrder_BadTolerance ?sb_BadOrder_CellError ?sb_BadOrder_NoIndex ?sb_BadOrder_NoPosition ?sb_BadOrder_NoValue ?sb_BadOrder_NothingToUndo ?sb_BadOrder_TooMany ?sb_BadOrder_Unexplained ?sb_BadOrder_Written ?xl_NoPosition ?sa_NoPosition ?ga_NoPosition ?gg_NoPosition ?ca_NoPosition ?nb_NoPosition_position ?in_NoPosition ?ty_NoPosition ?li_NoPosition ?ci_NoPosition ?kb_NoPosition_ValueError ?ki_NoPosition ?kc_NoPosition ?hd_NoPosition ?mo_NoPosition ?ne_NoPosition_BadLine ?ne_NoPosition_BadLog ?ne_NoPosition_BadOperation ?ne_NoPosition_BadOrder ?ne_NoPosition_BadStamps ?ne_NoPosition_BadText ?ne_NoPosition_BadTolerance ?ne_NoPosition_NoIndex ?ne_NoPosition_NoValue ?ne_NoPosition_NothingToUndo ?ne_NoPosition_TooMany ?ne_NoPosition_Unexplained ?ne_NoPosition_Written ?sb_NoPosition_BadLine ?sb_NoPosition_BadLog ?sb_NoPosition_BadOperation ?sb_NoPosition_BadOrder ?sb_NoPosition_BadStamps ?sb_NoPosition_BadText ?sb_NoPosition_BadTolerance ?sb_NoPosition_CellError ?sb_NoPosition_NoIndex ?sb_NoPosition_NoPosition ?sb_NoPosition_NoValue ?sb_NoPosition_NothingToUndo ?sb_NoPosition_TooMany ?sb_NoPosition_Unexplained ?sb_NoPosition_Written ?xl_BadStamps ?sa_BadStamps ?ga_BadStamps ?gg_BadStamps ?ca_BadStamps ?nb_BadStamps_begin ?nb_BadStamps_end ?in_BadStamps ?ty_BadStamps ?li_BadStamps ?ci_BadStamps ?kb_BadStamps_ValueError ?ki_BadStamps ?kc_BadStamps ?hd_BadStamps ?mo_BadStamps ?ne_BadStamps_BadLine ?ne_BadStamps_BadLog ?ne_BadStamps_BadOperation ?ne_BadStamps_BadOrder ?ne_BadStamps_BadText ?ne_BadStamps_BadTolerance ?ne_BadStamps_NoIndex ?ne_BadStamps_NoPosition ?ne_BadStamps_NoValue ?ne_BadStamps_NothingToUndo ?ne_BadStamps_TooMany ?ne_BadStamps_Unexplained ?ne_BadStamps_Written ?sb_BadStamps_BadLine ?sb_BadStamps_BadLog ?sb_BadStamps_BadOperation ?sb_BadStamps_BadOrder ?sb_BadStamps_BadStamps ?sb_BadStamps_BadText ?sb_BadStamps_BadTolerance ?sb_BadStamps_CellError ?sb_BadStamps_NoIndex ?sb_BadStamps_NoPosition ?sb_BadStamps_NoValue ?sb_BadStamps_NothingToUndo ?sb_BadStamps_TooMany ?sb_BadStamps_Unexplained ?sb_BadStamps_Written ?xl_BadLog ?sa_BadLog ?ga_BadLog ?gg_BadLog ?ca_BadLog ?nb_BadLog_value ?in_BadLog ?ty_BadLog ?li_BadLog ?ci_BadLog ?kb_BadLog_ValueError ?ki_BadLog ?kc_BadLog ?hd_BadLog ?mo_BadLog ?ne_BadLog_BadLine ?ne_BadLog_BadOperation ?ne_BadLog_BadOrder ?ne_BadLog_BadStamps ?ne_BadLog_BadText ?ne_BadLog_BadTolerance ?ne_BadLog_NoIndex ?ne_BadLog_NoPosition ?ne_BadLog_NoValue ?ne_BadLog_NothingToUndo ?ne_BadLog_TooMany ?ne_BadLog_Unexplained ?ne_BadLog_Written ?sb_BadLog_BadLine ?sb_BadLog_BadLog ?sb_BadLog_BadOperation ?sb_BadLog_BadOrder ?sb_BadLog_BadStamps ?sb_BadLog_BadText ?sb_BadLog_BadTolerance ?sb_BadLog_CellError ?sb_BadLog_NoIndex ?sb_BadLog_NoPosition ?sb_BadLog_NoValue ?sb_BadLog_NothingToUndo ?sb_BadLog_TooMany ?sb_BadLog_Unexplained ?sb_BadLog_Written ?xl_BadTolerance ?sa_BadTolerance ?ga_BadTolerance ?gg_BadTolerance ?ca_BadTolerance ?nb_BadTolerance_value ?in_BadTolerance ?ty_BadTolerance ?li_BadTolerance ?ci_BadTolerance ?kb_BadTolerance_ValueError ?ki_BadTolerance ?kc_BadTolerance ?hd_BadTolerance ?mo_BadTolerance ?ne_BadTolerance_BadLine ?ne_BadTolerance_BadLog ?ne_BadTolerance_BadOperation ?ne_BadTolerance_BadOrder ?ne_BadTolerance_BadStamps ?ne_BadTolerance_BadText ?ne_BadTolerance_NoIndex ?ne_BadTolerance_NoPosition ?ne_BadTolerance_NoValue ?ne_BadTolerance_NothingToUndo ?ne_BadTolerance_TooMany ?ne_BadTolerance_Unexplained ?ne_BadTolerance_Written ?sb_BadTolerance_BadLine ?sb_BadTolerance_BadLog ?sb_BadTolerance_BadOperation ?sb_BadTolerance_BadOrder ?sb_BadTolerance_BadStamps ?sb_BadTolerance_BadText ?sb_BadTolerance_BadTolerance ?sb_BadTolerance_CellError ?sb_BadTolerance_NoIndex ?sb_BadTolerance_NoPosition ?sb_BadTolerance_NoValue ?sb_BadTolerance_NothingToUndo ?sb_BadTolerance_TooMany ?sb_BadTolerance_Unexplained ?sb_BadTolerance_Written ?xl_BadOperation ?sa_BadOperation ?ga_BadOperation ?gg_BadOperation ?ca_BadOperation ?nb_BadOperation_operation ?in_BadOperation ?ty_BadOperation ?li_BadOperation ?ci_BadOperation ?kb_BadOperation_ValueError ?ki_BadOperation ?kc_BadOperation ?hd_BadOperation ?mo_BadOperation ?ne_BadOperation_BadLine ?ne_BadOperation_BadLog ?ne_BadOperation_BadOrder ?ne_BadOperation_BadStamps ?ne_BadOperation_BadText ?ne_BadOperation_BadTolerance ?ne_BadOperation_NoIndex ?ne_BadOperation_NoPosition ?ne_BadOperation_NoValue ?ne_BadOperation_NothingToUndo ?ne_BadOperation_TooMany ?ne_BadOperation_Unexplained ?ne_BadOperation_Written ?sb_BadOperation_BadLine ?sb_BadOperation_BadLog ?sb_BadOperation_BadOperation ?sb_BadOperation_BadOrder ?sb_BadOperation_BadStamps ?sb_BadOperation_BadText ?sb_BadOperation_BadTolerance ?sb_BadOperation_CellError ?sb_BadOperation_NoIndex ?sb_BadOperation_NoPosition ?sb_BadOperation_NoValue ?sb_BadOperation_NothingToUndo ?sb_BadOperation_TooMany ?sb_BadOperation_Unexplained ?sb_BadOperation_Written ?xl_Written ?sa_Written ?ga_Written ?gg_Written ?ca_Written ?nb_Written_value ?in_Written ?ty_Written ?li_Written ?ci_Written ?kb_Written_ValueError ?ki_Written ?kc_Written ?hd_Written ?mo_Written ?ne_Written_BadLine ?ne_Written_BadLog ?ne_Written_BadOperation ?ne_Written_BadOrder ?ne_Written_BadStamps ?ne_Written_BadText ?ne_Written_BadTolerance ?ne_Written_NoIndex ?ne_Written_NoPosition ?ne_Written_NoValue ?ne_Written_NothingToUndo ?ne_Written_TooMany ?ne_Written_Unexplained ?sb_Written_BadLine ?sb_Written_BadLog ?sb_Written_BadOperation ?sb_Written_BadOrder ?sb_Written_BadStamps ?sb_Written_BadText ?sb_Written_BadTolerance ?sb_Written_CellError ?sb_Written_NoIndex ?sb_Written_NoPosition ?sb_Written_NoValue ?sb_Written_NothingToUndo ?sb_Written_TooMany ?sb_Written_Unexplained ?sb_Written_Written ?xl_TooMany ?sa_TooMany ?ga_TooMany ?gg_TooMany ?ca_TooMany ?nb_TooMany_limit ?in_TooMany ?ty_TooMany ?li_TooMany ?ci_TooMany ?kb_TooMany_ValueError ?ki_TooMany ?kc_TooMany ?hd_TooMany ?mo_TooMany ?ne_TooMany_BadLine ?ne_TooMany_BadLog ?ne_TooMany_BadOperation ?ne_TooMany_BadOrder ?ne_TooMany_BadStamps ?ne_TooMany_BadText ?ne_TooMany_BadTolerance ?ne_TooMany_NoIndex ?ne_TooMany_NoPosition ?ne_TooMany_NoValue ?ne_TooMany_NothingToUndo ?ne_TooMany_Unexplained ?ne_TooMany_Written ?sb_TooMany_BadLine ?sb_TooMany_BadLog ?sb_TooMany_BadOperation ?sb_TooMany_BadOrder ?sb_TooMany_BadStamps ?sb_TooMany_BadText ?sb_TooMany_BadTolerance ?sb_TooMany_CellError ?sb_TooMany_NoIndex ?sb_TooMany_NoPosition ?sb_TooMany_NoValue ?sb_TooMany_NothingToUndo ?sb_TooMany_TooMany ?sb_TooMany_Unexplained ?sb_TooMany_Written ?xl_NothingToUndo ?sa_NothingToUndo ?ga_NothingToUndo ?gg_NothingToUndo ?ca_NothingToUndo ?in_NothingToUndo ?ty_NothingToUndo ?li_NothingToUndo ?ci_NothingToUndo ?kb_NothingToUndo_ValueError ?ki_NothingToUndo ?kc_NothingToUndo ?hd_NothingToUndo ?mo_NothingToUndo ?ne_NothingToUndo_BadLine ?ne_NothingToUndo_BadLog ?ne_NothingToUndo_BadOperation ?ne_NothingToUndo_BadOrder ?ne_NothingToUndo_BadStamps ?ne_NothingToUndo_BadText ?ne_NothingToUndo_BadTolerance ?ne_NothingToUndo_NoIndex ?ne_NothingToUndo_NoPosition ?ne_NothingToUndo_NoValue ?ne_NothingToUndo_TooMany ?ne_NothingToUndo_Unexplained ?ne_NothingToUndo_Written ?sb_NothingToUndo_BadLine ?sb_NothingToUndo_BadLog ?sb_NothingToUndo_BadOperation ?sb_NothingToUndo_BadOrder ?sb_NothingToUndo_BadStamps ?sb_NothingToUndo_BadText ?sb_NothingToUndo_BadTolerance ?sb_NothingToUndo_CellError ?sb_NothingToUndo_NoIndex ?sb_NothingToUndo_NoPosition ?sb_NothingToUndo_NoValue ?sb_NothingToUndo_NothingToUndo ?sb_NothingToUndo_TooMany ?sb_NothingToUndo_Unexplained ?sb_NothingToUndo_Written ?xl_BadText ?sa_BadText ?ga_BadText ?gg_BadText ?ca_BadText ?nb_BadText_value ?in_BadText ?ty_BadText ?li_BadText ?ci_BadText ?kb_BadText_ValueError ?ki_BadText ?kc_BadText ?hd_BadText ?mo_BadText ?ne_BadText_BadLine ?ne_BadText_BadLog ?ne_BadText_BadOperation ?ne_BadText_BadOrder ?ne_BadText_BadStamps ?ne_BadText_BadTolerance ?ne_BadText_NoIndex ?ne_BadText_NoPosition ?ne_BadText_NoValue ?ne_BadText_NothingToUndo ?ne_BadText_TooMany ?ne_BadText_Unexplained ?ne_BadText_Written ?sb_BadText_BadLine ?sb_BadText_BadLog ?sb_BadText_BadOperation ?sb_BadText_BadOrder ?sb_BadText_BadStamps ?sb_BadText_BadText ?sb_BadText_BadTolerance ?sb_BadText_CellError ?sb_BadText_NoIndex ?sb_BadText_NoPosition ?sb_BadText_NoValue ?sb_BadText_NothingToUndo ?sb_BadText_TooMany ?sb_BadText_Unexplained ?sb_BadText_Written ?xl_BadLine ?sa_BadLine ?ga_BadLine ?gg_BadLine ?ca_BadLine ?nb_BadLine_line ?in_BadLine ?ty_BadLine ?li_BadLine ?ci_BadLine ?kb_BadLine_ValueError ?ki_BadLine ?kc_BadLine ?hd_BadLine ?mo_BadLine ?ne_BadLine_BadLog ?ne_BadLine_BadOperation ?ne_BadLine_BadOrder ?ne_BadLine_BadStamps ?ne_BadLine_BadText ?ne_BadLine_BadTolerance ?ne_BadLine_NoIndex ?ne_BadLine_NoPosition ?ne_BadLine_NoValue ?ne_BadLine_NothingToUndo ?ne_BadLine_TooMany ?ne_BadLine_Unexplained ?ne_BadLine_Written ?sb_BadLine_BadLine ?sb_BadLine_BadLog ?sb_BadLine_BadOperation ?sb_BadLine_BadOrder ?sb_BadLine_BadStamps ?sb_BadLine_BadText ?sb_BadLine_BadTolerance ?sb_BadLine_CellError ?sb_BadLine_NoIndex ?sb_BadLine_NoPosition ?sb_BadLine_NoValue ?sb_BadLine_NothingToUndo ?sb_BadLine_TooMany ?sb_BadLine_Unexplained ?sb_BadLine_Written ?gn_ ?gt_ ?cg_CellError ?cr_CellError ?ci_CellError
    (case a1 => k_is); (case l1 => k_is); (case c1 => k_is); (case k1 => k_is); (case a2 => k_is); (case l2 => k_is); (case c2 => k_is); (case k2 => k_is); (case a3 => k_is); (case l3 => k_is); (case c3 => k_is); (case k3 => k_is); (case a4 => k_is); (case l4 => k_is); (case c4 => k_is); (case k4 => k_is); (case a5 => k_is); (case l5 => k_is); (case c5 => k_is); (case k5 => k_is); (case a6 => k_is); (case l6 => k_is); (case c6 => k_is); (case k6 => k_is); (case a7 => k_is); (case l7 => k_is); (case c7 => k_is); (case k7 => k_is); (case a8 => k_is); (case l8 => k_is); (case c8 => k_is); (case k8 => k_is); (case z_len => k_is); (case z_int => k_is); (case z_abs => k_is); (case z_isinstance => k_is); (case z_tuple => k_is); (case z_str => k_is); (case z_list => k_is); (case z_repr => k_is); (case z_enumerate => k_is); (case z_range => k_is); (case z_ValueError => k_is); (case z_max => k_is); (case z_min => k_is); (case z_all => k_is); (case ax_BadLine => k_is); (case ix_BadLine => k_is); (case tx_BadLine => k_is); (case ex_BadLine => k_is); (case ax_BadLog => k_is); (case ix_BadLog => k_is); (case tx_BadLog => k_is); (case ex_BadLog => k_is); (case ax_BadOperation => k_is); (case ix_BadOperation => k_is); (case tx_BadOperation => k_is); (case ex_BadOperation => k_is); (case ax_BadOrder => k_is); (case ix_BadOrder => k_is); (case tx_BadOrder => k_is); (case ex_BadOrder => k_is); (case ax_BadStamps => k_is); (case ix_BadStamps => k_is); (case tx_BadStamps => k_is); (case ex_BadStamps => k_is); (case ax_BadText => k_is); (case ix_BadText => k_is); (case tx_BadText => k_is); (case ex_BadText => k_is); (case ax_BadTolerance => k_is); (case ix_BadTolerance => k_is); (case tx_BadTolerance => k_is); (case ex_BadTolerance => k_is); (case ax_CellError => k_is); (case ix_CellError => k_is); (case tx_CellError => k_is); (case ex_CellError => k_is); (case ax_NoIndex => k_is); (case ix_NoIndex => k_is); (case tx_NoIndex => k_is); (case ex_NoIndex => k_is); (case ax_NoPosition => k_is); (case ix_NoPosition => k_is); (case tx_NoPosition => k_is); (case ex_NoPosition => k_is); (case ax_NoValue => k_is); (case ix_NoValue => k_is); (case tx_NoValue => k_is); (case ex_NoValue => k_is); (case ax_NothingToUndo => k_is); (case ix_NothingToUndo => k_is); (case tx_NothingToUndo => k_is); (case ex_NothingToUndo => k_is); (case ax_TooMany => k_is); (case ix_TooMany => k_is); (case tx_TooMany => k_is); (case ex_TooMany => k_is); (case ax_Unexplained => k_is); (case ix_Unexplained => k_is); (case tx_Unexplained => k_is); (case ex_Unexplained => k_is); (case ax_Written => k_is); (case ix_Written => k_is); (case tx_Written => k_is); (case ex_Written => k_is); (case xl_NoIndex => k_is); (case sa_NoIndex => k_is); (case ga_NoIndex => k_is); (case gg_NoIndex => k_is); (case ca_NoIndex => k_is); (case nb_NoIndex_index => k_is); (case in_NoIndex => k_is); (case ty_NoIndex => k_is); (case li_NoIndex => k_is); (case ci_NoIndex => k_is); (case kb_NoIndex_ValueError => (first | k_is | rfl | kernel_rfl)); (case ki_NoIndex => k_is); (case kc_NoIndex => k_is); (case hd_NoIndex => k_is); (case mo_NoIndex => k_is); (case ne_NoIndex_BadLine => (intro z; exact absurd z (by decide +kernel))); (case ne_NoIndex_BadLog => (intro z; exact absurd z (by decide +kernel))); (case ne_NoIndex_BadOperation => (intro z; exact absurd z (by decide +kernel))); (case ne_NoIndex_BadOrder => (intro z; exact absurd z (by decide +kernel))); (case ne_NoIndex_BadStamps => (intro z; exact absurd z (by decide +kernel))); (case ne_NoIndex_BadText => (intro z; exact absurd z (by decide +kernel))); (case ne_NoIndex_BadTolerance => (intro z; exact absurd z (by decide +kernel))); (case ne_NoIndex_NoPosition => (intro z; exact absurd z (by decide +kernel))); (case ne_NoIndex_NoValue => (intro z; exact absurd z (by decide +kernel))); (case ne_NoIndex_NothingToUndo => (intro z; exact absurd z (by decide +kernel))); (case ne_NoIndex_TooMany => (intro z; exact absurd z (by decide +kernel))); (case ne_NoIndex_Unexplained => (intro z; exact absurd z (by decide +kernel))); (case ne_NoIndex_Written => (intro z; exact absurd z (by decide +kernel))); (case sb_NoIndex_BadLine => (first | rfl | k_is)); (case sb_NoIndex_BadLog => (first | rfl | k_is)); (case sb_NoIndex_BadOperation => (first | rfl | k_is)); (case sb_NoIndex_BadOrder => (first | rfl | k_is)); (case sb_NoIndex_BadStamps => (first | rfl | k_is)); (case sb_NoIndex_BadText => (first | rfl | k_is)); (case sb_NoIndex_BadTolerance => (first | rfl | k_is)); (case sb_NoIndex_CellError => (first | rfl | k_is)); (case sb_NoIndex_NoIndex => (first | rfl | k_is)); (case sb_NoIndex_NoPosition => (first | rfl | k_is)); (case sb_NoIndex_NoValue => (first | rfl | k_is)); (case sb_NoIndex_NothingToUndo => (first | rfl | k_is)); (case sb_NoIndex_TooMany => (first | rfl | k_is)); (case sb_NoIndex_Unexplained => (first | rfl | k_is)); (case sb_NoIndex_Written => (first | rfl | k_is)); (case xl_NoValue => k_is); (case sa_NoValue => k_is); (case ga_NoValue => k_is); (case gg_NoValue => k_is); (case ca_NoValue => k_is); (case nb_NoValue_value => k_is); (case in_NoValue => k_is); (case ty_NoValue => k_is); (case li_NoValue => k_is); (case ci_NoValue => k_is); (case kb_NoValue_ValueError => (first | k_is | rfl | kernel_rfl)); (case ki_NoValue => k_is); (case kc_NoValue => k_is); (case hd_NoValue => k_is); (case mo_NoValue => k_is); (case ne_NoValue_BadLine => (intro z; exact absurd z (by decide +kernel))); (case ne_NoValue_BadLog => (intro z; exact absurd z (by decide +kernel))); (case ne_NoValue_BadOperation => (intro z; exact absurd z (by decide +kernel))); (case ne_NoValue_BadOrder => (intro z; exact absurd z (by decide +kernel))); (case ne_NoValue_BadStamps => (intro z; exact absurd z (by decide +kernel))); (case ne_NoValue_BadText => (intro z; exact absurd z (by decide +kernel))); (case ne_NoValue_BadTolerance => (intro z; exact absurd z (by decide +kernel))); (case ne_NoValue_NoIndex => (intro z; exact absurd z (by decide +kernel))); (case ne_NoValue_NoPosition => (intro z; exact absurd z (by decide +kernel))); (case ne_NoValue_NothingToUndo => (intro z; exact absurd z (by decide +kernel))); (case ne_NoValue_TooMany => (intro z; exact absurd z (by decide +kernel))); (case ne_NoValue_Unexplained => (intro z; exact absurd z (by decide +kernel))); (case ne_NoValue_Written => (intro z; exact absurd z (by decide +kernel))); (case sb_NoValue_BadLine => (first | rfl | k_is)); (case sb_NoValue_BadLog => (first | rfl | k_is)); (case sb_NoValue_BadOperation => (first | rfl | k_is)); (case sb_NoValue_BadOrder => (first | rfl | k_is)); (case sb_NoValue_BadStamps => (first | rfl | k_is)); (case sb_NoValue_BadText => (first | rfl | k_is)); (case sb_NoValue_BadTolerance => (first | rfl | k_is)); (case sb_NoValue_CellError => (first | rfl | k_is)); (case sb_NoValue_NoIndex => (first | rfl | k_is)); (case sb_NoValue_NoPosition => (first | rfl | k_is)); (case sb_NoValue_NoValue => (first | rfl | k_is)); (case sb_NoValue_NothingToUndo => (first | rfl | k_is)); (case sb_NoValue_TooMany => (first | rfl | k_is)); (case sb_NoValue_Unexplained => (first | rfl | k_is)); (case sb_NoValue_Written => (first | rfl | k_is)); (case xl_Unexplained => k_is); (case sa_Unexplained => k_is); (case ga_Unexplained => k_is); (case gg_Unexplained => k_is); (case ca_Unexplained => k_is); (case nb_Unexplained_fault => k_is); (case in_Unexplained => k_is); (case ty_Unexplained => k_is); (case li_Unexplained => k_is); (case ci_Unexplained => k_is); (case kb_Unexplained_ValueError => (first | k_is | rfl | kernel_rfl)); (case ki_Unexplained => k_is); (case kc_Unexplained => k_is); (case hd_Unexplained => k_is); (case mo_Unexplained => k_is); (case ne_Unexplained_BadLine => (intro z; exact absurd z (by decide +kernel))); (case ne_Unexplained_BadLog => (intro z; exact absurd z (by decide +kernel))); (case ne_Unexplained_BadOperation => (intro z; exact absurd z (by decide +kernel))); (case ne_Unexplained_BadOrder => (intro z; exact absurd z (by decide +kernel))); (case ne_Unexplained_BadStamps => (intro z; exact absurd z (by decide +kernel))); (case ne_Unexplained_BadText => (intro z; exact absurd z (by decide +kernel))); (case ne_Unexplained_BadTolerance => (intro z; exact absurd z (by decide +kernel))); (case ne_Unexplained_NoIndex => (intro z; exact absurd z (by decide +kernel))); (case ne_Unexplained_NoPosition => (intro z; exact absurd z (by decide +kernel))); (case ne_Unexplained_NoValue => (intro z; exact absurd z (by decide +kernel))); (case ne_Unexplained_NothingToUndo => (intro z; exact absurd z (by decide +kernel))); (case ne_Unexplained_TooMany => (intro z; exact absurd z (by decide +kernel))); (case ne_Unexplained_Written => (intro z; exact absurd z (by decide +kernel))); (case sb_Unexplained_BadLine => (first | rfl | k_is)); (case sb_Unexplained_BadLog => (first | rfl | k_is)); (case sb_Unexplained_BadOperation => (first | rfl | k_is)); (case sb_Unexplained_BadOrder => (first | rfl | k_is)); (case sb_Unexplained_BadStamps => (first | rfl | k_is)); (case sb_Unexplained_BadText => (first | rfl | k_is)); (case sb_Unexplained_BadTolerance => (first | rfl | k_is)); (case sb_Unexplained_CellError => (first | rfl | k_is)); (case sb_Unexplained_NoIndex => (first | rfl | k_is)); (case sb_Unexplained_NoPosition => (first | rfl | k_is)); (case sb_Unexplained_NoValue => (first | rfl | k_is)); (case sb_Unexplained_NothingToUndo => (first | rfl | k_is)); (case sb_Unexplained_TooMany => (first | rfl | k_is)); (case sb_Unexplained_Unexplained => (first | rfl | k_is)); (case sb_Unexplained_Written => (first | rfl | k_is)); (case xl_BadOrder => k_is); (case sa_BadOrder => k_is); (case ga_BadOrder => k_is); (case gg_BadOrder => k_is); (case ca_BadOrder => k_is); (case nb_BadOrder_value => k_is); (case in_BadOrder => k_is); (case ty_BadOrder => k_is); (case li_BadOrder => k_is); (case ci_BadOrder => k_is); (case kb_BadOrder_ValueError => (first | k_is | rfl | kernel_rfl)); (case ki_BadOrder => k_is); (case kc_BadOrder => k_is); (case hd_BadOrder => k_is); (case mo_BadOrder => k_is); (case ne_BadOrder_BadLine => (intro z; exact absurd z (by decide +kernel))); (case ne_BadOrder_BadLog => (intro z; exact absurd z (by decide +kernel))); (case ne_BadOrder_BadOperation => (intro z; exact absurd z (by decide +kernel))); (case ne_BadOrder_BadStamps => (intro z; exact absurd z (by decide +kernel))); (case ne_BadOrder_BadText => (intro z; exact absurd z (by decide +kernel))); (case ne_BadOrder_BadTolerance => (intro z; exact absurd z (by decide +kernel))); (case ne_BadOrder_NoIndex => (intro z; exact absurd z (by decide +kernel))); (case ne_BadOrder_NoPosition => (intro z; exact absurd z (by decide +kernel))); (case ne_BadOrder_NoValue => (intro z; exact absurd z (by decide +kernel))); (case ne_BadOrder_NothingToUndo => (intro z; exact absurd z (by decide +kernel))); (case ne_BadOrder_TooMany => (intro z; exact absurd z (by decide +kernel))); (case ne_BadOrder_Unexplained => (intro z; exact absurd z (by decide +kernel))); (case ne_BadOrder_Written => (intro z; exact absurd z (by decide +kernel))); (case sb_BadOrder_BadLine => (first | rfl | k_is)); (case sb_BadOrder_BadLog => (first | rfl | k_is)); (case sb_BadOrder_BadOperation => (first | rfl | k_is)); (case sb_BadOrder_BadOrder => (first | rfl | k_is)); (case sb_BadOrder_BadStamps => (first | rfl | k_is)); (case sb_BadOrder_BadText => (first | rfl | k_is)); (case sb_BadOrder_BadTolerance => (first | rfl | k_is)); (case sb_BadOrder_CellError => (first | rfl | k_is)); (case sb_BadOrder_NoIndex => (first | rfl | k_is)); (case sb_BadOrder_NoPosition => (first | rfl | k_is)); (case sb_BadOrder_NoValue => (first | rfl | k_is)); (case sb_BadOrder_NothingToUndo => (first | rfl | k_is)); (case sb_BadOrder_TooMany => (first | rfl | k_is)); (case sb_BadOrder_Unexplained => (first | rfl | k_is)); (case sb_BadOrder_Written => (first | rfl | k_is)); (case xl_NoPosition => k_is); (case sa_NoPosition => k_is); (case ga_NoPosition => k_is); (case gg_NoPosition => k_is); (case ca_NoPosition => k_is); (case nb_NoPosition_position => k_is); (case in_NoPosition => k_is); (case ty_NoPosition => k_is); (case li_NoPosition => k_is); (case ci_NoPosition => k_is); (case kb_NoPosition_ValueError => (first | k_is | rfl | kernel_rfl)); (case ki_NoPosition => k_is); (case kc_NoPosition => k_is); (case hd_NoPosition => k_is); (case mo_NoPosition => k_is); (case ne_NoPosition_BadLine => (intro z; exact absurd z (by decide +kernel))); (case ne_NoPosition_BadLog => (intro z; exact absurd z (by decide +kernel))); (case ne_NoPosition_BadOperation => (intro z; exact absurd z (by decide +kernel))); (case ne_NoPosition_BadOrder => (intro z; exact absurd z (by decide +kernel))); (case ne_NoPosition_BadStamps => (intro z; exact absurd z (by decide +kernel))); (case ne_NoPosition_BadText => (intro z; exact absurd z (by decide +kernel))); (case ne_NoPosition_BadTolerance => (intro z; exact absurd z (by decide +kernel))); (case ne_NoPosition_NoIndex => (intro z; exact absurd z (by decide +kernel))); (case ne_NoPosition_NoValue => (intro z; exact absurd z (by decide +kernel))); (case ne_NoPosition_NothingToUndo => (intro z; exact absurd z (by decide +kernel))); (case ne_NoPosition_TooMany => (intro z; exact absurd z (by decide +kernel))); (case ne_NoPosition_Unexplained => (intro z; exact absurd z (by decide +kernel))); (case ne_NoPosition_Written => (intro z; exact absurd z (by decide +kernel))); (case sb_NoPosition_BadLine => (first | rfl | k_is)); (case sb_NoPosition_BadLog => (first | rfl | k_is)); (case sb_NoPosition_BadOperation => (first | rfl | k_is)); (case sb_NoPosition_BadOrder => (first | rfl | k_is)); (case sb_NoPosition_BadStamps => (first | rfl | k_is)); (case sb_NoPosition_BadText => (first | rfl | k_is)); (case sb_NoPosition_BadTolerance => (first | rfl | k_is)); (case sb_NoPosition_CellError => (first | rfl | k_is)); (case sb_NoPosition_NoIndex => (first | rfl | k_is)); (case sb_NoPosition_NoPosition => (first | rfl | k_is)); (case sb_NoPosition_NoValue => (first | rfl | k_is)); (case sb_NoPosition_NothingToUndo => (first | rfl | k_is)); (case sb_NoPosition_TooMany => (first | rfl | k_is)); (case sb_NoPosition_Unexplained => (first | rfl | k_is)); (case sb_NoPosition_Written => (first | rfl | k_is)); (case xl_BadStamps => k_is); (case sa_BadStamps => k_is); (case ga_BadStamps => k_is); (case gg_BadStamps => k_is); (case ca_BadStamps => k_is); (case nb_BadStamps_begin => k_is); (case nb_BadStamps_end => k_is); (case in_BadStamps => k_is); (case ty_BadStamps => k_is); (case li_BadStamps => k_is); (case ci_BadStamps => k_is); (case kb_BadStamps_ValueError => (first | k_is | rfl | kernel_rfl)); (case ki_BadStamps => k_is); (case kc_BadStamps => k_is); (case hd_BadStamps => k_is); (case mo_BadStamps => k_is); (case ne_BadStamps_BadLine => (intro z; exact absurd z (by decide +kernel))); (case ne_BadStamps_BadLog => (intro z; exact absurd z (by decide +kernel))); (case ne_BadStamps_BadOperation => (intro z; exact absurd z (by decide +kernel))); (case ne_BadStamps_BadOrder => (intro z; exact absurd z (by decide +kernel))); (case ne_BadStamps_BadText => (intro z; exact absurd z (by decide +kernel))); (case ne_BadStamps_BadTolerance => (intro z; exact absurd z (by decide +kernel))); (case ne_BadStamps_NoIndex => (intro z; exact absurd z (by decide +kernel))); (case ne_BadStamps_NoPosition => (intro z; exact absurd z (by decide +kernel))); (case ne_BadStamps_NoValue => (intro z; exact absurd z (by decide +kernel))); (case ne_BadStamps_NothingToUndo => (intro z; exact absurd z (by decide +kernel))); (case ne_BadStamps_TooMany => (intro z; exact absurd z (by decide +kernel))); (case ne_BadStamps_Unexplained => (intro z; exact absurd z (by decide +kernel))); (case ne_BadStamps_Written => (intro z; exact absurd z (by decide +kernel))); (case sb_BadStamps_BadLine => (first | rfl | k_is)); (case sb_BadStamps_BadLog => (first | rfl | k_is)); (case sb_BadStamps_BadOperation => (first | rfl | k_is)); (case sb_BadStamps_BadOrder => (first | rfl | k_is)); (case sb_BadStamps_BadStamps => (first | rfl | k_is)); (case sb_BadStamps_BadText => (first | rfl | k_is)); (case sb_BadStamps_BadTolerance => (first | rfl | k_is)); (case sb_BadStamps_CellError => (first | rfl | k_is)); (case sb_BadStamps_NoIndex => (first | rfl | k_is)); (case sb_BadStamps_NoPosition => (first | rfl | k_is)); (case sb_BadStamps_NoValue => (first | rfl | k_is)); (case sb_BadStamps_NothingToUndo => (first | rfl | k_is)); (case sb_BadStamps_TooMany => (first | rfl | k_is)); (case sb_BadStamps_Unexplained => (first | rfl | k_is)); (case sb_BadStamps_Written => (first | rfl | k_is)); (case xl_BadLog => k_is); (case sa_BadLog => k_is); (case ga_BadLog => k_is); (case gg_BadLog => k_is); (case ca_BadLog => k_is); (case nb_BadLog_value => k_is); (case in_BadLog => k_is); (case ty_BadLog => k_is); (case li_BadLog => k_is); (case ci_BadLog => k_is); (case kb_BadLog_ValueError => (first | k_is | rfl | kernel_rfl)); (case ki_BadLog => k_is); (case kc_BadLog => k_is); (case hd_BadLog => k_is); (case mo_BadLog => k_is); (case ne_BadLog_BadLine => (intro z; exact absurd z (by decide +kernel))); (case ne_BadLog_BadOperation => (intro z; exact absurd z (by decide +kernel))); (case ne_BadLog_BadOrder => (intro z; exact absurd z (by decide +kernel))); (case ne_BadLog_BadStamps => (intro z; exact absurd z (by decide +kernel))); (case ne_BadLog_BadText => (intro z; exact absurd z (by decide +kernel))); (case ne_BadLog_BadTolerance => (intro z; exact absurd z (by decide +kernel))); (case ne_BadLog_NoIndex => (intro z; exact absurd z (by decide +kernel))); (case ne_BadLog_NoPosition => (intro z; exact absurd z (by decide +kernel))); (case ne_BadLog_NoValue => (intro z; exact absurd z (by decide +kernel))); (case ne_BadLog_NothingToUndo => (intro z; exact absurd z (by decide +kernel))); (case ne_BadLog_TooMany => (intro z; exact absurd z (by decide +kernel))); (case ne_BadLog_Unexplained => (intro z; exact absurd z (by decide +kernel))); (case ne_BadLog_Written => (intro z; exact absurd z (by decide +kernel))); (case sb_BadLog_BadLine => (first | rfl | k_is)); (case sb_BadLog_BadLog => (first | rfl | k_is)); (case sb_BadLog_BadOperation => (first | rfl | k_is)); (case sb_BadLog_BadOrder => (first | rfl | k_is)); (case sb_BadLog_BadStamps => (first | rfl | k_is)); (case sb_BadLog_BadText => (first | rfl | k_is)); (case sb_BadLog_BadTolerance => (first | rfl | k_is)); (case sb_BadLog_CellError => (first | rfl | k_is)); (case sb_BadLog_NoIndex => (first | rfl | k_is)); (case sb_BadLog_NoPosition => (first | rfl | k_is)); (case sb_BadLog_NoValue => (first | rfl | k_is)); (case sb_BadLog_NothingToUndo => (first | rfl | k_is)); (case sb_BadLog_TooMany => (first | rfl | k_is)); (case sb_BadLog_Unexplained => (first | rfl | k_is)); (case sb_BadLog_Written => (first | rfl | k_is)); (case xl_BadTolerance => k_is); (case sa_BadTolerance => k_is); (case ga_BadTolerance => k_is); (case gg_BadTolerance => k_is); (case ca_BadTolerance => k_is); (case nb_BadTolerance_value => k_is); (case in_BadTolerance => k_is); (case ty_BadTolerance => k_is); (case li_BadTolerance => k_is); (case ci_BadTolerance => k_is); (case kb_BadTolerance_ValueError => (first | k_is | rfl | kernel_rfl)); (case ki_BadTolerance => k_is); (case kc_BadTolerance => k_is); (case hd_BadTolerance => k_is); (case mo_BadTolerance => k_is); (case ne_BadTolerance_BadLine => (intro z; exact absurd z (by decide +kernel))); (case ne_BadTolerance_BadLog => (intro z; exact absurd z (by decide +kernel))); (case ne_BadTolerance_BadOperation => (intro z; exact absurd z (by decide +kernel))); (case ne_BadTolerance_BadOrder => (intro z; exact absurd z (by decide +kernel))); (case ne_BadTolerance_BadStamps => (intro z; exact absurd z (by decide +kernel))); (case ne_BadTolerance_BadText => (intro z; exact absurd z (by decide +kernel))); (case ne_BadTolerance_NoIndex => (intro z; exact absurd z (by decide +kernel))); (case ne_BadTolerance_NoPosition => (intro z; exact absurd z (by decide +kernel))); (case ne_BadTolerance_NoValue => (intro z; exact absurd z (by decide +kernel))); (case ne_BadTolerance_NothingToUndo => (intro z; exact absurd z (by decide +kernel))); (case ne_BadTolerance_TooMany => (intro z; exact absurd z (by decide +kernel))); (case ne_BadTolerance_Unexplained => (intro z; exact absurd z (by decide +kernel))); (case ne_BadTolerance_Written => (intro z; exact absurd z (by decide +kernel))); (case sb_BadTolerance_BadLine => (first | rfl | k_is)); (case sb_BadTolerance_BadLog => (first | rfl | k_is)); (case sb_BadTolerance_BadOperation => (first | rfl | k_is)); (case sb_BadTolerance_BadOrder => (first | rfl | k_is)); (case sb_BadTolerance_BadStamps => (first | rfl | k_is)); (case sb_BadTolerance_BadText => (first | rfl | k_is)); (case sb_BadTolerance_BadTolerance => (first | rfl | k_is)); (case sb_BadTolerance_CellError => (first | rfl | k_is)); (case sb_BadTolerance_NoIndex => (first | rfl | k_is)); (case sb_BadTolerance_NoPosition => (first | rfl | k_is)); (case sb_BadTolerance_NoValue => (first | rfl | k_is)); (case sb_BadTolerance_NothingToUndo => (first | rfl | k_is)); (case sb_BadTolerance_TooMany => (first | rfl | k_is)); (case sb_BadTolerance_Unexplained => (first | rfl | k_is)); (case sb_BadTolerance_Written => (first | rfl | k_is)); (case xl_BadOperation => k_is); (case sa_BadOperation => k_is); (case ga_BadOperation => k_is); (case gg_BadOperation => k_is); (case ca_BadOperation => k_is); (case nb_BadOperation_operation => k_is); (case in_BadOperation => k_is); (case ty_BadOperation => k_is); (case li_BadOperation => k_is); (case ci_BadOperation => k_is); (case kb_BadOperation_ValueError => (first | k_is | rfl | kernel_rfl)); (case ki_BadOperation => k_is); (case kc_BadOperation => k_is); (case hd_BadOperation => k_is); (case mo_BadOperation => k_is); (case ne_BadOperation_BadLine => (intro z; exact absurd z (by decide +kernel))); (case ne_BadOperation_BadLog => (intro z; exact absurd z (by decide +kernel))); (case ne_BadOperation_BadOrder => (intro z; exact absurd z (by decide +kernel))); (case ne_BadOperation_BadStamps => (intro z; exact absurd z (by decide +kernel))); (case ne_BadOperation_BadText => (intro z; exact absurd z (by decide +kernel))); (case ne_BadOperation_BadTolerance => (intro z; exact absurd z (by decide +kernel))); (case ne_BadOperation_NoIndex => (intro z; exact absurd z (by decide +kernel))); (case ne_BadOperation_NoPosition => (intro z; exact absurd z (by decide +kernel))); (case ne_BadOperation_NoValue => (intro z; exact absurd z (by decide +kernel))); (case ne_BadOperation_NothingToUndo => (intro z; exact absurd z (by decide +kernel))); (case ne_BadOperation_TooMany => (intro z; exact absurd z (by decide +kernel))); (case ne_BadOperation_Unexplained => (intro z; exact absurd z (by decide +kernel))); (case ne_BadOperation_Written => (intro z; exact absurd z (by decide +kernel))); (case sb_BadOperation_BadLine => (first | rfl | k_is)); (case sb_BadOperation_BadLog => (first | rfl | k_is)); (case sb_BadOperation_BadOperation => (first | rfl | k_is)); (case sb_BadOperation_BadOrder => (first | rfl | k_is)); (case sb_BadOperation_BadStamps => (first | rfl | k_is)); (case sb_BadOperation_BadText => (first | rfl | k_is)); (case sb_BadOperation_BadTolerance => (first | rfl | k_is)); (case sb_BadOperation_CellError => (first | rfl | k_is)); (case sb_BadOperation_NoIndex => (first | rfl | k_is)); (case sb_BadOperation_NoPosition => (first | rfl | k_is)); (case sb_BadOperation_NoValue => (first | rfl | k_is)); (case sb_BadOperation_NothingToUndo => (first | rfl | k_is)); (case sb_BadOperation_TooMany => (first | rfl | k_is)); (case sb_BadOperation_Unexplained => (first | rfl | k_is)); (case sb_BadOperation_Written => (first | rfl | k_is)); (case xl_Written => k_is); (case sa_Written => k_is); (case ga_Written => k_is); (case gg_Written => k_is); (case ca_Written => k_is); (case nb_Written_value => k_is); (case in_Written => k_is); (case ty_Written => k_is); (case li_Written => k_is); (case ci_Written => k_is); (case kb_Written_ValueError => (first | k_is | rfl | kernel_rfl)); (case ki_Written => k_is); (case kc_Written => k_is); (case hd_Written => k_is); (case mo_Written => k_is); (case ne_Written_BadLine => (intro z; exact absurd z (by decide +kernel))); (case ne_Written_BadLog => (intro z; exact absurd z (by decide +kernel))); (case ne_Written_BadOperation => (intro z; exact absurd z (by decide +kernel))); (case ne_Written_BadOrder => (intro z; exact absurd z (by decide +kernel))); (case ne_Written_BadStamps => (intro z; exact absurd z (by decide +kernel))); (case ne_Written_BadText => (intro z; exact absurd z (by decide +kernel))); (case ne_Written_BadTolerance => (intro z; exact absurd z (by decide +kernel))); (case ne_Written_NoIndex => (intro z; exact absurd z (by decide +kernel))); (case ne_Written_NoPosition => (intro z; exact absurd z (by decide +kernel))); (case ne_Written_NoValue => (intro z; exact absurd z (by decide +kernel))); (case ne_Written_NothingToUndo => (intro z; exact absurd z (by decide +kernel))); (case ne_Written_TooMany => (intro z; exact absurd z (by decide +kernel))); (case ne_Written_Unexplained => (intro z; exact absurd z (by decide +kernel))); (case sb_Written_BadLine => (first | rfl | k_is)); (case sb_Written_BadLog => (first | rfl | k_is)); (case sb_Written_BadOperation => (first | rfl | k_is)); (case sb_Written_BadOrder => (first | rfl | k_is)); (case sb_Written_BadStamps => (first | rfl | k_is)); (case sb_Written_BadText => (first | rfl | k_is)); (case sb_Written_BadTolerance => (first | rfl | k_is)); (case sb_Written_CellError => (first | rfl | k_is)); (case sb_Written_NoIndex => (first | rfl | k_is)); (case sb_Written_NoPosition => (first | rfl | k_is)); (case sb_Written_NoValue => (first | rfl | k_is)); (case sb_Written_NothingToUndo => (first | rfl | k_is)); (case sb_Written_TooMany => (first | rfl | k_is)); (case sb_Written_Unexplained => (first | rfl | k_is)); (case sb_Written_Written => (first | rfl | k_is)); (case xl_TooMany => k_is); (case sa_TooMany => k_is); (case ga_TooMany => k_is); (case gg_TooMany => k_is); (case ca_TooMany => k_is); (case nb_TooMany_limit => k_is); (case in_TooMany => k_is); (case ty_TooMany => k_is); (case li_TooMany => k_is); (case ci_TooMany => k_is); (case kb_TooMany_ValueError => (first | k_is | rfl | kernel_rfl)); (case ki_TooMany => k_is); (case kc_TooMany => k_is); (case hd_TooMany => k_is); (case mo_TooMany => k_is); (case ne_TooMany_BadLine => (intro z; exact absurd z (by decide +kernel))); (case ne_TooMany_BadLog => (intro z; exact absurd z (by decide +kernel))); (case ne_TooMany_BadOperation => (intro z; exact absurd z (by decide +kernel))); (case ne_TooMany_BadOrder => (intro z; exact absurd z (by decide +kernel))); (case ne_TooMany_BadStamps => (intro z; exact absurd z (by decide +kernel))); (case ne_TooMany_BadText => (intro z; exact absurd z (by decide +kernel))); (case ne_TooMany_BadTolerance => (intro z; exact absurd z (by decide +kernel))); (case ne_TooMany_NoIndex => (intro z; exact absurd z (by decide +kernel))); (case ne_TooMany_NoPosition => (intro z; exact absurd z (by decide +kernel))); (case ne_TooMany_NoValue => (intro z; exact absurd z (by decide +kernel))); (case ne_TooMany_NothingToUndo => (intro z; exact absurd z (by decide +kernel))); (case ne_TooMany_Unexplained => (intro z; exact absurd z (by decide +kernel))); (case ne_TooMany_Written => (intro z; exact absurd z (by decide +kernel))); (case sb_TooMany_BadLine => (first | rfl | k_is)); (case sb_TooMany_BadLog => (first | rfl | k_is)); (case sb_TooMany_BadOperation => (first | rfl | k_is)); (case sb_TooMany_BadOrder => (first | rfl | k_is)); (case sb_TooMany_BadStamps => (first | rfl | k_is)); (case sb_TooMany_BadText => (first | rfl | k_is)); (case sb_TooMany_BadTolerance => (first | rfl | k_is)); (case sb_TooMany_CellError => (first | rfl | k_is)); (case sb_TooMany_NoIndex => (first | rfl | k_is)); (case sb_TooMany_NoPosition => (first | rfl | k_is)); (case sb_TooMany_NoValue => (first | rfl | k_is)); (case sb_TooMany_NothingToUndo => (first | rfl | k_is)); (case sb_TooMany_TooMany => (first | rfl | k_is)); (case sb_TooMany_Unexplained => (first | rfl | k_is)); (case sb_TooMany_Written => (first | rfl | k_is)); (case xl_NothingToUndo => k_is); (case sa_NothingToUndo => k_is); (case ga_NothingToUndo => k_is); (case gg_NothingToUndo => k_is); (case ca_NothingToUndo => k_is); (case in_NothingToUndo => k_is); (case ty_NothingToUndo => k_is); (case li_NothingToUndo => k_is); (case ci_NothingToUndo => k_is); (case kb_NothingToUndo_ValueError => (first | k_is | rfl | kernel_rfl)); (case ki_NothingToUndo => k_is); (case kc_NothingToUndo => k_is); (case hd_NothingToUndo => k_is); (case mo_NothingToUndo => k_is); (case ne_NothingToUndo_BadLine => (intro z; exact absurd z (by decide +kernel))); (case ne_NothingToUndo_BadLog => (intro z; exact absurd z (by decide +kernel))); (case ne_NothingToUndo_BadOperation => (intro z; exact absurd z (by decide +kernel))); (case ne_NothingToUndo_BadOrder => (intro z; exact absurd z (by decide +kernel))); (case ne_NothingToUndo_BadStamps => (intro z; exact absurd z (by decide +kernel))); (case ne_NothingToUndo_BadText => (intro z; exact absurd z (by decide +kernel))); (case ne_NothingToUndo_BadTolerance => (intro z; exact absurd z (by decide +kernel))); (case ne_NothingToUndo_NoIndex => (intro z; exact absurd z (by decide +kernel))); (case ne_NothingToUndo_NoPosition => (intro z; exact absurd z (by decide +kernel))); (case ne_NothingToUndo_NoValue => (intro z; exact absurd z (by decide +kernel))); (case ne_NothingToUndo_TooMany => (intro z; exact absurd z (by decide +kernel))); (case ne_NothingToUndo_Unexplained => (intro z; exact absurd z (by decide +kernel))); (case ne_NothingToUndo_Written => (intro z; exact absurd z (by decide +kernel))); (case sb_NothingToUndo_BadLine => (first | rfl | k_is)); (case sb_NothingToUndo_BadLog => (first | rfl | k_is)); (case sb_NothingToUndo_BadOperation => (first | rfl | k_is)); (case sb_NothingToUndo_BadOrder => (first | rfl | k_is)); (case sb_NothingToUndo_BadStamps => (first | rfl | k_is)); (case sb_NothingToUndo_BadText => (first | rfl | k_is)); (case sb_NothingToUndo_BadTolerance => (first | rfl | k_is)); (case sb_NothingToUndo_CellError => (first | rfl | k_is)); (case sb_NothingToUndo_NoIndex => (first | rfl | k_is)); (case sb_NothingToUndo_NoPosition => (first | rfl | k_is)); (case sb_NothingToUndo_NoValue => (first | rfl | k_is)); (case sb_NothingToUndo_NothingToUndo => (first | rfl | k_is)); (case sb_NothingToUndo_TooMany => (first | rfl | k_is)); (case sb_NothingToUndo_Unexplained => (first | rfl | k_is)); (case sb_NothingToUndo_Written => (first | rfl | k_is)); (case xl_BadText => k_is); (case sa_BadText => k_is); (case ga_BadText => k_is); (case gg_BadText => k_is); (case ca_BadText => k_is); (case nb_BadText_value => k_is); (case in_BadText => k_is); (case ty_BadText => k_is); (case li_BadText => k_is); (case ci_BadText => k_is); (case kb_BadText_ValueError => (first | k_is | rfl | kernel_rfl)); (case ki_BadText => k_is); (case kc_BadText => k_is); (case hd_BadText => k_is); (case mo_BadText => k_is); (case ne_BadText_BadLine => (intro z; exact absurd z (by decide +kernel))); (case ne_BadText_BadLog => (intro z; exact absurd z (by decide +kernel))); (case ne_BadText_BadOperation => (intro z; exact absurd z (by decide +kernel))); (case ne_BadText_BadOrder => (intro z; exact absurd z (by decide +kernel))); (case ne_BadText_BadStamps => (intro z; exact absurd z (by decide +kernel))); (case ne_BadText_BadTolerance => (intro z; exact absurd z (by decide +kernel))); (case ne_BadText_NoIndex => (intro z; exact absurd z (by decide +kernel))); (case ne_BadText_NoPosition => (intro z; exact absurd z (by decide +kernel))); (case ne_BadText_NoValue => (intro z; exact absurd z (by decide +kernel))); (case ne_BadText_NothingToUndo => (intro z; exact absurd z (by decide +kernel))); (case ne_BadText_TooMany => (intro z; exact absurd z (by decide +kernel))); (case ne_BadText_Unexplained => (intro z; exact absurd z (by decide +kernel))); (case ne_BadText_Written => (intro z; exact absurd z (by decide +kernel))); (case sb_BadText_BadLine => (first | rfl | k_is)); (case sb_BadText_BadLog => (first | rfl | k_is)); (case sb_BadText_BadOperation => (first | rfl | k_is)); (case sb_BadText_BadOrder => (first | rfl | k_is)); (case sb_BadText_BadStamps => (first | rfl | k_is)); (case sb_BadText_BadText => (first | rfl | k_is)); (case sb_BadText_BadTolerance => (first | rfl | k_is)); (case sb_BadText_CellError => (first | rfl | k_is)); (case sb_BadText_NoIndex => (first | rfl | k_is)); (case sb_BadText_NoPosition => (first | rfl | k_is)); (case sb_BadText_NoValue => (first | rfl | k_is)); (case sb_BadText_NothingToUndo => (first | rfl | k_is)); (case sb_BadText_TooMany => (first | rfl | k_is)); (case sb_BadText_Unexplained => (first | rfl | k_is)); (case sb_BadText_Written => (first | rfl | k_is)); (case xl_BadLine => k_is); (case sa_BadLine => k_is); (case ga_BadLine => k_is); (case gg_BadLine => k_is); (case ca_BadLine => k_is); (case nb_BadLine_line => k_is); (case in_BadLine => k_is); (case ty_BadLine => k_is); (case li_BadLine => k_is); (case ci_BadLine => k_is); (case kb_BadLine_ValueError => (first | k_is | rfl | kernel_rfl)); (case ki_BadLine => k_is); (case kc_BadLine => k_is); (case hd_BadLine => k_is); (case mo_BadLine => k_is); (case ne_BadLine_BadLog => (intro z; exact absurd z (by decide +kernel))); (case ne_BadLine_BadOperation => (intro z; exact absurd z (by decide +kernel))); (case ne_BadLine_BadOrder => (intro z; exact absurd z (by decide +kernel))); (case ne_BadLine_BadStamps => (intro z; exact absurd z (by decide +kernel))); (case ne_BadLine_BadText => (intro z; exact absurd z (by decide +kernel))); (case ne_BadLine_BadTolerance => (intro z; exact absurd z (by decide +kernel))); (case ne_BadLine_NoIndex => (intro z; exact absurd z (by decide +kernel))); (case ne_BadLine_NoPosition => (intro z; exact absurd z (by decide +kernel))); (case ne_BadLine_NoValue => (intro z; exact absurd z (by decide +kernel))); (case ne_BadLine_NothingToUndo => (intro z; exact absurd z (by decide +kernel))); (case ne_BadLine_TooMany => (intro z; exact absurd z (by decide +kernel))); (case ne_BadLine_Unexplained => (intro z; exact absurd z (by decide +kernel))); (case ne_BadLine_Written => (intro z; exact absurd z (by decide +kernel))); (case sb_BadLine_BadLine => (first | rfl | k_is)); (case sb_BadLine_BadLog => (first | rfl | k_is)); (case sb_BadLine_BadOperation => (first | rfl | k_is)); (case sb_BadLine_BadOrder => (first | rfl | k_is)); (case sb_BadLine_BadStamps => (first | rfl | k_is)); (case sb_BadLine_BadText => (first | rfl | k_is)); (case sb_BadLine_BadTolerance => (first | rfl | k_is)); (case sb_BadLine_CellError => (first | rfl | k_is)); (case sb_BadLine_NoIndex => (first | rfl | k_is)); (case sb_BadLine_NoPosition => (first | rfl | k_is)); (case sb_BadLine_NoValue => (first | rfl | k_is)); (case sb_BadLine_NothingToUndo => (first | rfl | k_is)); (case sb_BadLine_TooMany => (first | rfl | k_is)); (case sb_BadLine_Unexplained => (first | rfl | k_is)); (case sb_BadLine_Written => (first | rfl | k_is)); (case gn_ => k_is); (case gt_ => k_is); (case cg_CellError => k_is); (case cr_CellError => k_is); (case ci_CellError => k_is)
  case hT => (intro w h Y p hp; cases hp)
  case nT => (intro w p hp; cases hp)
  case hC => (intro w h KX p hp; cases hp)
