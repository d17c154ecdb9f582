import PyProof.Rows.All
import Wide.All
import OpenK.AllK
import Wide.FinOn
import PySem.Challenge.RW_clockslack_k16_logs_joined
import HandS.ForMost
import HandS.ForExc
import HandS.Wide
import HandS.Defaults
import HandS.SortInts
import HandS.Lambda
import HandS.TupAny
import HandS.TupMul
import HandS.Deep
import HandS.Codes
import HandS.IsInst
import HandS.RaiseMore
import HandS.WordsDict
import HandS.Style
import HandS.NoneIn
import HandS.SetFor
import HandS.Ends
import HandS.Conv
import HandS.Strs
import PyProof.ReprRoads
import PyProof.ReprLen
import PyProof.FitsInt
import PyProof.P3Eq
import PyProof.StrLawsRepr
import PyProof.Rows.RegStrFacts
import HandS.SetBool
import HandS.DictComp
import KE.GoesEnum
import HandS.Zip
import HandS.GenYield
import HandS.GenCall
import HandS.GenList
import HandS.TupLe
import HandS.More
import HandS.Iter
import KE.SortKeyHeap
import KE.KNestM
import HandS.ExcInit
import HandS.ExcField
import HandS.ExcIs
import HandS.TryMany
import KE.KExcIs
import KE.KEqNest
import HandS.Star
set_option Elab.async false
set_option linter.all false
set_option maxRecDepth 100000
set_option maxHeartbeats 4000000
/-! DL1: data, slots, the relation between slots and the abstract heap, how it evolves. -/
namespace DL
open PySem PySem.Spec PyProof.Rows L2
/-- a Python value as plain data -/
inductive D where
  | non | bl (b : Bool) | int (i : Int) | str (x : Str)
  | tup (xs : List D) | lst (xs : List D) | dic (ks : List Key) (vs : List D) | set (ks : List Int)
  | scr (ns : List Int) | ty (n : String)
  | obj (c : Str) (ns : List Str) (vs : List D)
  | ins (c : Str) (ns : List Str) (vs : List D)
/-- what an owned object holds -/
inductive Cont where
  | lst (xs : List D) | dic (ks : List Key) (vs : List D)
def Cont.toD : Cont → D
  | .lst xs => .lst xs
  | .dic ks vs => .dic ks vs
/-- own: made here; bor: lent by the caller; lck: read only for now -/
inductive Md where
  | own | bor | lck
  deriving DecidableEq
inductive Slot where
  | un | d (x : D) | ow (c : Cont) (m : Md)
abbrev DEnv := List Slot
/-- what an expression gives: data; a fresh object; the object of a slot -/
inductive Val where
  | d (x : D) | fr (c : Cont) | sl (i : Nat)
/-- an exception of a class of the program -/
structure Ex where
  c : Str
  ns : List Str
  vs : List D
inductive R (α : Type) where
  | ok (a : α) (ρ : DEnv) | ex (x : Ex) (ρ : DEnv) | bad
def R.bind {α β : Type} (r : R α) (g : α → DEnv → R β) : R β := match r with
  | .ok a ρ => g a ρ
  | .ex x ρ => .ex x ρ
  | .bad => .bad
abbrev M (α : Type) := DEnv → R α
abbrev EM := M Val
/-- an exception that was caught, of the class cls, its dict at d -/
def xoO (a : Addr) (cls : Value) (d : Addr) : HO := .ext fun h => ∃ (oe : Obj) (vs : Array Value), h.get? a = some oe ∧ oe.cls = cls ∧ oe.dict = some d ∧ oe.data = .fields vs
/-- an exception without a dict -/
def xo0 (a : Addr) (cls : Value) : HO := .ext fun h => ∃ (oe : Obj) (vs : Array Value), h.get? a = some oe ∧ oe.cls = cls ∧ oe.dict = none ∧ oe.data = .fields vs
/-- a dict that is a store of known answers: key i, if there, holds tb[i] -/
def cchF (a : Addr) (tb : List Int) (h : Heap) : Prop := ∃ (P : Program) (w : World) (kvs : List (Int × Value)), kvs.length ≤ sizeLine ∧ (a == sysModules) = false ∧ h.DictOf (mixKind P w) a (kvs.map fun p => (Sum.inl p.1, p.2)) ∧ ∀ p ∈ kvs, ∃ (i : Nat) (x : Int), p.1 = (i : Int) ∧ tb[i]? = some x ∧ RelV (.int x) p.2
def cchO (a : Addr) (tb : List Int) : HO := .ext (cchF a tb)
/-- the module's names (for the classes of exceptions) -/
class MgT where
  mg : Str → Option Value
section
variable [MgT]
section
variable (K : PySem.W.Frag) (F : Hp)
mutual
inductive Rep : V → D → Prop
  | non : Rep .non .non
  | bl (b : Bool) : Rep (.bl b) (.bl b)
  | int (i : Int) : Rep (.int i) (.int i)
  | str (x : Str) : Rep (.str x) (.str x)
  | lst {a : Addr} {xs : List V} {ds : List D} : F a = some (.lst xs) → RepL xs ds → Rep (.ref a) (.lst ds)
  | tup {a : Addr} {xs : List V} {ds : List D} : SqT K F a xs → RepL xs ds → Rep (.ref a) (.tup ds)
  | dic {a : Addr} {o : Obj} {ks : List Key} {xs : List V} {ds : List D} : F a = some (.frz o (.dK (ks.zip xs))) → ks.length = xs.length → RepL xs ds → Rep (.ref a) (.dic ks ds)
  | scr {a : Addr} {ns : List Int} : SqL K F a (ns.map V.int) → Rep (.ref a) (.scr ns)
  | ty (n : String) : Rep (.ty n) (.ty n)
  | obj {a d : Addr} {cls : Value} {c : Str} {ns : List Str} {xs : List V} {ds : List D} : F a = some (xoO a cls d) → MgT.mg c = some cls → F d = some (.xd (ns.zip xs)) → ns.length = xs.length → RepL xs ds → Rep (.ref a) (.obj c ns ds)
  | ob0 {a : Addr} {cls : Value} {c : Str} : F a = some (xo0 a cls) → MgT.mg c = some cls → Rep (.ref a) (.obj c [] [])
  | pt (a : Addr) : Rep (.ref a) (.set [Int.ofNat a])
  | opq (a : Addr) : Rep (.ref a) (.set [])
  | cch {a : Addr} {tb : List Int} : F a = some (cchO a tb) → Rep (.ref a) (.set (0 :: 0 :: tb))
  | ins {a C dx : Addr} {c : Str} {ns : List Str} {xs : List V} {ds : List D} : F a = some (.ins C dx (ns.zip xs)) → MgT.mg c = some (.ref C) → ns.length = xs.length → RepL xs ds → Rep (.ref a) (.ins c ns ds)
inductive RepL : List V → List D → Prop
  | nil : RepL [] []
  | cons {v : V} {vs : List V} {d : D} {ds : List D} : Rep v d → RepL vs ds → RepL (v :: vs) (d :: ds)
end
end
structure RdLe (F F' : Hp) : Prop where
  «1» : ∀ a xs, F a = some (.lst xs) → F' a = some (.lst xs)
  «2» : ∀ a u, Rd F a u → Rd F' a u
  fr : ∀ a o u, F a = some (.frz o u) → F' a = some (.frz o u)
  xo : ∀ a cls d, F a = some (xoO a cls d) → F' a = some (xoO a cls d)
  xd : ∀ a fs, F a = some (.xd fs) → F' a = some (.xd fs)
  x0 : ∀ a cls, F a = some (xo0 a cls) → F' a = some (xo0 a cls)
  ins : ∀ a C dx fs, F a = some (.ins C dx fs) → F' a = some (.ins C dx fs)
  cc : ∀ a tb, F a = some (cchO a tb) → F' a = some (cchO a tb)
theorem RdLe.of {F F' : Hp} (h : Same F F') : RdLe F F' := ⟨fun a xs e => h a _ e, fun a u e => by
  rcases e with e | ⟨o, e⟩
  · exact .inl (h _ _ e)
  · exact .inr ⟨o, h _ _ e⟩, fun a o u e => h a _ e, fun a cls d e => h a _ e, fun a fs e => h a _ e, fun a cls e => h a _ e, fun a C dx fs e => h a _ e, fun a tb e => h a _ e⟩
theorem RdLe.sqT {K : PySem.W.Frag} {F F' : Hp} (h : RdLe F F') {a : Addr} {xs : List V} (s : SqT K F a xs) : SqT K F' a xs := by
  rcases s with s | s
  · exact .inl (h.2 _ _ s)
  · exact .inr s
theorem RdLe.sqL {K : PySem.W.Frag} {F F' : Hp} (h : RdLe F F') {a : Addr} {xs : List V} (s : SqL K F a xs) : SqL K F' a xs := by
  rcases s with s | s
  · exact .inl (h.2 _ _ s)
  · exact .inr s
section
variable {K : PySem.W.Frag} {F F' : Hp}
mutual
theorem Rep.mono (h : RdLe F F') : ∀ {v : V} {d : D}, Rep K F v d → Rep K F' v d
  | _, _, .non => .non
  | _, _, .bl b => .bl b
  | _, _, .int i => .int i
  | _, _, .str x => .str x
  | _, _, .lst e r => .lst (h.1 _ _ e) (RepL.mono h r)
  | _, _, .tup e r => .tup (h.sqT e) (RepL.mono h r)
  | _, _, .dic e l r => .dic (h.fr _ _ _ e) l (RepL.mono h r)
  | _, _, .scr e => .scr (h.sqL e)
  | _, _, .ty n => .ty n
  | _, _, .obj e1 e2 e3 l r => .obj (h.xo _ _ _ e1) e2 (h.xd _ _ e3) l (RepL.mono h r)
  | _, _, .ob0 e1 e2 => .ob0 (h.x0 _ _ e1) e2
  | _, _, .pt a => .pt a
  | _, _, .opq a => .opq a
  | _, _, .cch e => .cch (h.cc _ _ e)
  | _, _, .ins e1 e2 l r => .ins (h.ins _ _ _ _ e1) e2 l (RepL.mono h r)
theorem RepL.mono (h : RdLe F F') : ∀ {v : List V} {d : List D}, RepL K F v d → RepL K F' v d
  | _, _, .nil => .nil
  | _, _, .cons a b => .cons (Rep.mono h a) (RepL.mono h b)
end
theorem RepL.length : ∀ {vs : List V} {ds : List D}, RepL K F vs ds → vs.length = ds.length
  | _, _, .nil => rfl
  | _, _, .cons _ b => congrArg (· + 1) (RepL.length b)
theorem RepL.app : ∀ {vs us : List V} {ds es : List D}, RepL K F vs ds → RepL K F us es → RepL K F (vs ++ us) (ds ++ es)
  | _, _, _, _, .nil, r => r
  | _, _, _, _, .cons a b, r => .cons a (RepL.app b r)
theorem RepL.one {v : V} {d : D} (h : Rep K F v d) : RepL K F [v] [d] := .cons h .nil
theorem RepL.get : ∀ {vs : List V} {ds : List D} {i : Nat} {d : D}, RepL K F vs ds → ds[i]? = some d → ∃ v, vs[i]? = some v ∧ Rep K F v d
  | _, _, _, _, .nil, e => by simp at e
  | _, _, 0, _, .cons a b, e => by simp at e; subst e; exact ⟨_, rfl, a⟩
  | _, _, i + 1, d, .cons a b, e => by
    obtain ⟨v, h1, h2⟩ := RepL.get (i := i) (d := d) b (by simpa using e)
    exact ⟨v, by simpa using h1, h2⟩
theorem RepL.getV : ∀ {vs : List V} {ds : List D} {i : Nat} {v : V}, RepL K F vs ds → vs[i]? = some v → ∃ d, ds[i]? = some d ∧ Rep K F v d
  | _, _, _, _, .nil, e => by simp at e
  | _, _, 0, _, .cons a b, e => by simp at e; subst e; exact ⟨_, rfl, a⟩
  | _, _, i + 1, v, .cons a b, e => by
    obtain ⟨d, h1, h2⟩ := RepL.getV (i := i) (v := v) b (by simpa using e)
    exact ⟨d, by simpa using h1, h2⟩
theorem RepL.set {v : V} {d : D} (h : Rep K F v d) : ∀ {vs : List V} {ds : List D} (i : Nat), RepL K F vs ds → RepL K F (vs.set i v) (ds.set i d)
  | _, _, _, .nil => .nil
  | _, _, 0, .cons a b => .cons h b
  | _, _, i + 1, .cons a b => .cons a (RepL.set h i b)
theorem RepL.take : ∀ {vs : List V} {ds : List D} (n : Nat), RepL K F vs ds → RepL K F (vs.take n) (ds.take n)
  | _, _, 0, _ => .nil
  | _, _, _ + 1, .nil => .nil
  | _, _, n + 1, .cons a b => .cons a (RepL.take n b)
theorem RepL.drop : ∀ {vs : List V} {ds : List D} (n : Nat), RepL K F vs ds → RepL K F (vs.drop n) (ds.drop n)
  | _, _, 0, r => r
  | _, _, _ + 1, .nil => .nil
  | _, _, n + 1, .cons a b => RepL.drop n b
theorem RepL.eraseIdx : ∀ {vs : List V} {ds : List D} (n : Nat), RepL K F vs ds → RepL K F (vs.eraseIdx n) (ds.eraseIdx n)
  | _, _, _, .nil => .nil
  | _, _, 0, .cons a b => b
  | _, _, n + 1, .cons a b => .cons a (RepL.eraseIdx n b)
theorem RepL.reverse : ∀ {vs : List V} {ds : List D}, RepL K F vs ds → RepL K F vs.reverse ds.reverse
  | _, _, .nil => .nil
  | _, _, .cons a b => by
    rw [List.reverse_cons, List.reverse_cons]
    exact (RepL.reverse b).app (.one a)
theorem RepL.ints : ∀ {ns : List Int}, RepL K F (ns.map V.int) (ns.map D.int)
  | [] => .nil
  | n :: ns => .cons (.int n) (RepL.ints (ns := ns))
theorem RepL.intsV : ∀ {vs : List V} {ns : List Int}, RepL K F vs (ns.map D.int) → vs = ns.map V.int
  | _, [], .nil => rfl
  | _, n :: ns, .cons a b => by
    cases a
    rw [RepL.intsV b]
    rfl
theorem RepL.flatten : ∀ {vs : List V} {ds : List D} (n : Nat), RepL K F vs ds → RepL K F (List.replicate n vs).flatten (List.replicate n ds).flatten
  | _, _, 0, _ => .nil
  | _, _, n + 1, r => by
    rw [List.replicate_succ, List.replicate_succ, List.flatten_cons, List.flatten_cons]
    exact r.app (RepL.flatten n r)
end
/-- no table of code objects -/
def NT (o : HO) : Prop := ∀ ps, o ≠ .tbl ps
/-- a table of code objects, or a code object -/
def KT (a : Addr) (o : HO) : Prop := (∃ ps, o = .tbl ps) ∨ ∃ q, o = LamX.CodeO a q
def CRep (K : PySem.W.Frag) (F H : Hp) (a : Addr) : Cont → Prop
  | .lst ds => ∃ vs, H a = some (.lst vs) ∧ RepL K F vs ds
  | .dic ks ds => ∃ vs, H a = some (.dK (ks.zip vs)) ∧ ks.length = vs.length ∧ RepL K F vs ds
theorem CRep.mono {K : PySem.W.Frag} {F F' H H' : Hp} {a : Addr} (hF : RdLe F F') (hH : H' a = H a) : ∀ {c : Cont}, CRep K F H a c → CRep K F' H' a c
  | .lst ds, ⟨vs, e, r⟩ => ⟨vs, hH.trans e, r.mono hF⟩
  | .dic ks ds, ⟨vs, e, l, r⟩ => ⟨vs, hH.trans e, l, r.mono hF⟩
theorem CRep.nt {K : PySem.W.Frag} {F H : Hp} {a : Addr} {o : HO} (h : H a = Option.some o) {c : Cont} (cr : CRep K F H a c) : NT o := fun ps z => by
  subst z
  cases c with
  | lst ds => obtain ⟨vs, e, r⟩ := cr; rw [h] at e; cases e
  | dic ks ds => obtain ⟨vs, e, l, r⟩ := cr; rw [h] at e; cases e
theorem CRep.kt {K : PySem.W.Frag} {F H : Hp} {a : Addr} {o : HO} (h : H a = Option.some o) {c : Cont} (cr : CRep K F H a c) : ¬ KT a o := fun z => by
  cases c with
  | lst ds =>
    obtain ⟨vs, e, r⟩ := cr
    rw [h] at e
    rcases z with ⟨ps, rfl⟩ | ⟨g, rfl⟩
    · cases e
    · unfold LamX.CodeO at e; cases e
  | dic ks ds =>
    obtain ⟨vs, e, l, r⟩ := cr
    rw [h] at e
    rcases z with ⟨ps, rfl⟩ | ⟨g, rfl⟩
    · cases e
    · unfold LamX.CodeO at e; cases e
theorem CRep.some {K : PySem.W.Frag} {F H : Hp} {a : Addr} : ∀ {c : Cont}, CRep K F H a c → ∃ o, H a = some o
  | .lst ds, ⟨vs, e, r⟩ => ⟨_, e⟩
  | .dic ks ds, ⟨vs, e, l, r⟩ => ⟨_, e⟩
/-- the object under which it is frozen: a dict is locked, too -/
def FrzO (c : Cont) (o o' : HO) : Prop := match c with
  | .lst _ => o' = o
  | .dic _ _ => ∃ od, o' = .frz od o
theorem CRep.rep {K : PySem.W.Frag} {F F' H : Hp} {a : Addr} {o o' : HO} (hF : RdLe F F') (ho : H a = Option.some o) (hH : F' a = Option.some o') : ∀ {c : Cont}, FrzO c o o' → CRep K F H a c → Rep K F' (.ref a) c.toD
  | .lst ds, z, ⟨vs, e, r⟩ => by
    obtain rfl : o' = o := z
    rw [ho] at e; cases e
    exact .lst hH (r.mono hF)
  | .dic ks ds, z, ⟨vs, e, l, r⟩ => by
    obtain ⟨od, rfl⟩ := z
    rw [ho] at e; cases e
    exact .dic hH l (r.mono hF)
def SlotR (K : PySem.W.Frag) (F H : Hp) (ov : Option V) : Slot → Prop
  | .un => True
  | .d x => ∃ v, ov = some v ∧ Rep K F v x
  | .ow c _ => ∃ a, ov = some (.ref a) ∧ F a = none ∧ CRep K F H a c
end
/-- the tables of code objects that may be written, with the names of their code objects; what is frozen from the start -/
class TabT extends MgT where
  T : List (Addr × Str)
  FB : Hp
variable [TabT]
/-- a slot owns the object at a -/
def Ow (σ : L2.St) (ρ : DEnv) (a : Addr) : Prop := ∃ (i : Nat) (c : Cont) (m : Md), ρ[i]? = some (Slot.ow c m) ∧ σ[i]? = some (some (V.ref a))
/-- .. and may change it -/
def Mt (σ : L2.St) (ρ : DEnv) (a : Addr) : Prop := ∃ (i : Nat) (c : Cont) (m : Md), ρ[i]? = some (Slot.ow c m) ∧ m ≠ Md.lck ∧ σ[i]? = some (some (V.ref a))
theorem Mt.ow {σ : L2.St} {ρ : DEnv} {a : Addr} : Mt σ ρ a → Ow σ ρ a := fun ⟨i, c, m, h, _, q⟩ => ⟨i, c, m, h, q⟩
structure TabOk (F H : Hp) : Prop where
  tabs : LamX.Tabs TabT.T H
  out : ∀ p ∈ TabT.T, F p.1 = none
  base : Same TabT.FB F
theorem TabOk.step {F H F' H' : Hp} (t : TabOk F H) (sf : Same F F') (k : ∀ a o, KT a o → H a = some o → H' a = some o) (n : ∀ a, KT a (H a |>.getD (.lst [])) → F a = none → F' a = none) : TabOk F' H' := by
  refine ⟨fun p hp => ?_, fun p hp => ?_, fun a o e => sf _ _ (t.base _ _ e)⟩
  · obtain ⟨ps, h1, h2, h3⟩ := t.tabs p hp
    refine ⟨ps, k _ _ (.inl ⟨ps, rfl⟩) h1, h2, fun pos cv hc => ?_⟩
    obtain ⟨c, e1, e2⟩ := h3 pos cv hc
    exact ⟨c, e1, k _ _ (.inr ⟨_, rfl⟩) e2⟩
  · obtain ⟨ps, h1, _⟩ := t.tabs p hp
    exact n p.1 (by rw [h1]; exact .inl ⟨ps, rfl⟩) (t.out p hp)
theorem TabOk.frz {F H : Hp} {a : Addr} {o o' : HO} (t : TabOk F H) (h : H a = some o) (nk : ¬ KT a o) (fa : F a = none) : TabOk (upd F a o') (upd H a o') := by
  refine t.step (fun b u e => by rw [upd_ne (ne_of_none e fa)]; exact e) (fun b u k e => ?_) fun b k e => ?_
  · by_cases z : b = a
    · subst z; rw [h] at e; cases e; exact absurd k nk
    · rw [upd_ne z]; exact e
  · by_cases z : b = a
    · subst z; rw [h] at k; exact absurd k nk
    · rw [upd_ne z]; exact e
theorem TabOk.own {F H : Hp} {a : Addr} {o o' : HO} (t : TabOk F H) (h : H a = some o) (nk : ¬ KT a o) : TabOk F (upd H a o') := by
  refine t.step (Same.refl _) (fun b u k e => ?_) fun b _ e => e
  by_cases z : b = a
  · subst z; rw [h] at e; cases e; exact absurd k nk
  · rw [upd_ne z]; exact e
structure SR (K : PySem.W.Frag) (F H : Hp) (σ : L2.St) (ρ : DEnv) : Prop where
  len : σ.length = ρ.length
  sub : Same F H
  slot : ∀ (i : Nat) (s : Slot), ρ[i]? = some s → ∃ ov, σ[i]? = some ov ∧ SlotR K F H ov s
  dist : ∀ (i j : Nat) (c : Cont) (m : Md) (c' : Cont) (m' : Md) (a : Addr), ρ[i]? = some (.ow c m) → ρ[j]? = some (.ow c' m') → σ[i]? = some (some (.ref a)) → σ[j]? = some (some (.ref a)) → i = j
  tab : TabOk F H
/-- from (σ, ρ, F, H) to (σ', ρ', F', H') -/
structure Ev (σ : L2.St) (ρ : DEnv) (F H : Hp) (σ' : L2.St) (ρ' : DEnv) (F' H' : Hp) : Prop where
  ext : Same F F'
  keep : ∀ a o, H a = some o → ¬ Mt σ ρ a → NT o → H' a = some o
  newF : ∀ a, F a = none → F' a ≠ none → H a = none ∨ Ow σ ρ a
  dom : ∀ a, H a ≠ none → H' a ≠ none
  bor : ∀ (i : Nat) (c : Cont) (m : Md), ρ[i]? = some (.ow c m) → m ≠ .own → σ'[i]? = σ[i]? ∧ ∃ c' : Cont, ρ'[i]? = some (.ow c' m) ∧ (m = .lck → c' = c)
  own' : ∀ a, Ow σ' ρ' a → H a = none ∨ Ow σ ρ a
  mt' : ∀ a, Mt σ' ρ' a → H a = none ∨ Mt σ ρ a
section
variable {σ σ1 σ2 : L2.St} {ρ ρ1 ρ2 : DEnv} {F F1 F2 H H1 H2 : Hp}
theorem Ev.refl : Ev σ ρ F H σ ρ F H := ⟨Same.refl _, fun _ _ e _ _ => e, fun _ e n => absurd e n, fun _ h => h, fun i c m e _ => ⟨rfl, c, e, fun _ => rfl⟩, fun _ h => .inr h, fun _ h => .inr h⟩
theorem Ev.trans (a : Ev σ ρ F H σ1 ρ1 F1 H1) (b : Ev σ1 ρ1 F1 H1 σ2 ρ2 F2 H2) : Ev σ ρ F H σ2 ρ2 F2 H2 where
  ext := a.ext.trans b.ext
  keep := fun x o e n nt => by
    refine b.keep x o (a.keep x o e n nt) (fun m => ?_) nt
    rcases a.mt' x m with z | z
    · rw [e] at z; cases z
    · exact n z
  newF := fun x e n => by
    by_cases q : F1 x = none
    · rcases b.newF x q n with z | z
      · cases hx : H x with
        | none => exact .inl rfl
        | some o => exact absurd z (a.dom x (by rw [hx]; simp))
      · exact a.own' x z
    · exact a.newF x e q
  dom := fun x h => b.dom x (a.dom x h)
  bor := fun i c m e hm => by
    obtain ⟨s1, c1, r1, l1⟩ := a.bor i c m e hm
    obtain ⟨s2, c2, r2, l2⟩ := b.bor i c1 m r1 hm
    exact ⟨s2.trans s1, c2, r2, fun z => (l2 z).trans (l1 z)⟩
  own' := fun x h => by
    rcases b.own' x h with z | z
    · cases hx : H x with
      | none => exact .inl rfl
      | some o => exact absurd z (a.dom x (by rw [hx]; simp))
    · exact a.own' x z
  mt' := fun x h => by
    rcases b.mt' x h with z | z
    · cases hx : H x with
      | none => exact .inl rfl
      | some o => exact absurd z (a.dom x (by rw [hx]; simp))
    · exact a.mt' x z
end
/-- only new objects: of the abstract heap, of its frozen part -/
structure Gr (F H F' H' : Hp) : Prop where
  ext : Same F F'
  all : Same H H'
  sub : Same F' H'
  newF : ∀ a, F a = none → F' a ≠ none → H a = none
theorem Gr.refl {F H : Hp} (h : Same F H) : Gr F H F H := ⟨Same.refl _, Same.refl _, h, fun _ e n => absurd e n⟩
theorem Gr.trans {F H F1 H1 F2 H2 : Hp} (a : Gr F H F1 H1) (b : Gr F1 H1 F2 H2) : Gr F H F2 H2 := ⟨a.ext.trans b.ext, a.all.trans b.all, b.sub, fun x e n => by
  by_cases q : F1 x = none
  · exact Same.free a.all (b.newF x q n)
  · exact a.newF x e q⟩
section
variable {K : PySem.W.Frag} {σ : L2.St} {ρ : DEnv} {F H F' H' : Hp}
theorem Gr.tab (g : Gr F H F' H') (t : TabOk F H) : TabOk F' H' := t.step g.ext (fun a o _ e => g.all a o e) fun a k e => by
  cases h : F' a with
  | none => rfl
  | some u =>
    have := g.newF a e (by rw [h]; simp)
    rw [this] at k
    rcases k with ⟨ps, z⟩ | ⟨q, z⟩
    · cases z
    · unfold LamX.CodeO at z; cases z
theorem Gr.sr (g : Gr F H F' H') (s : SR K F H σ ρ) : SR K F' H' σ ρ := by
  refine ⟨s.len, g.sub, fun i sl e => ?_, s.dist, g.tab s.tab⟩
  obtain ⟨ov, h1, h2⟩ := s.slot i sl e
  refine ⟨ov, h1, ?_⟩
  cases sl with
  | un => trivial
  | d x => obtain ⟨v, q, r⟩ := h2; exact ⟨v, q, r.mono (.of g.ext)⟩
  | ow c m =>
    obtain ⟨a, q, fn, r⟩ := h2
    obtain ⟨o, ho⟩ := r.some
    refine ⟨a, q, ?_, r.mono (.of g.ext) ((g.all _ _ ho).trans ho.symm)⟩
    cases hF : F' a with
    | none => rfl
    | some u =>
      have z := g.newF a fn (by rw [hF]; simp)
      rw [ho] at z
      cases z
theorem Gr.ev (g : Gr F H F' H') : Ev σ ρ F H σ ρ F' H' := ⟨g.ext, fun a o e _ _ => g.all a o e, fun a e n => .inl (g.newF a e n), fun a h => by
  cases q : H a with
  | none => exact absurd q h
  | some o => rw [g.all a o q]; simp, fun i c m e _ => ⟨rfl, c, e, fun _ => rfl⟩, fun _ h => .inr h, fun _ h => .inr h⟩
/-- a new object, not frozen -/
theorem Gr.fresh {p : Addr} {o : HO} (h : Same F H) (n : H p = none) : Gr F H F (upd H p o) := ⟨Same.refl _, fun b u e => by rw [upd_ne (ne_of_none e n)]; exact e, fun b u e => by rw [upd_ne (ne_of_none (h _ _ e) n)]; exact h _ _ e, fun _ e z => absurd e z⟩
/-- a new object, frozen -/
theorem Gr.froz {p : Addr} {o : HO} (h : Same F H) (n : H p = none) : Gr F H (upd F p o) (upd H p o) := by
  have nF : F p = none := Same.free h n
  refine ⟨fun b u e => by rw [upd_ne (ne_of_none e nF)]; exact e, fun b u e => by rw [upd_ne (ne_of_none e n)]; exact e, fun b u e => ?_, fun b e z => ?_⟩
  · by_cases q : b = p
    · subst q; rw [upd_same] at e ⊢; exact e
    · rw [upd_ne q] at e ⊢; exact h _ _ e
  · by_cases q : b = p
    · subst q; exact n
    · rw [upd_ne q] at z; exact absurd e z
end
/-- the value v is x; Hb: the heap where the evaluation began -/
def VR (K : PySem.W.Frag) (σ : L2.St) (Hb F H : Hp) (ρ : DEnv) (v : V) : Val → Prop
  | .d x => Rep K F v x
  | .fr c => ∃ p, v = .ref p ∧ Hb p = none ∧ F p = none ∧ CRep K F H p c ∧ ¬ Ow σ ρ p
  | .sl i => σ[i]? = some (some v)
section
variable {K : PySem.W.Frag} {σ : L2.St} {ρ ρ' : DEnv} {Hb Hb' F H F' H' : Hp}
theorem VR.ev {v : V} {x : Val} (h : VR K σ Hb F H ρ v x) (ev : Ev σ ρ F H σ ρ' F' H') : VR K σ Hb F' H' ρ' v x := by
  cases x with
  | d x => exact Rep.mono (.of ev.ext) h
  | sl i => exact h
  | fr c =>
    obtain ⟨p, e, nb, nF, cr, no⟩ := h
    obtain ⟨o, ho⟩ := cr.some
    have nn : ¬ H p = none := fun z => by rw [ho] at z; cases z
    refine ⟨p, e, nb, ?_, cr.mono (.of ev.ext) ((ev.keep p o ho (fun m => no m.ow) (CRep.nt ho cr)).trans ho.symm), fun z => (ev.own' p z).elim nn no⟩
    cases hF : F' p with
    | none => rfl
    | some u => exact ((ev.newF p nF (by rw [hF]; simp)).elim nn no).elim
theorem VR.base {v : V} {x : Val} (h : VR K σ Hb F H ρ v x) (d : ∀ a, Hb' a ≠ none → Hb a ≠ none) : VR K σ Hb' F H ρ v x := by
  cases x with
  | d x => exact h
  | sl i => exact h
  | fr c =>
    obtain ⟨p, e, nb, r⟩ := h
    refine ⟨p, e, ?_, r⟩
    cases q : Hb' p with
    | none => rfl
    | some u => exact absurd nb (d p (by rw [q]; simp))
end
structure VRL (K : PySem.W.Frag) (σ : L2.St) (Hb F H : Hp) (ρ : DEnv) (vs : List V) (xs : List Val) : Prop where
  all : Paired (VR K σ Hb F H ρ) vs xs
  frs : ∀ (i j : Nat) (c c' : Cont) (p : Addr), xs[i]? = some (.fr c) → xs[j]? = some (.fr c') → vs[i]? = some (.ref p) → vs[j]? = some (.ref p) → i = j
/-- an exception, as what HandS tells of it -/
def XR (K : PySem.W.Frag) (mg : Str → Option Value) (F : Hp) (x : Ex) (cls : Value) (dd : Option Addr) : Prop :=
  mg x.c = some cls ∧ ∃ d vs, dd = some d ∧ F d = some (.xd (x.ns.zip vs)) ∧ x.ns.length = vs.length ∧ RepL K F vs x.vs
section
variable {α β γ δ : Type}
/-- how results lie -/
abbrev RelT (β α : Type) := Hp → Hp → Hp → DEnv → β → α → Prop
def Out (K : PySem.W.Frag) (mg : Str → Option Value) (E : XK) (rel : RelT β α) (σ : L2.St) (ρ : DEnv) (F H : Hp) (r : R α) (Q : β → Hp → Prop) : Prop :=
  match r with
  | .ok x ρ' => ∀ v F' H', SR K F' H' σ ρ' → Ev σ ρ F H σ ρ' F' H' → rel H F' H' ρ' v x → Q v H'
  | .ex x ρ' => ∀ cls dd F' H', SR K F' H' σ ρ' → Ev σ ρ F H σ ρ' F' H' → XR K mg F' x cls dd → E cls dd H'
  | .bad => False
variable {K : PySem.W.Frag} {mg : Str → Option Value} {E : XK} {rel : RelT β α} {rel2 : RelT δ γ} {σ : L2.St} {ρ ρ1 : DEnv} {F H F1 H1 : Hp}
theorem Out.bind {r : R α} {g : α → DEnv → R γ} {Q : δ → Hp → Prop} (h : Out K mg E rel2 σ ρ F H (r.bind g) Q) :
    Out K mg E rel σ ρ F H r (fun v H1 => ∃ x F1 ρ1, r = .ok x ρ1 ∧ SR K F1 H1 σ ρ1 ∧ Ev σ ρ F H σ ρ1 F1 H1 ∧ rel H F1 H1 ρ1 v x ∧ Out K mg E rel2 σ ρ F H (g x ρ1) Q) := by
  cases r with
  | ok x ρ' => exact fun v F' H' s e r => ⟨x, F', ρ', rfl, s, e, r, h⟩
  | ex x ρ' => exact h
  | bad => exact h
theorem Out.from {r : R α} {Q : β → Hp → Prop} (h : Out K mg E rel σ ρ F H r Q) (ev : Ev σ ρ F H σ ρ1 F1 H1) (hrel : ∀ F' H' ρ' v x, rel H1 F' H' ρ' v x → rel H F' H' ρ' v x) : Out K mg E rel σ ρ1 F1 H1 r Q := by
  cases r with
  | ok x ρ' => exact fun v F' H' s e r => h v F' H' s (ev.trans e) (hrel _ _ _ _ _ r)
  | ex x ρ' => exact fun c d F' H' s e r => h c d F' H' s (ev.trans e) r
  | bad => exact h
theorem Out.mono {r : R α} {Q Q' : β → Hp → Prop} (h : Out K mg E rel σ ρ F H r Q) (hQ : ∀ v H', Q v H' → Q' v H') : Out K mg E rel σ ρ F H r Q' := by
  cases r with
  | ok x ρ' => exact fun v F' H' s e r => hQ _ _ (h v F' H' s e r)
  | ex x ρ' => exact h
  | bad => exact h
end
def relV (K : PySem.W.Frag) (σ : L2.St) : RelT V Val := fun Hb F H ρ v x => VR K σ Hb F H ρ v x
def relL (K : PySem.W.Frag) (σ : L2.St) : RelT (List V) (List Val) := fun Hb F H ρ v x => VRL K σ Hb F H ρ v x
def relB : RelT Bool Bool := fun _ _ _ _ v x => v = x
/-- an expression's reading, by a function of the slots -/
def tD (K : PySem.W.Frag) (mg : Str → Option Value) (W : WX) (f : EM) : TE := fun σ H Q => ∃ F ρ, SR K F H σ ρ ∧ Out K mg (fun c d H => W c d σ H) (relV K σ) σ ρ F H (f ρ) Q
def tT (K : PySem.W.Frag) (mg : Str → Option Value) (W : WX) (f : M Bool) : TT := fun σ H Q => ∃ F ρ, SR K F H σ ρ ∧ Out K mg (fun c d H => W c d σ H) relB σ ρ F H (f ρ) Q
def tA (K : PySem.W.Frag) (mg : Str → Option Value) (W : WX) (f : M (List Val)) : TA := fun σ H Q => ∃ F ρ, SR K F H σ ρ ∧ Out K mg (fun c d H => W c d σ H) (relL K σ) σ ρ F H (f ρ) Q
/-- THE JUDGEMENTS -/
def DE (X : Cx) (E : WX) (e : Expr) (f : EM) : Prop := PE X e (tD X.K X.mg E f)
def DT (X : Cx) (E : WX) (e : Expr) (f : M Bool) : Prop := PT X e (tT X.K X.mg E f)
def DW (X : Cx) (E : WX) (e : Expr) (f : M Bool) : Prop := PW X e (tT X.K X.mg E f)
def DA (X : Cx) (E : WX) (es : List Expr) (f : M (List Val)) : Prop := PA X es (tA X.K X.mg E f)
theorem pe_conseq {X : Cx} {e : Expr} {t t' : TE} (h : PE X e t) (c : ∀ σ H Q, t' σ H Q → t σ H Q) : PE X e t' := ⟨fun pins s σ H Q I q => h.run pins s σ H Q I (c _ _ _ q)⟩
theorem pt_conseq {X : Cx} {e : Expr} {t t' : TT} (h : PT X e t) (c : ∀ σ H Q, t' σ H Q → t σ H Q) : PT X e t' := ⟨fun pins s σ H Q I q => h.run pins s σ H Q I (c _ _ _ q)⟩
theorem pw_conseq {X : Cx} {e : Expr} {t t' : TT} (h : PW X e t) (c : ∀ σ H Q, t' σ H Q → t σ H Q) : PW X e t' := ⟨fun w pins s σ H Q I q => h.run w pins s σ H Q I (c _ _ _ q)⟩
theorem pa_conseq {X : Cx} {es : List Expr} {t t' : TA} (h : PA X es t) (c : ∀ σ H Q, t' σ H Q → t σ H Q) : PA X es t' := ⟨fun pos pins s σ H Q I q => h.run pos pins s σ H Q I (c _ _ _ q)⟩
theorem pe_or2 {X : Cx} {e : Expr} {t u : TE} (h : PE X e t) (h' : PE X e u) : PE X e (fun σ H Q => t σ H Q ∨ u σ H Q) := ⟨fun pins s σ H Q I q => q.elim (h.run pins s σ H Q I) (h'.run pins s σ H Q I)⟩
/-! ### reading a value without freezing it -/
def Slot.peek : Slot → Option D
  | .un => none
  | .d x => some x
  | .ow c _ => some c.toD
def Val.peek (ρ : DEnv) : Val → Option D
  | .d x => some x
  | .fr c => some c.toD
  | .sl i => match ρ[i]? with
    | some s => s.peek
    | none => none
/-- data whose top may lie in H alone -/
def RepT (K : PySem.W.Frag) (F H : Hp) (v : V) : D → Prop
  | .lst ds => ∃ a xs, v = .ref a ∧ H a = some (.lst xs) ∧ RepL K F xs ds
  | .dic ks ds => ∃ a xs, v = .ref a ∧ Rd H a (.dK (ks.zip xs)) ∧ ks.length = xs.length ∧ RepL K F xs ds
  | d => Rep K F v d
section
variable {K : PySem.W.Frag} {σ : L2.St} {ρ : DEnv} {Hb F H : Hp} {v : V}
theorem Rep.top {d : D} (s : Same F H) (h : Rep K F v d) : RepT K F H v d := by
  cases h with
  | lst e r => exact ⟨_, _, rfl, s _ _ e, r⟩
  | dic e l r => exact ⟨_, _, rfl, .inr ⟨_, s _ _ e⟩, l, r⟩
  | non => exact .non
  | bl b => exact .bl b
  | int i => exact .int i
  | str x => exact .str x
  | tup e r => exact .tup e r
  | scr e => exact .scr e
  | ty n => exact .ty n
  | obj e1 e2 e3 l r => exact .obj e1 e2 e3 l r
  | ob0 e1 e2 => exact .ob0 e1 e2
  | pt a => exact .pt a
  | opq a => exact .opq a
  | cch e => exact .cch e
  | ins e1 e2 l r => exact .ins e1 e2 l r
theorem CRep.top {a : Addr} {c : Cont} (h : CRep K F H a c) : RepT K F H (.ref a) c.toD := by
  cases c with
  | lst ds => obtain ⟨vs, e, r⟩ := h; exact ⟨_, _, rfl, e, r⟩
  | dic ks ds => obtain ⟨vs, e, l, r⟩ := h; exact ⟨_, _, rfl, .inl e, l, r⟩
theorem RepT.rep {d : D} (nd : ∀ ks vs, d ≠ .dic ks vs) (s : Same F H) (h : RepT K F H v d) : Rep K H v d := by
  cases d with
  | lst ds => obtain ⟨a, xs, rfl, e, r⟩ := h; exact .lst e (r.mono (.of s))
  | dic ks ds => exact absurd rfl (nd ks ds)
  | non => exact Rep.mono (.of s) h
  | bl _ => exact Rep.mono (.of s) h
  | int _ => exact Rep.mono (.of s) h
  | str _ => exact Rep.mono (.of s) h
  | tup _ => exact Rep.mono (.of s) h
  | set _ => exact Rep.mono (.of s) h
  | scr _ => exact Rep.mono (.of s) h
  | ty _ => exact Rep.mono (.of s) h
  | obj _ _ _ => exact Rep.mono (.of s) h
  | ins _ _ _ => exact Rep.mono (.of s) h
theorem SlotR.peek {s : Slot} {d : D} (sub : Same F H) (h : SlotR K F H (some v) s) (e : s.peek = some d) : RepT K F H v d := by
  cases s with
  | un => cases e
  | d x =>
    cases e
    obtain ⟨u, q, r⟩ := h
    cases q
    exact r.top sub
  | ow c m =>
    cases e
    obtain ⟨a, q, _, r⟩ := h
    cases q
    exact r.top
theorem VR.peek {x : Val} {d : D} (sr : SR K F H σ ρ) (h : VR K σ Hb F H ρ v x) (e : x.peek ρ = some d) : RepT K F H v d := by
  cases x with
  | d x => cases e; exact Rep.top sr.sub h
  | fr c =>
    cases e
    obtain ⟨p, rfl, _, _, r, _⟩ := h
    exact r.top
  | sl i =>
    have h : σ[i]? = some (some v) := h
    unfold Val.peek at e
    dsimp only at e
    cases q : ρ[i]? with
    | none => rw [q] at e; cases e
    | some s =>
      rw [q] at e
      obtain ⟨ov, h1, h2⟩ := sr.slot i s q
      rw [h] at h1
      cases h1
      exact h2.peek sr.sub e
end
/-! ### freezing -/
def Val.fzA (x : Val) (ρ : DEnv) : R Val := match x with
  | .d x => .ok (.d x) ρ
  | .fr c => .ok (.d c.toD) ρ
  | .sl i => match ρ[i]? with
    | some (.d x) => .ok (.d x) ρ
    | some (.ow c .own) => .ok (.d c.toD) (ρ.set i (.d c.toD))
    | _ => .bad
/-- the same for lists alone (a dict is locked when it is frozen: that takes a step of its own) -/
def Val.fz (x : Val) (ρ : DEnv) : R Val := match x with
  | .d x => .ok (.d x) ρ
  | .fr (.lst ds) => .ok (.d (.lst ds)) ρ
  | .fr (.dic _ _) => .bad
  | .sl i => match ρ[i]? with
    | some (.d x) => .ok (.d x) ρ
    | some (.ow (.lst ds) .own) => .ok (.d (.lst ds)) (ρ.set i (.d (.lst ds)))
    | _ => .bad
def fz (f : EM) : EM := fun ρ => (f ρ).bind Val.fzA
end DL
/-! DL2: expressions. -/
namespace DL
open PySem PySem.Spec PyProof.Rows L2
variable [TabT]
theorem ow_set_d {σ : L2.St} {ρ : DEnv} {i : Nat} {x : D} {a : Addr} (h : Ow σ (ρ.set i (.d x)) a) : Ow σ ρ a := by
  obtain ⟨j, c, m, e, q⟩ := h
  by_cases hj : i = j
  · subst hj
    by_cases hl : i < ρ.length
    · rw [List.getElem?_set_self hl] at e; cases e
    · rw [List.getElem?_eq_none (by simpa using hl)] at e; cases e
  · rw [List.getElem?_set_ne hj] at e
    exact ⟨j, c, m, e, q⟩
theorem mt_set_d {σ : L2.St} {ρ : DEnv} {i : Nat} {x : D} {a : Addr} (h : Mt σ (ρ.set i (.d x)) a) : Mt σ ρ a := by
  obtain ⟨j, c, m, e, n, q⟩ := h
  by_cases hj : i = j
  · subst hj
    by_cases hl : i < ρ.length
    · rw [List.getElem?_set_self hl] at e; cases e
    · rw [List.getElem?_eq_none (by simpa using hl)] at e; cases e
  · rw [List.getElem?_set_ne hj] at e
    exact ⟨j, c, m, e, n, q⟩
section
variable {K : PySem.W.Frag} {σ σb : L2.St} {ρ ρb ρ2 : DEnv} {Hb Fb F H : Hp} {v : V} {x y : Val}
theorem froz_ext {p : Addr} {o : HO} (n : F p = none) : Same F (upd F p o) := fun b u q => by rw [upd_ne (ne_of_none q n)]; exact q
theorem fzA_ok (sr : SR K F H σ ρ) (ev : Ev σb ρb Fb Hb σ ρ F H) (h : VR K σ Hb F H ρ v x) (e : x.fzA ρ = .ok y ρ2) :
    (∃ d, y = .d d ∧ ρ2 = ρ ∧ Rep K F v d) ∨ ∃ a c o, v = .ref a ∧ y = .d c.toD ∧ H a = some o ∧ CRep K F H a c ∧
      (∀ o', FrzO c o o' → SR K (upd F a o') (upd H a o') σ ρ2 ∧ Ev σb ρb Fb Hb σ ρ2 (upd F a o') (upd H a o') ∧ Rep K (upd F a o') v c.toD) := by
  have ext : ∀ {a : Addr} {o o' : HO} {c : Cont}, F a = none → Same F (upd F a o') := fun {a o o' c} n => froz_ext n
  have sub : ∀ {a : Addr} {o' : HO}, Same (upd F a o') (upd H a o') := fun {a o'} b u q => by
    by_cases z : b = a
    · subst z; rw [upd_same] at q ⊢; exact q
    · rw [upd_ne z] at q ⊢; exact sr.sub _ _ q
  cases x with
  | d x => cases e; exact .inl ⟨x, rfl, rfl, h⟩
  | fr c =>
    cases e
    obtain ⟨p, rfl, nb, nF, cr, no⟩ := h
    obtain ⟨o, ho⟩ := cr.some
    refine .inr ⟨p, c, o, rfl, rfl, ho, cr, fun o' fo => ⟨⟨sr.len, sub, fun i s q => ?_, sr.dist, sr.tab.frz ho (CRep.kt ho cr) nF⟩, ⟨ev.ext.trans (froz_ext nF), fun b ob q n nt => ?_, fun a q n => ?_, fun b q => ?_, ev.bor, ev.own', ev.mt'⟩, cr.rep (.of (froz_ext nF)) ho upd_same fo⟩⟩
    · obtain ⟨ov, h1, h2⟩ := sr.slot i s q
      refine ⟨ov, h1, ?_⟩
      cases s with
      | un => trivial
      | d z => obtain ⟨u, e1, r⟩ := h2; exact ⟨u, e1, r.mono (.of (froz_ext nF))⟩
      | ow c' m =>
        obtain ⟨a, e1, fa, r⟩ := h2
        have ne : a ≠ p := fun z => no ⟨i, c', m, q, by rw [h1, e1, z]⟩
        exact ⟨a, e1, by rw [upd_ne ne]; exact fa, r.mono (.of (froz_ext nF)) (upd_ne ne)⟩
    · rw [upd_ne (fun z => by rw [z, nb] at q; cases q)]; exact ev.keep b ob q n nt
    · by_cases z : a = p
      · subst z; exact .inl nb
      · rw [upd_ne z] at n; exact ev.newF a q n
    · by_cases z : b = p
      · subst z; rw [upd_same]; simp
      · rw [upd_ne z]; exact ev.dom b q
  | sl i =>
    have h : σ[i]? = some (some v) := h
    unfold Val.fzA at e
    dsimp only at e
    cases q : ρ[i]? with
    | none => rw [q] at e; cases e
    | some s =>
      rw [q] at e
      obtain ⟨ov, h1, h2⟩ := sr.slot i s q
      rw [h] at h1; cases h1
      cases s with
      | un => cases e
      | d z =>
        cases e
        obtain ⟨u, e1, r⟩ := h2
        cases e1
        exact .inl ⟨z, rfl, rfl, r⟩
      | ow c m =>
        cases m with
        | bor => cases e
        | lck => cases e
        | own =>
          cases e
          obtain ⟨a, e1, fa, cr⟩ := h2
          cases e1
          obtain ⟨o, ho⟩ := cr.some
          have hl : i < ρ.length := by
            rcases Nat.lt_or_ge i ρ.length with z | z
            · exact z
            · rw [List.getElem?_eq_none z] at q; cases q
          have mt : Mt σ ρ a := ⟨i, c, .own, q, by decide, h⟩
          refine .inr ⟨a, c, o, rfl, rfl, ho, cr, fun o' fo => ⟨⟨by rw [List.length_set]; exact sr.len, sub, fun j s q' => ?_, fun j k c1 m1 c2 m2 b q1 q2 => ?_, sr.tab.frz ho (CRep.kt ho cr) fa⟩, ⟨ev.ext.trans (froz_ext fa), fun b ob q' n nt => ?_, fun b q' n => ?_, fun b q' => ?_, fun j c1 m1 q' hm => ?_, fun b z => ev.own' b (ow_set_d z), fun b z => ev.mt' b (mt_set_d z)⟩, cr.rep (.of (froz_ext fa)) ho upd_same fo⟩⟩
          · by_cases hj : i = j
            · subst hj
              rw [List.getElem?_set_self hl] at q'; cases q'
              exact ⟨_, h, .ref a, rfl, cr.rep (.of (froz_ext fa)) ho upd_same fo⟩
            · rw [List.getElem?_set_ne hj] at q'
              obtain ⟨ov, h1, h2⟩ := sr.slot j s q'
              refine ⟨ov, h1, ?_⟩
              cases s with
              | un => trivial
              | d z => obtain ⟨u, e1, r⟩ := h2; exact ⟨u, e1, r.mono (.of (froz_ext fa))⟩
              | ow c' m' =>
                obtain ⟨b, e1, fb, r⟩ := h2
                have ne : b ≠ a := fun z => hj (sr.dist i j _ _ _ _ a q q' h (by rw [h1, e1, z]))
                exact ⟨b, e1, by rw [upd_ne ne]; exact fb, r.mono (.of (froz_ext fa)) (upd_ne ne)⟩
          · by_cases hj : i = j
            · subst hj; rw [List.getElem?_set_self hl] at q1; cases q1
            · by_cases hk : i = k
              · subst hk; rw [List.getElem?_set_self hl] at q2; cases q2
              · rw [List.getElem?_set_ne hj] at q1
                rw [List.getElem?_set_ne hk] at q2
                exact sr.dist j k c1 m1 c2 m2 b q1 q2
          · rw [upd_ne (fun z => by
              subst z
              rcases ev.mt' _ mt with z | z
              · rw [z] at q'; cases q'
              · exact n z)]
            exact ev.keep b ob q' n nt
          · by_cases z : b = a
            · subst z; exact ev.own' b ⟨i, c, _, q, h⟩
            · rw [upd_ne z] at n; exact ev.newF b q' n
          · by_cases z : b = a
            · subst z; rw [upd_same]; simp
            · rw [upd_ne z]; exact ev.dom b q'
          · obtain ⟨z1, c3, z2, z3⟩ := ev.bor j c1 m1 q' hm
            refine ⟨z1, c3, ?_, z3⟩
            by_cases hj : i = j
            · subst hj
              rw [q] at z2
              cases z2
              exact absurd rfl hm
            · rw [List.getElem?_set_ne hj]; exact z2
theorem fz_fzA {x y : Val} {ρ ρ2 : DEnv} (e : x.fz ρ = .ok y ρ2) : x.fzA ρ = .ok y ρ2 ∧ ∀ ks ds, y = .d (.dic ks ds) → x = .d (.dic ks ds) ∨ ∃ i, x = .sl i ∧ ρ[i]? = some (.d (.dic ks ds)) := by
  cases x with
  | d x => cases e; exact ⟨rfl, fun ks ds h => by cases h; exact .inl rfl⟩
  | fr c =>
    cases c with
    | lst ds => cases e; exact ⟨rfl, fun ks ds h => by cases h⟩
    | dic ks ds => cases e
  | sl i =>
    unfold Val.fz at e
    unfold Val.fzA
    dsimp only at e ⊢
    split at e
    · rename_i z; rw [z]; cases e; exact ⟨rfl, fun ks ds h => by cases h; exact .inr ⟨i, rfl, z⟩⟩
    · rename_i z; rw [z]; cases e; exact ⟨rfl, fun ks ds h => by cases h⟩
    · cases e
theorem upd_id {H : Hp} {a : Addr} {o : HO} (h : H a = some o) : upd H a o = H := funext fun b => by
  by_cases z : b = a
  · subst z; rw [upd_same, h]
  · rw [upd_ne z]
theorem fz_ok (sr : SR K F H σ ρ) (ev : Ev σb ρb Fb Hb σ ρ F H) (h : VR K σ Hb F H ρ v x) (e : x.fz ρ = .ok y ρ2) :
    ∃ F2 d, y = .d d ∧ SR K F2 H σ ρ2 ∧ Ev σb ρb Fb Hb σ ρ2 F2 H ∧ Rep K F2 v d := by
  obtain ⟨e1, e2⟩ := fz_fzA e
  rcases fzA_ok sr ev h e1 with ⟨d, rfl, rfl, r⟩ | ⟨a, c, o, rfl, rfl, ho, cr, f⟩
  · exact ⟨F, d, rfl, sr, ev, r⟩
  · cases c with
    | lst ds =>
      obtain ⟨s2, ev2, r2⟩ := f o rfl
      rw [upd_id ho] at s2 ev2
      exact ⟨_, _, rfl, s2, ev2, r2⟩
    | dic ks ds =>
      rcases e2 ks ds rfl with rfl | ⟨i, rfl, q⟩
      · cases e; exact ⟨F, _, rfl, sr, ev, h⟩
      · have e3 : (Val.sl i).fz ρ = .ok (.d (.dic ks ds)) ρ := by unfold Val.fz; dsimp only; rw [q]
        rw [e3] at e; cases e
        obtain ⟨ov, h1, h2⟩ := sr.slot i _ q
        have h : σ[i]? = some (some (V.ref a)) := h
        rw [h] at h1; cases h1
        obtain ⟨u, q1, r⟩ := h2
        cases q1
        exact ⟨F, _, rfl, sr, ev, r⟩
end
section
variable {X : Cx} {E : WX} {xk : XK} {a b c e : Expr} {es : List Expr} {f g h : EM} {pos : Pos}
/-- behind an expression a dict may be locked for good -/
theorem pe_lockP {X : Cx} {e : Expr} {t : TE} (h : PE X e t) : PE X e (fun σ H Q => t σ H fun v H1 => Q v H1 ∨ ∃ a kvs, H1 a = some (.dK kvs) ∧ ∀ od, Q v (upd H1 a (.frz od (.dK kvs)))) := by
  refine ⟨fun pins s σ H Q I hq => thn (h.run pins s σ H _ I hq) fun u s1 ⟨x, H1, I1, r, q⟩ => ?_⟩
  rcases q with q | ⟨a, kvs, ha, q⟩
  · exact ⟨x, H1, I1, r, q⟩
  · obtain ⟨od, I2⟩ := I1.lock ha True.intro
    exact ⟨x, _, I2, r, q od⟩
theorem de_fz (H : DE X E e f) : DE X E e (fz f) := by
  refine pe_conseq (pe_lockP H) fun σ H Q hq => ?_
  obtain ⟨F, ρ, sr, q⟩ := hq
  refine ⟨F, ρ, sr, (Out.bind (rel := relV X.K σ) q).mono fun v H1 h1 => ?_⟩
  obtain ⟨x, F1, ρ1, e1, s1, ev1, r1, o1⟩ := h1
  cases hx : x.fzA ρ1 with
  | bad => rw [hx] at o1; exact o1.elim
  | ex z ρ2 =>
    exfalso
    cases x with
    | d x => cases hx
    | fr c => cases hx
    | sl i =>
      unfold Val.fzA at hx
      dsimp only at hx
      split at hx <;> cases hx
  | ok y ρ2 =>
    rw [hx] at o1
    rcases fzA_ok s1 ev1 r1 hx with ⟨d, rfl, rfl, r⟩ | ⟨a, c, o, rfl, rfl, ho, cr, g⟩
    · exact .inl (o1 v F1 H1 s1 ev1 r)
    · cases c with
      | lst ds =>
        obtain ⟨s2, ev2, r2⟩ := g o rfl
        rw [upd_id ho] at s2 ev2
        exact .inl (o1 _ _ H1 s2 ev2 r2)
      | dic ks ds =>
        obtain ⟨vs, e, _⟩ := id cr
        rw [ho] at e; cases e
        refine .inr ⟨a, _, ho, fun od => ?_⟩
        obtain ⟨s2, ev2, r2⟩ := g (.frz od (.dK (ks.zip vs))) ⟨od, rfl⟩
        exact o1 _ _ _ s2 ev2 r2
def eVar (i : Nat) : EM := fun ρ => match ρ[i]? with
  | some (.d x) => .ok (.d x) ρ
  | some (.ow _ _) => .ok (.sl i) ρ
  | _ => .bad
theorem de_var (i : Nat) {x : Str} (hN : X.N[i]? = some x := by rfl) (hv : Vis X.env.scope x := by first | exact Or.inl rfl | exact Or.inr (Or.inl rfl) | exact Or.inr (Or.inr rfl)) (hd : (x == ("__debug__" : Str)) = false := by decide)
    (hcd : (x == ("__classdict__" : Str)) = false := by decide) : DE X E (.Name x pos) (eVar i) := by
  refine pe_conseq (pe_var hN hv hd hcd) fun σ H Q hq => ?_
  obtain ⟨F, ρ, sr, q⟩ := hq
  unfold eVar at q
  cases hs : ρ[i]? with
  | none => rw [hs] at q; exact q.elim
  | some s =>
    rw [hs] at q
    obtain ⟨ov, h1, h2⟩ := sr.slot i s hs
    cases s with
    | un => exact q.elim
    | d x =>
      obtain ⟨v, rfl, r⟩ := h2
      exact ⟨v, h1, q v F H sr .refl r⟩
    | ow c m =>
      obtain ⟨a, rfl, r⟩ := h2
      exact ⟨_, h1, q (.ref a) F H sr .refl h1⟩
def eC (x : D) : EM := fun ρ => .ok (.d x) ρ
theorem de_const {t : TE} {v : V} {x : D} (h : PE X e (tC v)) (r : ∀ F, Rep X.K F v x) : DE X E e (eC x) := by
  refine pe_conseq h fun σ H Q hq => ?_
  obtain ⟨F, ρ, sr, q⟩ := hq
  exact q v F H sr .refl (r F)
theorem de_int {i j} : DE X E (.Constant (.int i) j pos) (eC (.int i)) := de_const (t := tC .non) pe_int fun _ => .int i
theorem de_bl {b j} : DE X E (.Constant (.bool b) j pos) (eC (.bl b)) := de_const (t := tC .non) pe_bl fun _ => .bl b
theorem de_non {j} : DE X E (.Constant .none j pos) (eC .non) := de_const (t := tC .non) pe_non fun _ => .non
theorem de_str {x j} : DE X E (.Constant (.str x) j pos) (eC (.str x)) := de_const (t := tC .non) pe_str fun _ => .str x
/-- a constant of the module -/
theorem de_globI {x : Str} {i : Int} {t : Tok} (hg : Gl X x) (hm : X.mg x = some (.int i t)) (hd : (x == ("__debug__" : Str)) = false := by decide) : DE X E (.Name x pos) (eC (.int i)) := de_const (t := tC .non) (pe_glob (v := .int i) hg hm ⟨t, rfl⟩ hd) fun _ => .int i
theorem de_globS {x : Str} {i : Str} {t : Tok} (hg : Gl X x) (hm : X.mg x = some (.str i t)) (hd : (x == ("__debug__" : Str)) = false := by decide) : DE X E (.Name x pos) (eC (.str i)) := de_const (t := tC .non) (pe_glob (v := .str i) hg hm ⟨t, rfl⟩ hd) fun _ => .str i
/-! ### operations on what is only read -/
/-- a new result -/
def VN (K : PySem.W.Frag) (Hb F H : Hp) (v : V) : Val → Prop
  | .d x => Rep K F v x
  | .fr c => ∃ p, v = .ref p ∧ Hb p = none ∧ F p = none ∧ CRep K F H p c
  | .sl _ => False
def OpS (K : PySem.W.Frag) (r : R2) (op : D → D → Option Val) : Prop :=
  ∀ F H v w a b z Q, Same F H → RepT K F H v a → RepT K F H w b → op a b = some z → (∀ u F' H', Gr F H F' H' → VN K H F' H' u z → Q u H') → r v w H Q
def UnS (K : PySem.W.Frag) (r : V → Hp → VK → Prop) (op : D → Option Val) : Prop :=
  ∀ F H v a z Q, Same F H → RepT K F H v a → op a = some z → (∀ u F' H', Gr F H F' H' → VN K H F' H' u z → Q u H') → r v H Q
def RepTL (K : PySem.W.Frag) (F H : Hp) : List V → List D → Prop := Paired (RepT K F H)
def CallS (K : PySem.W.Frag) (r : List V → Hp → VK → Prop) (op : List D → Option Val) : Prop :=
  ∀ F H vs as z Q, Same F H → RepTL K F H vs as → op as = some z → (∀ u F' H', Gr F H F' H' → VN K H F' H' u z → Q u H') → r vs H Q
def ret1 (o : Option Val) : EM := fun ρ => match o with
  | some z => .ok z ρ
  | none => .bad
def opV (op : D → D → Option Val) (x y : Val) : EM := fun ρ => match x.peek ρ, y.peek ρ with
  | some a, some b => ret1 (op a b) ρ
  | _, _ => .bad
def unV (op : D → Option Val) (x : Val) : EM := fun ρ => match x.peek ρ with
  | some a => ret1 (op a) ρ
  | _ => .bad
def peekL (ρ : DEnv) : List Val → Option (List D)
  | [] => some []
  | x :: xs => match x.peek ρ, peekL ρ xs with
    | some a, some as => some (a :: as)
    | _, _ => none
def callV (op : List D → Option Val) (xs : List Val) : EM := fun ρ => match peekL ρ xs with
  | some as => ret1 (op as) ρ
  | _ => .bad
def eOp (op : D → D → Option Val) (f g : EM) : EM := fun ρ => (f ρ).bind fun x ρ1 => (g ρ1).bind fun y ρ2 => opV op x y ρ2
def eUn (op : D → Option Val) (f : EM) : EM := fun ρ => (f ρ).bind fun x ρ1 => unV op x ρ1
def eCallB (op : List D → Option Val) (f : M (List Val)) : EM := fun ρ => (f ρ).bind fun x ρ1 => callV op x ρ1
section
variable {K : PySem.W.Frag} {mg : Str → Option Value} {σ : L2.St} {ρ : DEnv} {F H : Hp} {v w : V} {x y : Val}
theorem VN.vr {F' H' : Hp} {u : V} {z : Val} (sr : SR K F H σ ρ) (h : VN K H F' H' u z) : VR K σ H F' H' ρ u z := by
  cases z with
  | d x => exact h
  | sl _ => exact h.elim
  | fr c =>
    obtain ⟨p, e, n, nF, cr⟩ := h
    refine ⟨p, e, n, nF, cr, fun ⟨i, c', m, q1, q2⟩ => ?_⟩
    obtain ⟨ov, h1, a, h2, _, cr'⟩ := sr.slot i _ q1
    rw [q2] at h1; cases h1
    cases h2
    obtain ⟨o, ho⟩ := cr'.some
    rw [n] at ho; cases ho
theorem ret1_ok {o : Option Val} {Q : VK} (sr : SR K F H σ ρ) (h : Out K mg xk (relV K σ) σ ρ F H (ret1 o ρ) Q) :
    ∃ z, o = some z ∧ ∀ u F' H', Gr F H F' H' → VN K H F' H' u z → Q u H' := by
  cases o with
  | none => exact h.elim
  | some z => exact ⟨z, rfl, fun u F' H' g vn => h u F' H' (g.sr sr) g.ev (vn.vr sr)⟩
theorem opV_ok {r : R2} {op : D → D → Option Val} {Q : VK} {Hb Hb' : Hp} (s : OpS K r op) (sr : SR K F H σ ρ) (rx : VR K σ Hb F H ρ v x) (ry : VR K σ Hb' F H ρ w y) (h : Out K mg xk (relV K σ) σ ρ F H (opV op x y ρ) Q) : r v w H Q := by
  unfold opV at h
  cases hx : x.peek ρ with
  | none => rw [hx] at h; exact h.elim
  | some a =>
    cases hy : y.peek ρ with
    | none => rw [hx, hy] at h; exact h.elim
    | some b =>
      rw [hx, hy] at h
      obtain ⟨z, e, q⟩ := ret1_ok sr h
      exact s F H v w a b z Q sr.sub (rx.peek sr hx) (ry.peek sr hy) e q
theorem unV_ok {r : V → Hp → VK → Prop} {op : D → Option Val} {Q : VK} {Hb : Hp} (s : UnS K r op) (sr : SR K F H σ ρ) (rx : VR K σ Hb F H ρ v x) (h : Out K mg xk (relV K σ) σ ρ F H (unV op x ρ) Q) : r v H Q := by
  unfold unV at h
  cases hx : x.peek ρ with
  | none => rw [hx] at h; exact h.elim
  | some a =>
    rw [hx] at h
    obtain ⟨z, e, q⟩ := ret1_ok sr h
    exact s F H v a z Q sr.sub (rx.peek sr hx) e q
theorem peekL_ok {Hb : Hp} (sr : SR K F H σ ρ) : ∀ {vs : List V} {xs : List Val} {as : List D}, Paired (VR K σ Hb F H ρ) vs xs → peekL ρ xs = some as → RepTL K F H vs as
  | _, _, _, .nil, e => by cases e; exact .nil
  | _, _, _, .cons (b := x) (l₂ := xs) r t, e => by
    unfold peekL at e
    cases hx : x.peek ρ with
    | none => rw [hx] at e; cases e
    | some a =>
      cases hy : peekL ρ xs with
      | none => rw [hx, hy] at e; cases e
      | some as =>
        rw [hx, hy] at e
        cases e
        exact .cons (r.peek sr hx) (peekL_ok sr t hy)
theorem callV_ok {r : List V → Hp → VK → Prop} {op : List D → Option Val} {Q : VK} {Hb : Hp} {vs : List V} {xs : List Val} (s : CallS K r op) (sr : SR K F H σ ρ) (rx : VRL K σ Hb F H ρ vs xs) (h : Out K mg xk (relV K σ) σ ρ F H (callV op xs ρ) Q) : r vs H Q := by
  unfold callV at h
  cases hx : peekL ρ xs with
  | none => rw [hx] at h; exact h.elim
  | some as =>
    rw [hx] at h
    obtain ⟨z, e, q⟩ := ret1_ok sr h
    exact s F H vs as z Q sr.sub (peekL_ok sr rx.all hx) e q
end
/-- two operands in a row -/
theorem two {r : R2} {op : D → D → Option Val} (s : OpS X.K r op) {σ : L2.St} {H : Hp} {Q : VK} (hq : tD X.K X.mg E (eOp op f g) σ H Q) : tOp r (tD X.K X.mg E f) (tD X.K X.mg E g) σ H Q := by
  obtain ⟨F, ρ, sr, q⟩ := hq
  refine ⟨F, ρ, sr, (Out.bind (rel := relV X.K σ) q).mono fun v H1 ⟨x, F1, ρ1, e1, s1, ev1, r1, o1⟩ => ?_⟩
  refine ⟨F1, ρ1, s1, ?_⟩
  have o2 := o1.from ev1 fun F' H' ρ' v x (h : VR X.K σ H1 F' H' ρ' v x) => VR.base h ev1.dom
  refine (Out.bind (rel := relV X.K σ) o2).mono fun w H2 ⟨y, F2, ρ2, e2, s2, ev2, r2, o3⟩ => ?_
  exact opV_ok s s2 (VR.ev r1 ev2) r2 (o3.from ev2 fun F' H' ρ' v x (h : VR X.K σ H2 F' H' ρ' v x) => VR.base h ev2.dom)
theorem one1 {r : V → Hp → VK → Prop} {op : D → Option Val} (s : UnS X.K r op) {σ : L2.St} {H : Hp} {Q : VK} (hq : tD X.K X.mg E (eUn op f) σ H Q) : tUn r (tD X.K X.mg E f) σ H Q := by
  obtain ⟨F, ρ, sr, q⟩ := hq
  refine ⟨F, ρ, sr, (Out.bind (rel := relV X.K σ) q).mono fun v H1 ⟨x, F1, ρ1, e1, s1, ev1, r1, o1⟩ => ?_⟩
  exact unV_ok s s1 r1 (o1.from ev1 fun F' H' ρ' v x (h : VR X.K σ H1 F' H' ρ' v x) => VR.base h ev1.dom)
theorem de_op {o : Operator} {r : R2} {op : D → D → Option Val} (ho : OpR X (binaryOp o) r) (s : OpS X.K r op) (ha : DE X E a f) (hb : DE X E b g) : DE X E (.BinOp a o b pos) (eOp op f g) :=
  pe_conseq (pe_op ho ha hb) fun _ _ _ => two s
theorem de_cmp {o : CmpOp} {r : R2} {op : D → D → Option Val} (ho : OpR X (compareOp o) r) (s : OpS X.K r op) (ha : DE X E a f) (hb : DE X E b g) (hm : behindInMarks o b = false := by rfl) : DE X E (.Compare a [o] [b] pos) (eOp op f g) :=
  pe_conseq (pe_cmpR ho ha hb hm) fun _ _ _ => two s
theorem de_un {o : UnaryOp} {r : V → Hp → VK → Prop} {op : D → Option Val} (ho : UnR X (unaryOp o) r) (s : UnS X.K r op) (ha : DE X E a f) : DE X E (.UnaryOp o a pos) (eUn op f) :=
  pe_conseq (pe_un ho ha) fun _ _ _ => one1 s
/-! ### tests -/
def bT (x : Val) : M Bool := fun ρ => match x with
  | .d (.bl b) => .ok b ρ
  | _ => .bad
def tst (f : EM) : M Bool := fun ρ => (f ρ).bind bT
theorem bT_ok {K : PySem.W.Frag} {mg : Str → Option Value} {σ : L2.St} {ρ : DEnv} {F H Hb : Hp} {v : V} {x : Val} {Q : Bool → Hp → Prop} (sr : SR K F H σ ρ) (rx : VR K σ Hb F H ρ v x) (h : Out K mg xk relB σ ρ F H (bT x ρ) Q) : ∃ k, v = .bl k ∧ Q k H := by
  cases x with
  | fr c => exact h.elim
  | sl i => exact h.elim
  | d d =>
    cases d with
    | bl b =>
      have rx : Rep K F v (.bl b) := rx
      cases rx
      exact ⟨b, rfl, h b F H sr .refl rfl⟩
    | _ => exact h.elim
theorem tst_ok {σ : L2.St} {H : Hp} {Q : Bool → Hp → Prop} (hq : tT X.K X.mg E (tst f) σ H Q) : tD X.K X.mg E f σ H fun x H' => ∃ k, x = .bl k ∧ Q k H' := by
  obtain ⟨F, ρ, sr, q⟩ := hq
  refine ⟨F, ρ, sr, (Out.bind (rel := relV X.K σ) q).mono fun v H1 ⟨x, F1, ρ1, e1, s1, ev1, r1, o1⟩ => ?_⟩
  exact bT_ok s1 r1 (o1.from ev1 fun F' H' ρ' v x (h : v = x) => h)
theorem dt_cmp {o : CmpOp} {r : R2} {op : D → D → Option Val} (ho : OpR X (compareOp o) r) (s : OpS X.K r op) (ha : DE X E a f) (hb : DE X E b g) (hm : behindInMarks o b = false := by rfl) : DT X E (.Compare a [o] [b] pos) (tst (eOp op f g)) :=
  pt_conseq (pt_cmpR ho ha hb hm) fun σ H Q hq => by
    obtain ⟨F, ρ, sr, q⟩ := tst_ok hq
    exact two s ⟨F, ρ, sr, q⟩
theorem dt_val (ha : DE X E e f) (he : ∀ whole, isTrue e X.env whole = (do let v ← whole; standAt e.pos; holding [v] (truthy v)) := by intro _; rfl) : DT X E e (tst f) :=
  pt_conseq (pt_val ha he) fun _ _ _ => tst_ok
end
end DL
/-! DL3: the operators. -/
namespace DL
open PySem PySem.Spec PyProof.Rows L2
variable [TabT]
/-! ### data as the library's PyData -/
mutual
def D.toPy : D → Option PyData
  | .non => some .none
  | .bl b => some (.bool b)
  | .int i => some (.int i)
  | .str x => some (.str x)
  | .tup xs => (toPyL xs).map .tuple
  | .lst xs => (toPyL xs).map .list
  | .dic _ _ => none
  | .set _ => none
  | .scr _ => none
  | .ty _ => none
  | .obj _ _ _ => none
  | .ins _ _ _ => none
def toPyL : List D → Option (List PyData)
  | [] => some []
  | x :: xs => match D.toPy x, toPyL xs with
    | some p, some ps => some (p :: ps)
    | _, _ => none
end
section
variable {K : PySem.W.Frag} {H : Hp}
mutual
theorem Rep.dp : ∀ {v : V} {d : D} {p : PyData}, Rep K H v d → d.toPy = some p → Dp K H v p
  | _, _, _, .non, e => by simp only [D.toPy] at e; cases e; exact .non
  | _, _, _, .bl b, e => by simp only [D.toPy] at e; cases e; exact .bl b
  | _, _, _, .int i, e => by simp only [D.toPy] at e; cases e; exact .int i
  | _, _, _, .str x, e => by simp only [D.toPy] at e; cases e; exact .str x
  | _, _, _, .lst (ds := ds) h r, e => by
    simp only [D.toPy] at e
    cases q : toPyL ds with
    | none => rw [q] at e; cases e
    | some ps => rw [q] at e; cases e; exact .lst (.of h) (RepL.dp r q)
  | _, _, _, .tup (ds := ds) h r, e => by
    simp only [D.toPy] at e
    cases q : toPyL ds with
    | none => rw [q] at e; cases e
    | some ps => rw [q] at e; cases e; exact .tup h (RepL.dp r q)
  | _, _, _, .dic .., e => by simp only [D.toPy] at e; cases e
  | _, _, _, .scr .., e => by simp only [D.toPy] at e; cases e
theorem RepL.dp : ∀ {vs : List V} {ds : List D} {ps : List PyData}, RepL K H vs ds → toPyL ds = some ps → DpAll K H vs ps
  | _, _, _, .nil, e => by simp only [toPyL] at e; cases e; exact .nil
  | _, _, _, .cons (d := d) (ds := ds) a b, e => by
    simp only [toPyL] at e
    cases q1 : d.toPy with
    | none => rw [q1] at e; cases e
    | some p =>
      cases q2 : toPyL ds with
      | none => rw [q1, q2] at e; cases e
      | some ps => rw [q1, q2] at e; cases e; exact .cons (Rep.dp a q1) (RepL.dp b q2)
end
end
theorem toPy_nd {d : D} {p : PyData} (e : d.toPy = some p) : ∀ ks vs, d ≠ .dic ks vs := fun ks vs z => by subst z; simp only [D.toPy] at e; cases e
/-! ### ==, != -/
def eqD : D → D → Option Bool
  | .int i, .int j => some (decide (i = j))
  | .str x, .str y => some (decide (x = y))
  | .bl x, .bl y => some (x == y)
  | .non, .non => some true
  | .non, .int _ => some false
  | .non, .str _ => some false
  | .non, .bl _ => some false
  | .int _, .non => some false
  | .str _, .non => some false
  | .bl _, .non => some false
  | a, b => match a.toPy, b.toPy with
    | some p, some q => if SeqAt.shaped p = true ∧ SeqAt.shaped q = true then some (PyData.eqv p q) else none
    | _, _ => none
def bV (o : Option Bool) : Option Val := o.map fun b => .d (.bl b)
section
variable {K : PySem.W.Frag} {F H : Hp}
theorem vn_d {Q : VK} {v : V} {x : D} (s : Same F H) (q : ∀ u F' H', Gr F H F' H' → VN K H F' H' u (.d x) → Q u H') (r : Rep K F v x) : Q v H := q v F H (.refl s) r
theorem vn_bl {Q : VK} {b : Bool} (s : Same F H) (q : ∀ u F' H', Gr F H F' H' → VN K H F' H' u (.d (.bl b)) → Q u H') : Q (.bl b) H := vn_d s q (.bl b)
theorem vn_int {Q : VK} {b : Int} (s : Same F H) (q : ∀ u F' H', Gr F H F' H' → VN K H F' H' u (.d (.int b)) → Q u H') : Q (.int b) H := vn_d s q (.int b)
theorem vn_str {Q : VK} {b : Str} (s : Same F H) (q : ∀ u F' H', Gr F H F' H' → VN K H F' H' u (.d (.str b)) → Q u H') : Q (.str b) H := vn_d s q (.str b)
theorem vn_lst {Q : VK} {xs : List V} {ds : List D} (s : Same F H) (q : ∀ u F' H', Gr F H F' H' → VN K H F' H' u (.fr (.lst ds)) → Q u H') (r : RepL K F xs ds) {p : Addr} (n : H p = none) : Q (.ref p) (upd H p (.lst xs)) :=
  q (.ref p) F _ (.fresh s n) ⟨p, rfl, n, Same.free s n, xs, upd_same, r⟩
theorem vn_tup {Q : VK} {xs : List V} {ds : List D} (s : Same F H) (q : ∀ u F' H', Gr F H F' H' → VN K H F' H' u (.d (.tup ds)) → Q u H') (r : RepL K F xs ds) {p : Addr} (n : H p = none) : Q (.ref p) (upd H p (.tup xs)) :=
  q (.ref p) (upd F p (.tup xs)) _ (.froz s n) (.tup (.of upd_same) (r.mono (.of (froz_ext (Same.free s n)))))
theorem RepT.int {v : V} {i : Int} (h : RepT K F H v (.int i)) : v = .int i := by
  have h : Rep K F v (.int i) := h
  cases h; rfl
theorem RepT.str {v : V} {i : Str} (h : RepT K F H v (.str i)) : v = .str i := by
  have h : Rep K F v (.str i) := h
  cases h; rfl
theorem RepT.bl {v : V} {i : Bool} (h : RepT K F H v (.bl i)) : v = .bl i := by
  have h : Rep K F v (.bl i) := h
  cases h; rfl
theorem RepT.non {v : V} (h : RepT K F H v .non) : v = .non := by
  have h : Rep K F v .non := h
  cases h; rfl
theorem RepT.lst {v : V} {ds : List D} (h : RepT K F H v (.lst ds)) : ∃ a xs, v = .ref a ∧ H a = some (.lst xs) ∧ RepL K F xs ds := h
theorem RepT.tup {v : V} {ds : List D} (s : Same F H) (h : RepT K F H v (.tup ds)) : ∃ a xs, v = .ref a ∧ SqT K H a xs ∧ RepL K F xs ds := by
  have h : Rep K F v (.tup ds) := h
  cases h with
  | tup e r => exact ⟨_, _, rfl, (RdLe.of s).sqT e, r⟩
theorem RepT.scr {v : V} {ns : List Int} (s : Same F H) (h : RepT K F H v (.scr ns)) : ∃ a, v = .ref a ∧ SqL K H a (ns.map V.int) := by
  have h : Rep K F v (.scr ns) := h
  cases h with
  | scr e => exact ⟨_, rfl, (RdLe.of s).sqL e⟩
def rEqA (K : PySem.W.Frag) : R2 := fun x y H Q => rEq x y H Q ∨ rEqD K x y H Q
def rNeA (K : PySem.W.Frag) : R2 := fun x y H Q => rNe x y H Q ∨ rNeD K x y H Q
theorem eqD_sound {F H : Hp} {v w : V} {a b : D} {k : Bool} (s : Same F H) (ra : RepT K F H v a) (rb : RepT K F H w b) (e : eqD a b = some k) :
    (scal v w = true ∧ decide (v = w) = k) ∨ ∃ p q, Dp K H v p ∧ Dp K H w q ∧ SeqAt.shaped p = true ∧ SeqAt.shaped q = true ∧ PyData.eqv p q = k := by
  have gen : (∃ p q, a.toPy = some p ∧ b.toPy = some q ∧ SeqAt.shaped p = true ∧ SeqAt.shaped q = true ∧ PyData.eqv p q = k) → ∃ p q, Dp K H v p ∧ Dp K H w q ∧ SeqAt.shaped p = true ∧ SeqAt.shaped q = true ∧ PyData.eqv p q = k := fun ⟨p, q, e1, e2, z⟩ =>
    ⟨p, q, (ra.rep (toPy_nd e1) s).dp e1, (rb.rep (toPy_nd e2) s).dp e2, z⟩
  unfold eqD at e
  split at e
  · obtain rfl := ra.int; obtain rfl := rb.int; cases e
    exact .inl ⟨rfl, by simp⟩
  · obtain rfl := ra.str; obtain rfl := rb.str; cases e
    exact .inl ⟨rfl, by simp⟩
  · obtain rfl := ra.bl; obtain rfl := rb.bl; cases e
    refine .inl ⟨rfl, ?_⟩
    rw [dec_bl]
  · obtain rfl := ra.non; obtain rfl := rb.non; cases e; exact .inl ⟨rfl, by decide⟩
  · obtain rfl := ra.non; obtain rfl := rb.int; cases e; exact .inl ⟨rfl, by simp⟩
  · obtain rfl := ra.non; obtain rfl := rb.str; cases e; exact .inl ⟨rfl, by simp⟩
  · obtain rfl := ra.non; obtain rfl := rb.bl; cases e; exact .inl ⟨rfl, by simp⟩
  · obtain rfl := ra.int; obtain rfl := rb.non; cases e; exact .inl ⟨rfl, by simp⟩
  · obtain rfl := ra.str; obtain rfl := rb.non; cases e; exact .inl ⟨rfl, by simp⟩
  · obtain rfl := ra.bl; obtain rfl := rb.non; cases e; exact .inl ⟨rfl, by simp⟩
  · refine .inr (gen ?_)
    split at e
    · rename_i p q e1 e2
      split at e
      · rename_i z; cases e; exact ⟨p, q, e1, e2, z.1, z.2, rfl⟩
      · cases e
    · cases e
theorem os_eq : OpS K (rEqA K) (fun a b => bV (eqD a b)) := by
  intro F H v w a b z Q s ra rb e q
  dsimp only at e
  cases h : eqD a b with
  | none => rw [h] at e; cases e
  | some k =>
    rw [h] at e; cases e
    rcases eqD_sound s ra rb h with ⟨h1, rfl⟩ | ⟨p, r, h1, h2, h3, h4, rfl⟩
    · exact .inl ⟨h1, vn_bl s q⟩
    · exact .inr ⟨p, r, h1, h2, h3, h4, vn_bl s q⟩
theorem os_ne : OpS K (rNeA K) (fun a b => bV ((eqD a b).map (!·))) := by
  intro F H v w a b z Q s ra rb e q
  dsimp only at e
  cases h : eqD a b with
  | none => rw [h] at e; cases e
  | some k =>
    rw [h] at e; cases e
    rcases eqD_sound s ra rb h with ⟨h1, rfl⟩ | ⟨p, r, h1, h2, h3, h4, rfl⟩
    · exact .inl ⟨h1, vn_bl s q⟩
    · exact .inr ⟨p, r, h1, h2, h3, h4, vn_bl s q⟩
/-! ### ints -/
def intV (g : Int → Int → Option Int) : D → D → Option Val
  | .int i, .int j => (g i j).map fun k => .d (.int k)
  | _, _ => none
theorem os_int {C : Int → Int → Prop} {g : Int → Int → Int} {o : Int → Int → Option Int} (h : ∀ i j k, o i j = some k → C i j ∧ g i j = k) : OpS K (rI C fun i j => .int (g i j)) (intV o) := by
  intro F H v w a b z Q s ra rb e q
  unfold intV at e
  split at e
  · rename_i i j
    obtain rfl := ra.int; obtain rfl := rb.int
    cases h1 : o i j with
    | none => rw [h1] at e; cases e
    | some k =>
      rw [h1] at e; cases e
      obtain ⟨c, rfl⟩ := h i j k h1
      exact ⟨i, j, rfl, rfl, c, vn_int s q⟩
  · cases e
theorem os_int0 {g : Int → Int → Int} : OpS K (rI0 fun i j => .int (g i j)) (intV fun i j => some (g i j)) := by
  intro F H v w a b z Q s ra rb e q
  unfold intV at e
  split at e
  · obtain rfl := ra.int; obtain rfl := rb.int
    cases e
    exact ⟨_, _, rfl, rfl, vn_int s q⟩
  · cases e
def cmpV (g : Int → Int → Bool) : D → D → Option Val
  | .int i, .int j => some (.d (.bl (g i j)))
  | _, _ => none
theorem os_cmp0 {g : Int → Int → Bool} : OpS K (rI0 fun i j => .bl (g i j)) (cmpV g) := by
  intro F H v w a b z Q s ra rb e q
  unfold cmpV at e
  split at e
  · obtain rfl := ra.int; obtain rfl := rb.int
    cases e
    exact ⟨_, _, rfl, rfl, vn_bl s q⟩
  · cases e
def mulI (i j : Int) : Option Int := if (-(2 ^ 64) < i ∧ i < 2 ^ 64) ∨ (-(2 ^ 64) < j ∧ j < 2 ^ 64) ∨ i.natAbs.log2 + j.natAbs.log2 < 1000000 then some (i * j) else none
def divI (i j : Int) : Option Int := if 0 < j ∧ j.natAbs.log2 < 9000 then some (i / j) else none
def modI (i j : Int) : Option Int := if 0 < j then some (i % j) else none
def CMulA (i j : Int) : Prop := (-(2 ^ 64) < i ∧ i < 2 ^ 64) ∨ (-(2 ^ 64) < j ∧ j < 2 ^ 64) ∨ i.natAbs.log2 + j.natAbs.log2 < 1000000
theorem CMulA.ok {i j : Int} (h : CMulA i j) : IntMulOk i j := by
  rcases h with h | h | h
  · exact CMul.ok (.inl h)
  · exact CMul.ok (.inr h)
  · exact CMulW.ok h
/-- union of readings -/
def rU2 (r r' : R2) : R2 := fun x y H Q => r x y H Q ∨ r' x y H Q
theorem os_or {r r' : R2} {op op' : D → D → Option Val} (h : OpS K r op) (h' : OpS K r' op') : OpS K (rU2 r r') (fun a b => match op a b with | some z => some z | none => op' a b) := by
  intro F H v w a b z Q s ra rb e q
  dsimp only at e
  cases hz : op a b with
  | some y => rw [hz] at e; cases e; exact .inl (h F H v w a b _ Q s ra rb hz q)
  | none => rw [hz] at e; exact .inr (h' F H v w a b _ Q s ra rb e q)
def addS : D → D → Option Val
  | .str x, .str y => if x.length + y.length ≤ sizeLine then some (.d (.str (x ++ y))) else none
  | _, _ => none
theorem os_addS : OpS K (fun x y H Q => ∃ i j, x = .str i ∧ y = .str j ∧ i.length + j.length ≤ sizeLine ∧ Q (.str (i ++ j)) H) addS := by
  intro F H v w a b z Q s ra rb e q
  unfold addS at e
  split at e
  · obtain rfl := ra.str; obtain rfl := rb.str
    split at e
    · rename_i h; cases e; exact ⟨_, _, rfl, rfl, h, vn_str s q⟩
    · cases e
  · cases e
def addL : D → D → Option Val
  | .lst xs, .lst ys => if xs.length + ys.length ≤ sizeLine then some (.fr (.lst (xs ++ ys))) else none
  | _, _ => none
theorem os_addL : OpS K rCat addL := by
  intro F H v w a b z Q s ra rb e q
  unfold addL at e
  split at e
  · obtain ⟨l, xs, rfl, hl, r⟩ := ra.lst
    obtain ⟨l', ys, rfl, hl', r'⟩ := rb.lst
    split at e
    · rename_i h; cases e
      exact ⟨l, l', xs, ys, rfl, rfl, hl, hl', by rw [r.length, r'.length]; exact h, fun p n => vn_lst s q (r.app r') n⟩
    · cases e
  · cases e
def addT : D → D → Option Val
  | .tup xs, .tup ys => if xs.length + ys.length ≤ sizeLine then some (.d (.tup (xs ++ ys))) else none
  | _, _ => none
theorem os_addT : OpS K (rCatA K) addT := by
  intro F H v w a b z Q s ra rb e q
  unfold addT at e
  split at e
  · have ra' : Rep K F v (.tup _) := ra
    have rb' : Rep K F w (.tup _) := rb
    obtain ⟨l, xs, rfl, hl, r⟩ := ra.tup s
    obtain ⟨l', ys, rfl, hl', r'⟩ := rb.tup s
    split at e
    · rename_i h; cases e
      refine ⟨l, l', xs, ys, rfl, rfl, hl, hl', by rw [r.length, r'.length]; exact h, fun e1 => ?_, fun _ e1 => ?_, fun _ _ p n => vn_tup s q (r.app r') n⟩
      · subst e1
        cases r
        exact vn_d s q rb'
      · subst e1
        cases r'
        rw [List.append_nil] at q
        exact vn_d s q ra'
    · cases e
  · cases e
def repL : D → D → Option Val
  | .lst xs, .int k => if -(2 ^ 63) ≤ k ∧ k < 2 ^ 63 ∧ xs.length * k.toNat ≤ sizeLine then some (.fr (.lst (List.replicate k.toNat xs).flatten)) else none
  | _, _ => none
theorem os_repL : OpS K rRep repL := by
  intro F H v w a b z Q s ra rb e q
  unfold repL at e
  split at e
  · obtain ⟨l, xs, rfl, hl, r⟩ := ra.lst
    obtain rfl := rb.int
    split at e
    · rename_i h; cases e
      exact ⟨l, _, xs, rfl, rfl, hl, h.1, h.2.1, by rw [r.length]; exact h.2.2, fun p n => vn_lst s q (r.flatten _) n⟩
    · cases e
  · cases e
def addD : D → D → Option Val := fun a b => match intV (fun i j => some (i + j)) a b with | some z => some z | none => match addS a b with | some z => some z | none => match addL a b with | some z => some z | none => addT a b
def subD : D → D → Option Val := intV fun i j => some (i - j)
def mulD : D → D → Option Val := fun a b => match intV mulI a b with | some z => some z | none => repL a b
def divD : D → D → Option Val := intV divI
def modD : D → D → Option Val := intV modI
end
section
variable {X : Cx}
theorem opr_u {f : Value → Value → Sem Value} {r r' : R2} (h : OpR X f r) (h' : OpR X f r') : OpR X f (rU2 r r') := OpR.or h h'
theorem op_mulA : OpR X (binaryOp .Mult) (rI CMulA fun i j => .int (i * j)) := opI fun _ _ _ _ _ _ _ hc q => mul_int q hc.ok
variable {E : WX} {a b c e : Expr} {f g : EM} {pos : Pos}
theorem de_add (ha : DE X E a f) (hb : DE X E b g) : DE X E (.BinOp a .Add b pos) (eOp addD f g) :=
  de_op (opr_u op_add (opr_u op_add_str (opr_u op_cat op_catA))) (os_or os_int0 (os_or os_addS (os_or os_addL os_addT))) ha hb
theorem de_sub (ha : DE X E a f) (hb : DE X E b g) : DE X E (.BinOp a .Sub b pos) (eOp subD f g) := de_op op_sub os_int0 ha hb
theorem de_mul (ha : DE X E a f) (hb : DE X E b g) : DE X E (.BinOp a .Mult b pos) (eOp mulD f g) :=
  de_op (opr_u op_mulA op_rep) (os_or (os_int fun i j k h => by
    unfold mulI at h
    split at h
    · rename_i z; cases h; exact ⟨z, rfl⟩
    · cases h) os_repL) ha hb
theorem de_div (ha : DE X E a f) (hb : DE X E b g) : DE X E (.BinOp a .FloorDiv b pos) (eOp divD f g) :=
  de_op op_fdivW (os_int fun i j k h => by
    unfold divI at h
    split at h
    · rename_i z; cases h; exact ⟨z, rfl⟩
    · cases h) ha hb
theorem de_mod (ha : DE X E a f) (hb : DE X E b g) : DE X E (.BinOp a .Mod b pos) (eOp modD f g) :=
  de_op op_mod (os_int fun i j k h => by
    unfold modI at h
    split at h
    · rename_i z; cases h; exact ⟨z, rfl⟩
    · cases h) ha hb
def ltD : D → D → Option Val := cmpV fun i j => decide (i < j)
def leD : D → D → Option Val := cmpV fun i j => decide (i ≤ j)
def gtD : D → D → Option Val := cmpV fun i j => decide (j < i)
def geD : D → D → Option Val := cmpV fun i j => decide (j ≤ i)
def eqV' : D → D → Option Val := fun a b => bV (eqD a b)
def neV' : D → D → Option Val := fun a b => bV ((eqD a b).map (!·))
theorem de_gt (ha : DE X E a f) (hb : DE X E b g) : DE X E (.Compare a [.Gt] [b] pos) (eOp gtD f g) := de_cmp op_gt os_cmp0 ha hb (nomark _)
theorem de_ge (ha : DE X E a f) (hb : DE X E b g) : DE X E (.Compare a [.GtE] [b] pos) (eOp geD f g) := de_cmp op_ge os_cmp0 ha hb (nomark _)
theorem dt_lt (ha : DE X E a f) (hb : DE X E b g) : DT X E (.Compare a [.Lt] [b] pos) (tst (eOp ltD f g)) := dt_cmp op_lt os_cmp0 ha hb (nomark _)
theorem dt_le (ha : DE X E a f) (hb : DE X E b g) : DT X E (.Compare a [.LtE] [b] pos) (tst (eOp leD f g)) := dt_cmp op_le os_cmp0 ha hb (nomark _)
theorem dt_gt (ha : DE X E a f) (hb : DE X E b g) : DT X E (.Compare a [.Gt] [b] pos) (tst (eOp gtD f g)) := dt_cmp op_gt os_cmp0 ha hb (nomark _)
theorem opr_eq (hu : X.A.units + 64 < cLine) : OpR X (compareOp .Eq) (rEqA X.K) := OpR.or op_eq (op_eqD hu)
theorem opr_ne (hu : X.A.units + 64 < cLine) : OpR X (compareOp .NotEq) (rNeA X.K) := OpR.or op_ne (op_neD hu)
theorem de_eq (hu : X.A.units + 64 < cLine) (ha : DE X E a f) (hb : DE X E b g) : DE X E (.Compare a [.Eq] [b] pos) (eOp eqV' f g) := de_cmp (opr_eq hu) os_eq ha hb (nomark _)
theorem dt_eq (hu : X.A.units + 64 < cLine) (ha : DE X E a f) (hb : DE X E b g) : DT X E (.Compare a [.Eq] [b] pos) (tst (eOp eqV' f g)) := dt_cmp (opr_eq hu) os_eq ha hb (nomark _)
theorem dt_ne (hu : X.A.units + 64 < cLine) (ha : DE X E a f) (hb : DE X E b g) : DT X E (.Compare a [.NotEq] [b] pos) (tst (eOp neV' f g)) := dt_cmp (opr_ne hu) os_ne ha hb (nomark _)
end
end DL
/-! DL4: more expressions: powers, truth, chains, subscripts, displays. -/
namespace DL
open PySem PySem.Spec PyProof.Rows L2
variable [TabT]
/-! ### powers, signs -/
def powI (i j : Int) : Option Int := if 0 ≤ j ∧ (i.natAbs.log2 + 1) * j.toNat ≤ 1000000 then some (i ^ j.toNat) else none
def CPowA (i j : Int) : Prop := 0 ≤ j ∧ (i.natAbs.log2 + 1) * j.toNat ≤ 1000000
section
variable {X : Cx} {E : WX} {xk : XK} {a b c e : Expr} {es : List Expr} {f g h : EM} {t u : M Bool} {pos : Pos}
theorem op_powA : OpR X (binaryOp .Pow) (rI CPowA fun i j => .int (i ^ j.toNat)) := opI fun i j _ _ _ _ _ hc q => pow_int hc.1 (by
  have h2 := hc.2
  have hb : Builtin.Int.intBits i ≤ i.natAbs.log2 + 1 := by
    unfold Builtin.Int.intBits
    split <;> omega
  have h0 := hc.1
  obtain ⟨n, rfl⟩ : ∃ n : Nat, j = n := ⟨j.toNat, by omega⟩
  rw [Int.toNat_natCast] at h2
  have h5 : Builtin.Int.intBits i * n ≤ (i.natAbs.log2 + 1) * n := Nat.mul_le_mul_right _ hb
  have h6 : (((Builtin.Int.intBits i : Nat) : Int) * (n : Int)) = ((Builtin.Int.intBits i * n : Nat) : Int) := by rw [Int.natCast_mul]
  rw [h6]
  have h7 : ((2 : Int) ^ 27) = 134217728 := by decide
  omega) q
def powD : D → D → Option Val := intV powI
theorem de_pow (ha : DE X E a f) (hb : DE X E b g) : DE X E (.BinOp a .Pow b pos) (eOp powD f g) :=
  de_op op_powA (os_int fun i j k h => by
    unfold powI at h
    split at h
    · rename_i z; cases h; exact ⟨z, rfl⟩
    · cases h) ha hb
def negD : D → Option Val
  | .int i => some (.d (.int (-i)))
  | _ => none
theorem de_neg (ha : DE X E a f) : DE X E (.UnaryOp .USub a pos) (eUn negD f) := de_un un_neg (by
  intro F H v a z Q s ra e q
  unfold negD at e
  split at e
  · obtain rfl := ra.int
    cases e
    exact ⟨_, rfl, vn_int s q⟩
  · cases e) ha
/-! ### and, or, not, if-else -/
def tAndM (t u : M Bool) : M Bool := fun ρ => (t ρ).bind fun b ρ1 => if b = true then u ρ1 else .ok false ρ1
def tOrM (t u : M Bool) : M Bool := fun ρ => (t ρ).bind fun b ρ1 => if b = true then .ok true ρ1 else u ρ1
def tNotM (t : M Bool) : M Bool := fun ρ => (t ρ).bind fun b ρ1 => .ok (!b) ρ1
theorem dw_and1 (ha : DT X E a t) : DW X E (.BoolOp .And [a] pos) t := pw_and1 ha
theorem dw_or1 (ha : DT X E a t) : DW X E (.BoolOp .Or [a] pos) t := pw_or1 ha
theorem DW.dt (h : DW X E e t) : DT X E e t := PW.pt h
theorem dw_and (ha : DT X E a t) (hb : DW X E (.BoolOp .And (b :: es) pos) u) : DW X E (.BoolOp .And (a :: b :: es) pos) (tAndM t u) :=
  pw_conseq (pw_and ha hb) fun σ H Q hq => by
    obtain ⟨F, ρ, sr, q⟩ := hq
    refine ⟨F, ρ, sr, (Out.bind (rel := relB) q).mono fun v H1 ⟨x, F1, ρ1, e1, s1, ev1, r1, o1⟩ => ?_⟩
    have r1 : v = x := r1
    subst r1
    have o2 := o1.from ev1 fun _ _ _ _ _ h => h
    cases v with
    | true => exact ⟨F1, ρ1, s1, o2⟩
    | false => exact o2 false F1 H1 s1 .refl rfl
theorem dw_or (ha : DT X E a t) (hb : DW X E (.BoolOp .Or (b :: es) pos) u) : DW X E (.BoolOp .Or (a :: b :: es) pos) (tOrM t u) :=
  pw_conseq (pw_or ha hb) fun σ H Q hq => by
    obtain ⟨F, ρ, sr, q⟩ := hq
    refine ⟨F, ρ, sr, (Out.bind (rel := relB) q).mono fun v H1 ⟨x, F1, ρ1, e1, s1, ev1, r1, o1⟩ => ?_⟩
    have r1 : v = x := r1
    subst r1
    have o2 := o1.from ev1 fun _ _ _ _ _ h => h
    cases v with
    | false => exact ⟨F1, ρ1, s1, o2⟩
    | true => exact o2 true F1 H1 s1 .refl rfl
theorem dt_not (ha : DT X E a t) : DT X E (.UnaryOp .Not a pos) (tNotM t) :=
  pt_conseq (pt_not ha) fun σ H Q hq => by
    obtain ⟨F, ρ, sr, q⟩ := hq
    refine ⟨F, ρ, sr, (Out.bind (rel := relB) q).mono fun v H1 ⟨x, F1, ρ1, e1, s1, ev1, r1, o1⟩ => ?_⟩
    have r1 : v = x := r1
    subst r1
    exact (o1.from ev1 fun _ _ _ _ _ h => h) _ F1 H1 s1 .refl rfl
def eAnd (f g : EM) : EM := fun ρ => (f ρ).bind fun x ρ1 => match x with
  | .d (.bl true) => g ρ1
  | .d (.bl false) => .ok (.d (.bl false)) ρ1
  | _ => .bad
def eOr (f g : EM) : EM := fun ρ => (f ρ).bind fun x ρ1 => match x with
  | .d (.bl false) => g ρ1
  | .d (.bl true) => .ok (.d (.bl true)) ρ1
  | _ => .bad
def eNot (f : EM) : EM := fun ρ => (f ρ).bind fun x ρ1 => match x with
  | .d (.bl b) => .ok (.d (.bl (!b))) ρ1
  | _ => .bad
theorem vr_bl {K : PySem.W.Frag} {σ : L2.St} {Hb F H : Hp} {ρ : DEnv} {v : V} {b : Bool} (h : VR K σ Hb F H ρ v (.d (.bl b))) : v = .bl b := by
  have h : Rep K F v (.bl b) := h
  cases h; rfl
theorem vr_int {K : PySem.W.Frag} {σ : L2.St} {Hb F H : Hp} {ρ : DEnv} {v : V} {b : Int} (h : VR K σ Hb F H ρ v (.d (.int b))) : v = .int b := by
  have h : Rep K F v (.int b) := h
  cases h; rfl
theorem relV_from {K : PySem.W.Frag} {σ : L2.St} {ρ ρ1 : DEnv} {F H F1 H1 : Hp} (ev : Ev σ ρ F H σ ρ1 F1 H1) : ∀ F' H' ρ' v x, relV K σ H1 F' H' ρ' v x → relV K σ H F' H' ρ' v x := fun _ _ _ _ _ h => VR.base h ev.dom
theorem de_one {o} (ha : DE X E a f) : DE X E (.BoolOp o [a] pos) f := pe_one ha
theorem de_and (ha : DE X E a f) (hb : DE X E (.BoolOp .And (b :: es) pos) g) : DE X E (.BoolOp .And (a :: b :: es) pos) (eAnd f g) :=
  pe_conseq (pe_and ha hb) fun σ H Q hq => by
    obtain ⟨F, ρ, sr, q⟩ := hq
    refine ⟨F, ρ, sr, (Out.bind (rel := relV X.K σ) q).mono fun v H1 ⟨x, F1, ρ1, e1, s1, ev1, r1, o1⟩ => ?_⟩
    have o2 := o1.from ev1 (relV_from ev1)
    split at o2
    · obtain rfl := vr_bl r1
      exact ⟨true, rfl, F1, ρ1, s1, o2⟩
    · obtain rfl := vr_bl r1
      exact ⟨false, rfl, o2 (.bl false) F1 H1 s1 .refl (Rep.bl false)⟩
    · exact o2.elim
theorem de_not (ha : DE X E a f) : DE X E (.UnaryOp .Not a pos) (eNot f) :=
  pe_conseq (pe_not ha) fun σ H Q hq => by
    obtain ⟨F, ρ, sr, q⟩ := hq
    refine ⟨F, ρ, sr, (Out.bind (rel := relV X.K σ) q).mono fun v H1 ⟨x, F1, ρ1, e1, s1, ev1, r1, o1⟩ => ?_⟩
    have o2 := o1.from ev1 (relV_from ev1)
    split at o2
    · rename_i b
      obtain rfl := vr_bl r1
      exact ⟨b, rfl, o2 (.bl (!b)) F1 H1 s1 .refl (Rep.bl _)⟩
    · exact o2.elim
def eIf (t : M Bool) (f g : EM) : EM := fun ρ => (t ρ).bind fun b ρ1 => if b = true then f ρ1 else g ρ1
/-! ### None -/
def isNonV : Val → Bool
  | .d .non => true
  | _ => false
def eIsN (f : EM) : EM := fun ρ => (f ρ).bind fun x ρ1 => match x with
  | .sl _ => .bad
  | x => .ok (.d (.bl (isNonV x))) ρ1
def eNotN (f : EM) : EM := fun ρ => (f ρ).bind fun x ρ1 => match x with
  | .sl _ => .bad
  | x => .ok (.d (.bl (!isNonV x))) ρ1
/-! ### chains -/
def eChain (op op' : D → D → Option Val) (f g h : EM) : EM := fun ρ => (f ρ).bind fun x ρ1 => (g ρ1).bind fun y ρ2 => (opV op x y ρ2).bind fun z ρ3 => match z with
  | .d (.bl true) => (h ρ3).bind fun w ρ4 => opV op' y w ρ4
  | .d (.bl false) => .ok (.d (.bl false)) ρ3
  | _ => .bad
theorem opV_ok' {K : PySem.W.Frag} {mg : Str → Option Value} {σ : L2.St} {ρ : DEnv} {F H Hb Hb' : Hp} {v w : V} {x y : Val} {γ δ : Type} {rel2 : RelT δ γ} {k : Val → DEnv → R γ} {Q2 : δ → Hp → Prop} {r : R2} {op : D → D → Option Val} (s : OpS K r op) (sr : SR K F H σ ρ) (rx : VR K σ Hb F H ρ v x) (ry : VR K σ Hb' F H ρ w y)
    (h : Out K mg xk rel2 σ ρ F H ((opV op x y ρ).bind k) Q2) :
    r v w H (fun u H1 => ∃ z F1 ρ1, SR K F1 H1 σ ρ1 ∧ Ev σ ρ F H σ ρ1 F1 H1 ∧ VR K σ H F1 H1 ρ1 u z ∧ Out K mg xk rel2 σ ρ F H (k z ρ1) Q2) := by
  refine opV_ok s sr rx ry ((Out.bind (rel := relV K σ) h).mono fun u H1 ⟨z, F1, ρ1, e1, s1, ev1, r1, o1⟩ => ⟨z, F1, ρ1, s1, ev1, r1, o1⟩)
theorem chain_ok {r r' : R2} {op op' : D → D → Option Val} (s : OpS X.K r op) (s' : OpS X.K r' op') {σ : L2.St} {H : Hp} {Q : VK} (hq : tD X.K X.mg E (eChain op op' f g h) σ H Q) : tChain r r' (tD X.K X.mg E f) (tD X.K X.mg E g) (tD X.K X.mg E h) σ H Q := by
  obtain ⟨F, ρ, sr, q⟩ := hq
  refine ⟨F, ρ, sr, (Out.bind (rel := relV X.K σ) q).mono fun v H1 ⟨x, F1, ρ1, e1, s1, ev1, r1, o1⟩ => ?_⟩
  refine ⟨F1, ρ1, s1, (Out.bind (rel := relV X.K σ) (o1.from ev1 (relV_from ev1))).mono fun w H2 ⟨y, F2, ρ2, e2, s2, ev2, r2, o2⟩ => ?_⟩
  have h3 := opV_ok' s s2 (VR.ev r1 ev2) r2 (o2.from ev2 (relV_from ev2))
  refine opV_ok s s2 (VR.ev r1 ev2) r2 ((Out.bind (rel := relV X.K σ) (o2.from ev2 (relV_from ev2))).mono fun u H3 ⟨z, F3, ρ3, e3, s3, ev3, r3, o3⟩ => ?_)
  have o4 := o3.from ev3 (relV_from ev3)
  split at o4
  · obtain rfl := vr_bl r3
    refine ⟨true, rfl, ?_⟩
    rw [if_pos rfl]
    refine ⟨F3, ρ3, s3, (Out.bind (rel := relV X.K σ) o4).mono fun w' H4 ⟨z', F4, ρ4, e4, s4, ev4, r4, o5⟩ => ?_⟩
    exact opV_ok s' s4 (VR.ev (VR.ev r2 ev3) ev4) r4 (o5.from ev4 (relV_from ev4))
  · obtain rfl := vr_bl r3
    refine ⟨false, rfl, ?_⟩
    rw [if_neg Bool.false_ne_true]
    exact o4 (.bl false) F3 H3 s3 .refl (Rep.bl false)
  · exact o4.elim
theorem de_chain {o o' : CmpOp} {r r' : R2} {op op' : D → D → Option Val} (ho : OpR X (compareOp o) r) (s : OpS X.K r op) (ho' : OpR X (compareOp o') r') (s' : OpS X.K r' op') (ha : DE X E a f) (hb : DE X E b g) (hc : DE X E c h) (hm : lastMarks [o, o'] [b, c] = false := by rfl) : DE X E (.Compare a [o, o'] [b, c] pos) (eChain op op' f g h) :=
  pe_conseq (pe_chain ho ho' ha hb hc hm) fun _ _ _ => chain_ok s s'
theorem de_leLe (ha : DE X E a f) (hb : DE X E b g) (hc : DE X E c h) (hm : lastMarks [.LtE, .LtE] [b, c] = false := by rfl) : DE X E (.Compare a [.LtE, .LtE] [b, c] pos) (eChain leD leD f g h) := de_chain op_le os_cmp0 op_le os_cmp0 ha hb hc hm
/-! ### in -/
def flatD : D → Bool
  | .non => true
  | .bl _ => true
  | .int _ => true
  | .str _ => true
  | _ => false
def eqF : D → D → Bool
  | .non, .non => true
  | .bl a, .bl b => a == b
  | .bl a, .int b => (if a then 1 else 0) == b
  | .int a, .bl b => a == (if b then 1 else 0)
  | .int a, .int b => a == b
  | .str a, .str b => a == b
  | _, _ => false
def inS (x : D) (xs : List D) : Bool := xs.any fun y => eqF y x
def inSeqD (neg : Bool) : D → D → Option Val := fun x y => match y with
  | .lst xs => if flatD x = true ∧ xs.all flatD = true then some (.d (.bl (if neg then !inS x xs else inS x xs))) else none
  | .tup xs => if flatD x = true ∧ xs.all flatD = true then some (.d (.bl (if neg then !inS x xs else inS x xs))) else none
  | _ => none
section
variable {K : PySem.W.Frag} {F H : Hp}
theorem flat_ok {v : V} {x : D} (h : Rep K F v x) (e : flatD x = true) : flatV v = true := by
  cases h <;> first | rfl | cases e
theorem flatL_ok : ∀ {vs : List V} {xs : List D}, RepL K F vs xs → xs.all flatD = true → vs.all flatV = true
  | _, _, .nil, _ => rfl
  | _, _, .cons a b, e => by
    simp only [List.all_cons, Bool.and_eq_true] at e ⊢
    exact ⟨flat_ok a e.1, flatL_ok b e.2⟩
theorem eqF_ok {v w : V} {x y : D} (h : Rep K F v x) (h' : Rep K F w y) : eqV v w = eqF x y := by
  cases h <;> cases h' <;> rfl
theorem inS_ok {v : V} {x : D} (h : Rep K F v x) : ∀ {vs : List V} {xs : List D}, RepL K F vs xs → inV v vs = inS x xs
  | _, _, .nil => rfl
  | _, _, .cons a b => by
    unfold inV inS
    rw [List.any_cons, List.any_cons, eqF_ok a h]
    exact congrArg _ (inS_ok h b)
theorem RepT.flat {v : V} {x : D} (h : RepT K F H v x) (e : flatD x = true) : Rep K F v x := by
  cases x <;> first | exact h | cases e
theorem os_inSeq (neg : Bool) : OpS K (rIn K neg) (inSeqD neg) := by
  intro F H v w a b z Q s ra rb e q
  unfold inSeqD at e
  split at e
  · obtain ⟨p, xs, rfl, hl, r⟩ := rb.lst
    split at e
    · rename_i hh
      cases e
      have rx := ra.flat hh.1
      refine ⟨p, xs, rfl, .inl (.of hl), flat_ok rx hh.1, flatL_ok r hh.2, ?_⟩
      rw [inS_ok rx r]
      exact vn_bl s q
    · cases e
  · obtain ⟨p, xs, rfl, hl, r⟩ := rb.tup s
    split at e
    · rename_i hh
      cases e
      have rx := ra.flat hh.1
      refine ⟨p, xs, rfl, .inr hl, flat_ok rx hh.1, flatL_ok r hh.2, ?_⟩
      rw [inS_ok rx r]
      exact vn_bl s q
    · cases e
  · cases e
end
end
end DL
/-! DL5: in, subscripts, slices, displays, built-in functions. -/
namespace DL
open PySem PySem.Spec PyProof.Rows L2
variable [TabT]
section
variable {X : Cx} {E : WX} {xk : XK} {a b c e : Expr} {es : List Expr} {f g h : EM} {t u : M Bool} {pos : Pos}
/-! ### either of two operations, by what they are given -/
def orOp (op op' : D → D → Option Val) : D → D → Option Val := fun a b => match op a b with | some z => some z | none => op' a b
theorem eOp_or {op op' : D → D → Option Val} {σ : L2.St} {H : Hp} {Q : VK} (hq : tD X.K X.mg E (eOp (orOp op op') f g) σ H Q) : tD X.K X.mg E (eOp op f g) σ H Q ∨ tD X.K X.mg E (eOp op' f g) σ H Q := by
  obtain ⟨F, ρ, sr, q⟩ := hq
  unfold eOp at q
  cases h1 : f ρ with
  | bad => rw [h1] at q; exact q.elim
  | ex x ρ1 => rw [h1] at q; exact .inl ⟨F, ρ, sr, by unfold eOp; rw [h1]; exact q⟩
  | ok x ρ1 =>
    cases h2 : g ρ1 with
    | bad => rw [h1] at q; simp only [R.bind, h2] at q; exact q.elim
    | ex y ρ2 => rw [h1] at q; simp only [R.bind, h2] at q; exact .inl ⟨F, ρ, sr, by unfold eOp; rw [h1]; simp only [R.bind, h2]; exact q⟩
    | ok y ρ2 =>
      rw [h1] at q
      simp only [R.bind, h2] at q
      cases hx : x.peek ρ2 with
      | none => simp only [opV, hx] at q; exact q.elim
      | some p =>
        cases hy : y.peek ρ2 with
        | none => simp only [opV, hx, hy] at q; exact q.elim
        | some r =>
          cases hz : op p r with
          | some z => exact .inl ⟨F, ρ, sr, by unfold eOp; rw [h1]; simp only [R.bind, h2, opV, hx, hy, hz]; simpa only [opV, hx, hy, orOp, hz] using q⟩
          | none => exact .inr ⟨F, ρ, sr, by unfold eOp; rw [h1]; simp only [R.bind, h2, opV, hx, hy]; simpa only [opV, hx, hy, orOp, hz] using q⟩
theorem de_opOr {r r' : R2} {op op' : D → D → Option Val} (h : PE X e (tOp r (tD X.K X.mg E f) (tD X.K X.mg E g))) (s : OpS X.K r op) (h' : PE X e (tOp r' (tD X.K X.mg E f) (tD X.K X.mg E g))) (s' : OpS X.K r' op') : DE X E e (eOp (orOp op op') f g) :=
  pe_conseq (pe_or2 h h') fun _ _ _ hq => (eOp_or hq).imp (two s) (two s')
/-! ### dicts, looked up -/
def keyD : D → Option Key
  | .int i => some (.inl i)
  | .str x => some (.inr x)
  | _ => none
def dLook : List Key → List D → Key → Option D
  | k :: ks, v :: vs, j => if k = j then some v else dLook ks vs j
  | _, _, _ => none
section
variable {K : PySem.W.Frag} {F H : Hp}
theorem keyD_ok {v : V} {x : D} {k : Key} (h : Rep K F v x) (e : keyD x = some k) : v = kV k := by
  cases h <;> cases e <;> rfl
theorem RepT.key {v : V} {x : D} {k : Key} (h : RepT K F H v x) (e : keyD x = some k) : v = kV k := by
  cases x with
  | int i => exact keyD_ok (show Rep K F v _ from h) e
  | str i => exact keyD_ok (show Rep K F v _ from h) e
  | _ => cases e
theorem valV_zip_cons {k j : Key} {v : V} {ks : List Key} {vs : List V} : valV ((k, v) :: ks.zip vs) j = if k = j then some v else valV (ks.zip vs) j := by
  unfold valV
  rw [List.find?_cons]
  by_cases h : k = j
  · rw [if_pos h]; simp [h]
  · rw [if_neg h]; simp [h]
theorem dLook_ok : ∀ {ks : List Key} {vs : List V} {ds : List D} {j : Key}, ks.length = vs.length → RepL K F vs ds →
    (∃ v d, valV (ks.zip vs) j = some v ∧ dLook ks ds j = some d ∧ Rep K F v d) ∨ (valV (ks.zip vs) j = none ∧ dLook ks ds j = none)
  | [], _, _, j, _, _ => .inr ⟨rfl, by cases ‹List D› <;> rfl⟩
  | k :: ks, [], _, j, l, _ => by simp at l
  | k :: ks, v :: vs, _, j, l, .cons (d := d) (ds := ds) a b => by
    rw [List.zip_cons_cons, valV_zip_cons]
    unfold dLook
    by_cases h : k = j
    · rw [if_pos h, if_pos h]; exact .inl ⟨v, d, rfl, rfl, a⟩
    · rw [if_neg h, if_neg h]; exact dLook_ok (by simpa using l) b
theorem RepT.dic {v : V} {ks : List Key} {ds : List D} (h : RepT K F H v (.dic ks ds)) : ∃ a xs, v = .ref a ∧ Rd H a (.dK (ks.zip xs)) ∧ ks.length = xs.length ∧ RepL K F xs ds := h
end
def idxD1 : D → D → Option Val
  | .lst xs, .int i => (atI xs i).map .d
  | .tup xs, .int i => (atI xs i).map .d
  | .scr ns, .int i => (atI ns i).map fun k => .d (.int k)
  | _, _ => none
def idxD2 : D → D → Option Val
  | .dic ks vs, y => match keyD y with
    | some k => (dLook ks vs k).map .d
    | none => none
  | _, _ => none
def idxD3 : D → D → Option Val
  | .str z, .int i => if z.length ≤ 16777216 then (atI z.cps.toList i).map fun c => .d (.str ⟨#[c]⟩) else none
  | _, _ => none
section
variable {K : PySem.W.Frag} {F H : Hp}
theorem atI_rep {vs : List V} {ds : List D} {i : Int} {d : D} (r : RepL K F vs ds) (e : atI ds i = some d) : ∃ v, atI vs i = some v ∧ Rep K F v d := by
  unfold atI at e ⊢
  rw [r.length]
  cases h : ixN ds.length i with
  | none => rw [h] at e; cases e
  | some j => rw [h] at e; exact r.get e
theorem atI_map {α β : Type} {f : α → β} {xs : List α} {i : Int} {x : α} (e : atI xs i = some x) : atI (xs.map f) i = some (f x) := by
  unfold atI at e ⊢
  rw [List.length_map]
  cases h : ixN xs.length i with
  | none => rw [h] at e; cases e
  | some j =>
    rw [h] at e
    show (xs.map f)[j]? = _
    rw [List.getElem?_map, show xs[j]? = some x from e]
    rfl
theorem os_idx1 : OpS K (rIx K) idxD1 := by
  intro F H v w a b z Q s ra rb e q
  unfold idxD1 at e
  split at e
  · obtain ⟨p, xs, rfl, hl, r⟩ := ra.lst
    obtain rfl := rb.int
    rename_i xs' i
    cases h : atI xs' i with
    | none => rw [h] at e; cases e
    | some d =>
      rw [h] at e; cases e
      obtain ⟨v, h1, h2⟩ := atI_rep r h
      exact .inl ⟨p, xs, i, v, rfl, rfl, .of hl, h1, vn_d s q h2⟩
  · obtain ⟨p, xs, rfl, hl, r⟩ := ra.tup s
    obtain rfl := rb.int
    rename_i xs' i
    cases h : atI xs' i with
    | none => rw [h] at e; cases e
    | some d =>
      rw [h] at e; cases e
      obtain ⟨v, h1, h2⟩ := atI_rep r h
      exact .inr (.inl ⟨p, xs, i, v, rfl, rfl, hl, h1, vn_d s q h2⟩)
  · obtain ⟨p, rfl, hl⟩ := ra.scr s
    obtain rfl := rb.int
    rename_i ns i
    cases h : atI ns i with
    | none => rw [h] at e; cases e
    | some d =>
      rw [h] at e; cases e
      exact .inl ⟨p, _, i, _, rfl, rfl, hl, atI_map h, vn_int s q⟩
  · cases e
theorem os_idx3 : OpS K (rIx K) idxD3 := by
  intro F H v w a b z Q s ra rb e q
  unfold idxD3 at e
  split at e
  · obtain rfl := ra.str
    obtain rfl := rb.int
    split at e
    · rename_i z' i hz
      cases h : atI z'.cps.toList i with
      | none => rw [h] at e; cases e
      | some d =>
        rw [h] at e; cases e
        exact .inr (.inr ⟨_, _, d, rfl, rfl, by rw [sizeLine_eq]; exact hz, h, vn_str s q⟩)
    · cases e
  · cases e
def rDG : R2 := fun x y H Q => ∃ a v, x = .ref a ∧ DGet H a y (some v) ∧ Q v H
theorem os_idx2 : OpS K rDG idxD2 := by
  intro F H v w a b z Q s ra rb e q
  unfold idxD2 at e
  split at e
  · obtain ⟨p, xs, rfl, hl, ln, r⟩ := ra.dic
    split at e
    · rename_i k hk
      obtain rfl := rb.key hk
      rcases dLook_ok (j := k) ln r with ⟨v, d, h1, h2, h3⟩ | ⟨h1, h2⟩
      · rw [h2] at e; cases e
        exact ⟨p, v, rfl, .inl ⟨_, k, hl, rfl, h1.symm⟩, vn_d s q h3⟩
      · rw [h2] at e; cases e
    · cases e
  · cases e
/-- one reading, two operations -/
theorem os_or' {r : R2} {op op' : D → D → Option Val} (h : OpS K r op) (h' : OpS K r op') : OpS K r (orOp op op') := by
  intro F H v w a b z Q s ra rb e q
  unfold orOp at e
  cases hz : op a b with
  | some y => rw [hz] at e; cases e; exact h F H v w a b _ Q s ra rb hz q
  | none => rw [hz] at e; exact h' F H v w a b _ Q s ra rb e q
end
def idxD : D → D → Option Val := orOp (orOp idxD1 idxD3) idxD2
theorem de_idx (hu : X.A.units + 1 < cLine) (ha : DE X E a f) (hb : DE X E b g) (hs : PlainIx b := by exact fun _ _ => rfl) (hn : NoSl b := by exact fun _ _ => rfl) : DE X E (.Subscript a b pos) (eOp idxD f g) :=
  de_opOr (pe_ix ix_seq ha hb hs) (os_or' os_idx1 os_idx3) (pe_dget hu ha hb hn) os_idx2
/-! ### in -/
def inDicD (neg : Bool) : D → D → Option Val := fun x y => match y with
  | .dic ks vs => match keyD x with
    | some k => some (.d (.bl (if neg then !(dLook ks vs k).isSome else (dLook ks vs k).isSome)))
    | none => none
  | _ => none
def rDI (neg : Bool) : R2 := fun y x H Q => ∃ a o, x = .ref a ∧ DGet H a y o ∧ Q (.bl (if neg then !o.isSome else o.isSome)) H
theorem os_inDic {K : PySem.W.Frag} (neg : Bool) : OpS K (rDI neg) (inDicD neg) := by
  intro F H v w a b z Q s ra rb e q
  unfold inDicD at e
  split at e
  · obtain ⟨p, xs, rfl, hl, ln, r⟩ := rb.dic
    split at e
    · rename_i k hk
      cases e
      obtain rfl := ra.key hk
      rcases dLook_ok (j := k) ln r with ⟨v, d, h1, h2, h3⟩ | ⟨h1, h2⟩
      · refine ⟨p, some v, rfl, .inl ⟨_, k, hl, rfl, h1.symm⟩, ?_⟩
        rw [h2] at q
        exact vn_bl s q
      · refine ⟨p, none, rfl, .inl ⟨_, k, hl, rfl, h1.symm⟩, ?_⟩
        rw [h2] at q
        exact vn_bl s q
    · cases e
  · cases e
def inD : D → D → Option Val := orOp (inSeqD false) (inDicD false)
def ninD : D → D → Option Val := orOp (inSeqD true) (inDicD true)
theorem dt_nin (hu : X.A.units + 1 < cLine) (ha : DE X E a f) (hb : DE X E b g) (hm : behindInMarks .NotIn b = false := by rfl) : DT X E (.Compare a [.NotIn] [b] pos) (tst (eOp ninD f g)) :=
  pt_conseq (⟨fun pins s σ H Q I q => q.elim ((pt_cmpR op_notIn_seq ha hb hm).run pins s σ H Q I) ((pt_cmp (pc_dnotin hu ha hb) hm).run pins s σ H Q I)⟩ : PT X _ (fun σ H Q => _ ∨ _)) fun σ H Q hq => by
    obtain ⟨F, ρ, sr, q⟩ := tst_ok hq
    exact (eOp_or ⟨F, ρ, sr, q⟩).imp (two (os_inSeq true)) (two (os_inDic true))
/-! ### arguments, displays -/
def aNil : M (List Val) := fun ρ => .ok [] ρ
def aCons (f : EM) (g : M (List Val)) : M (List Val) := fun ρ => (f ρ).bind fun x ρ1 => (g ρ1).bind fun xs ρ2 => .ok (x :: xs) ρ2
theorem da_nil : DA X E [] aNil := pa_conseq pa_nil fun σ H Q hq => by
  obtain ⟨F, ρ, sr, q⟩ := hq
  exact q [] F H sr .refl ⟨.nil, fun i j c c' p h => by simp at h⟩
theorem relL_base {K : PySem.W.Frag} {σ : L2.St} {ρ ρ1 : DEnv} {F H F1 H1 : Hp} (ev : Ev σ ρ F H σ ρ1 F1 H1) : ∀ F' H' ρ' v x, relL K σ H1 F' H' ρ' v x → relL K σ H F' H' ρ' v x := fun F' H' ρ' v x h => by
  refine ⟨?_, h.frs⟩
  have := h.all
  clear h
  induction this with
  | nil => exact .nil
  | cons a b ih => exact .cons (VR.base a ev.dom) ih
theorem paired_get {α β : Type} {G : α → β → Prop} : ∀ {l : List α} {m : List β} {i : Nat} {x : α} {y : β}, Paired G l m → l[i]? = some x → m[i]? = some y → G x y
  | _, _, _, _, _, .nil, e, _ => by simp at e
  | _, _, 0, _, _, .cons a b, e, e' => by simp at e e'; subst e; subst e'; exact a
  | _, _, i + 1, _, _, .cons a b, e, e' => paired_get (i := i) b (by simpa using e) (by simpa using e')
theorem aCons_read {g : M (List Val)} {σ : L2.St} {H : Hp} {Q : List V → Hp → Prop} (hq : tA X.K X.mg E (aCons f g) σ H Q) : tCons (tD X.K X.mg E f) (tA X.K X.mg E g) σ H Q := by
  obtain ⟨F, ρ, sr, q⟩ := hq
  refine ⟨F, ρ, sr, (Out.bind (rel := relV X.K σ) q).mono fun v H1 ⟨x, F1, ρ1, e1, s1, ev1, r1, o1⟩ => ?_⟩
  refine ⟨F1, ρ1, s1, (Out.bind (rel := relL X.K σ) (o1.from ev1 (relL_base ev1))).mono fun vs H2 ⟨xs, F2, ρ2, e2, s2, ev2, r2, o2⟩ => ?_⟩
  rw [e2] at o1
  have nn : ∀ c, x = .fr c → ∀ p, v = .ref p → ¬ H1 p = none := fun c e p e' z => by
    subst e
    obtain ⟨p', e2, _, _, cr, _⟩ := r1
    rw [e'] at e2; cases e2
    obtain ⟨o, ho⟩ := cr.some
    rw [z] at ho; cases ho
  have nw : ∀ (i : Nat) (c : Cont) (p : Addr), xs[i]? = some (.fr c) → vs[i]? = some (.ref p) → H1 p = none := fun i c p e e' => by
    obtain ⟨p', e3, n, _⟩ := paired_get r2.all e' e
    cases e3
    exact n
  refine o1 (v :: vs) F2 H2 s2 (ev1.trans ev2) ⟨.cons (VR.ev r1 ev2) (relL_base ev1 _ _ _ _ _ r2).all, fun i j c c' p h1 h2 h3 h4 => ?_⟩
  cases i with
  | zero =>
    cases j with
    | zero => rfl
    | succ j => exact absurd (nw j c' p (by simpa using h2) (by simpa using h4)) (nn c (by simpa using h1) p (by simpa using h3))
  | succ i =>
    cases j with
    | zero => exact absurd (nw i c p (by simpa using h1) (by simpa using h3)) (nn c' (by simpa using h2) p (by simpa using h4))
    | succ j => exact congrArg (· + 1) (r2.frs i j c c' p (by simpa using h1) (by simpa using h2) (by simpa using h3) (by simpa using h4))
theorem da_cons {g : M (List Val)} (ha : DE X E e f) (hb : DA X E es g) (hs : starEach (e :: es) X.env = (false, eval e X.env) :: starEach es X.env := by rfl) : DA X E (e :: es) (aCons f g) := pa_conseq (pa_cons ha hb hs) fun σ H Q hq => aCons_read hq
/-- frozen values -/
def dsL : List Val → Option (List D)
  | [] => some []
  | .d x :: xs => (dsL xs).map (x :: ·)
  | _ :: _ => none
theorem dsL_ok {K : PySem.W.Frag} {σ : L2.St} {Hb F H : Hp} {ρ : DEnv} : ∀ {vs : List V} {xs : List Val} {ds : List D}, Paired (VR K σ Hb F H ρ) vs xs → dsL xs = some ds → RepL K F vs ds
  | _, _, _, .nil, e => by cases e; exact .nil
  | _, _, _, .cons (b := x) (l₂ := xs) r t, e => by
    cases x with
    | fr c => cases e
    | sl i => cases e
    | d x =>
      unfold dsL at e
      cases h : dsL xs with
      | none => rw [h] at e; cases e
      | some ds => rw [h] at e; cases e; exact .cons r (dsL_ok t h)
def mkTup (xs : List Val) : EM := fun ρ => match dsL xs with
  | some ds => if ds.length ≤ 16777216 then .ok (.d (.tup ds)) ρ else .bad
  | none => .bad
def mkLst (xs : List Val) : EM := fun ρ => match dsL xs with
  | some ds => if ds.length ≤ 16777216 then .ok (.fr (.lst ds)) ρ else .bad
  | none => .bad
def eTup (g : M (List Val)) : EM := fun ρ => (g ρ).bind mkTup
def eLst (g : M (List Val)) : EM := fun ρ => (g ρ).bind mkLst
section
variable {K : PySem.W.Frag} {F H : Hp}
theorem Gr.vtup {σ : L2.St} {ρ : DEnv} {xs : List V} {ds : List D} {p : Addr} (s : SR K F H σ ρ) (r : RepL K F xs ds) (n : H p = none) : Rep K (upd F p (.tup xs)) (.ref p) (.tup ds) :=
  .tup (.of upd_same) (r.mono (.of (froz_ext (Same.free s.sub n))))
end
theorem de_tup {g : M (List Val)} {x1} (h : DA X E es g) : DE X E (.Tuple es x1 pos) (eTup g) := pe_conseq (pe_tup h) fun σ H Q hq => by
  obtain ⟨F, ρ, sr, q⟩ := hq
  refine ⟨F, ρ, sr, (Out.bind (rel := relL X.K σ) q).mono fun vs H1 ⟨xs, F1, ρ1, e1, s1, ev1, r1, o1⟩ => ?_⟩
  have o2 := o1.from ev1 (relV_from ev1)
  unfold mkTup at o2
  split at o2
  · rename_i ds hd
    split at o2
    · rename_i hl
      have r := dsL_ok r1.all hd
      refine ⟨by rw [r.length, sizeLine_eq]; exact hl, fun p n => ?_⟩
      have g := Gr.froz (o := .tup vs) s1.sub n
      exact o2 _ _ _ (g.sr s1) g.ev (Gr.vtup s1 r n)
    · exact o2.elim
  · exact o2.elim
theorem fr_vr {K : PySem.W.Frag} {σ : L2.St} {ρ : DEnv} {F H H' : Hp} {p : Addr} {c : Cont} (sr : SR K F H σ ρ) (n : H p = none) (nF : F p = none) (cr : CRep K F H' p c) : VR K σ H F H' ρ (.ref p) (.fr c) := by
  refine ⟨p, rfl, n, nF, cr, fun ⟨i, c', m, q1, q2⟩ => ?_⟩
  obtain ⟨ov, h1, a, h2, _, cr'⟩ := sr.slot i _ q1
  rw [q2] at h1; cases h1
  cases h2
  obtain ⟨o, ho⟩ := cr'.some
  rw [n] at ho; cases ho
theorem de_lst {g : M (List Val)} (h : DA X E es g) : DE X E (.List es pos) (eLst g) := pe_conseq (pe_lst h) fun σ H Q hq => by
  obtain ⟨F, ρ, sr, q⟩ := hq
  refine ⟨F, ρ, sr, (Out.bind (rel := relL X.K σ) q).mono fun vs H1 ⟨xs, F1, ρ1, e1, s1, ev1, r1, o1⟩ => ?_⟩
  have o2 := o1.from ev1 (relV_from ev1)
  unfold mkLst at o2
  split at o2
  · rename_i ds hd
    split at o2
    · rename_i hl
      have r := dsL_ok r1.all hd
      refine ⟨by rw [r.length, sizeLine_eq]; exact hl, fun p n => ?_⟩
      have g := Gr.fresh (o := .lst vs) s1.sub n
      exact o2 _ _ _ (g.sr s1) g.ev (fr_vr s1 n (Same.free s1.sub n) ⟨vs, upd_same, r⟩)
    · exact o2.elim
  · exact o2.elim
/-! ### slices -/
def cutD {α : Type} (xs : List α) (lo hi : Option Int) : List α := (xs.drop (HT.sIx xs.length 0 lo)).take (HT.sIx xs.length xs.length hi - HT.sIx xs.length 0 lo)
def sliceD (x : D) (lo hi : Option Int) : Option Val := match x with
  | .lst xs => some (.fr (.lst (cutD xs lo hi)))
  | .tup xs => some (.d (.tup (cutD xs lo hi)))
  | .str z => if z.length ≤ 16777216 then some (.d (.str (Txt.slice z lo hi))) else none
  | _ => none
abbrev OM := M (Option Int)
def oNone : OM := fun ρ => .ok none ρ
def oSome (f : EM) : OM := fun ρ => (f ρ).bind fun x ρ1 => match x with
  | .d (.int i) => .ok (some i) ρ1
  | _ => .bad
def eSl (f : EM) (l u : OM) : EM := fun ρ => (f ρ).bind fun x ρ1 => (l ρ1).bind fun lo ρ2 => (u ρ2).bind fun hi ρ3 => unV (fun d => sliceD d lo hi) x ρ3
end
end DL
/-! DL6: built-in functions. -/
namespace DL
open PySem PySem.Spec PyProof.Rows L2
variable [TabT]
section
variable {X : Cx} {E : WX} {xk : XK} {a b c e : Expr} {es : List Expr} {f g h : EM} {pos p : Pos}
theorem callr_or {fv : Value} {r r' : List V → Hp → VK → Prop} (h : CallR X fv r) (h' : CallR X fv r') : CallR X fv (fun xs H Q => r xs H Q ∨ r' xs H Q) :=
  fun pins s σ H xs us Q I rv q => q.elim (h pins s σ H xs us Q I rv) (h' pins s σ H xs us Q I rv)
theorem calls_ok {r : List V → Hp → VK → Prop} {op : List D → Option Val} {g : M (List Val)} (s : CallS X.K r op) {σ : L2.St} {H : Hp} {Q : VK} (hq : tD X.K X.mg E (eCallB op g) σ H Q) : tCB r (tA X.K X.mg E g) σ H Q := by
  obtain ⟨F, ρ, sr, q⟩ := hq
  refine ⟨F, ρ, sr, (Out.bind (rel := relL X.K σ) q).mono fun vs H1 ⟨xs, F1, ρ1, e1, s1, ev1, r1, o1⟩ => ?_⟩
  exact callV_ok s s1 r1 (o1.from ev1 (relV_from ev1))
theorem de_callB {x : Str} {id : String} {r : List V → Hp → VK → Prop} {op : List D → Option Val} {g : M (List Val)} (hc : CallR X (.builtin id) r) (s : CallS X.K r op) (hg : Gl X x) (hm : X.mg x = none) (hv : bootBuiltins x = some (.builtin id)) (ha : DA X E (e :: es) g) (hn : x ≠ "__name__" := by decide) (hdb : (x == ("__debug__" : Str)) = false := by decide)
    (he : starEach (e :: es) X.env = (false, eval e X.env) :: starEach es X.env := by rfl) (hpl : (backTo pos (starEach es X.env)).any (·.1) = false := by rfl) : DE X E (.Call (.Name x p) (e :: es) [] pos) (eCallB op g) :=
  pe_conseq (pe_callB hc hg hm hv ha hn hdb he hpl) fun _ _ _ => calls_ok s
theorem de_callTy {x : Str} {T : String} {r : List V → Hp → VK → Prop} {op : List D → Option Val} {g : M (List Val)} (hc : CallR X (.type T) r) (s : CallS X.K r op) (hg : Gl X x) (hm : X.mg x = none) (hv : bootBuiltins x = some (.type T)) (ha : DA X E (e :: es) g) (hn : x ≠ "__name__" := by decide) (hdb : (x == ("__debug__" : Str)) = false := by decide)
    (he : starEach (e :: es) X.env = (false, eval e X.env) :: starEach es X.env := by rfl) (hpl : (backTo pos (starEach es X.env)).any (·.1) = false := by rfl) : DE X E (.Call (.Name x p) (e :: es) [] pos) (eCallB op g) :=
  pe_conseq (pe_callTy hc hg hm hv ha hn hdb he hpl) fun _ _ _ => calls_ok s
section
variable {K : PySem.W.Frag} {F H : Hp}
theorem rep1 {vs : List V} {a : D} (h : RepTL K F H vs [a]) : ∃ v, vs = [v] ∧ RepT K F H v a := by
  cases h with
  | cons a t => cases t; exact ⟨_, rfl, a⟩
theorem rep2 {vs : List V} {a b : D} (h : RepTL K F H vs [a, b]) : ∃ v w, vs = [v, w] ∧ RepT K F H v a ∧ RepT K F H w b := by
  cases h with
  | cons a t =>
    obtain ⟨w, rfl, r⟩ := rep1 t
    exact ⟨_, w, rfl, a, r⟩
def intsD : List D → Option (List Int)
  | [] => some []
  | .int i :: ds => (intsD ds).map (i :: ·)
  | _ :: _ => none
theorem intsD_ok : ∀ {ds : List D} {ns : List Int}, intsD ds = some ns → ds = ns.map D.int
  | [], ns, e => by cases e; rfl
  | .int i :: ds, ns, e => by
    unfold intsD at e
    cases h : intsD ds with
    | none => rw [h] at e; cases e
    | some ms => rw [h] at e; cases e; rw [intsD_ok h]; rfl
  | .non :: _, _, e => by cases e
  | .bl _ :: _, _, e => by cases e
  | .str _ :: _, _, e => by cases e
  | .tup _ :: _, _, e => by cases e
  | .lst _ :: _, _, e => by cases e
  | .dic _ _ :: _, _, e => by cases e
  | .set _ :: _, _, e => by cases e
  | .scr _ :: _, _, e => by cases e
  | .ty _ :: _, _, e => by cases e
  | .obj _ _ _ :: _, _, e => by cases e
  | .ins _ _ _ :: _, _, e => by cases e
theorem intsD_map : ∀ (ns : List Int), intsD (ns.map D.int) = some ns
  | [] => rfl
  | n :: ns => by
    show (intsD (ns.map D.int)).map (n :: ·) = _
    rw [intsD_map ns]; rfl
def blsD : List D → Option (List Bool)
  | [] => some []
  | .bl i :: ds => (blsD ds).map (i :: ·)
  | _ :: _ => none
theorem blsD_ok : ∀ {ds : List D} {ns : List Bool}, blsD ds = some ns → ds = ns.map D.bl
  | [], ns, e => by cases e; rfl
  | .bl i :: ds, ns, e => by
    unfold blsD at e
    cases h : blsD ds with
    | none => rw [h] at e; cases e
    | some ms => rw [h] at e; cases e; rw [blsD_ok h]; rfl
  | .non :: _, _, e => by cases e
  | .int _ :: _, _, e => by cases e
  | .str _ :: _, _, e => by cases e
  | .tup _ :: _, _, e => by cases e
  | .lst _ :: _, _, e => by cases e
  | .dic _ _ :: _, _, e => by cases e
  | .set _ :: _, _, e => by cases e
  | .scr _ :: _, _, e => by cases e
  | .ty _ :: _, _, e => by cases e
  | .obj _ _ _ :: _, _, e => by cases e
  | .ins _ _ _ :: _, _, e => by cases e
theorem blsD_map : ∀ (ns : List Bool), blsD (ns.map D.bl) = some ns
  | [] => rfl
  | n :: ns => by
    show (blsD (ns.map D.bl)).map (n :: ·) = _
    rw [blsD_map ns]; rfl
theorem RepL.blsV : ∀ {vs : List V} {ns : List Bool}, RepL K F vs (ns.map D.bl) → vs = ns.map V.bl
  | _, [], .nil => rfl
  | _, n :: ns, .cons a b => by
    cases a
    rw [RepL.blsV b]
    rfl
/-! ### len -/
def lenD : List D → Option Val
  | [.lst xs] => some (.d (.int xs.length))
  | [.tup xs] => some (.d (.int xs.length))
  | [.scr xs] => some (.d (.int xs.length))
  | [.str z] => if z.length ≤ 16777216 then some (.d (.int z.length)) else none
  | _ => none
theorem cs_len : CallS K (fun xs H Q => (∃ p ys, xs = [.ref p] ∧ (SqL K H p ys ∨ SqT K H p ys) ∧ Q (.int ys.length) H) ∨ ∃ x n, xs = [x] ∧ LenV K x H n ∧ Q (.int n) H) lenD := by
  intro F H vs as z Q s ra e q
  unfold lenD at e
  split at e
  · cases e
    obtain ⟨v, rfl, r⟩ := rep1 ra
    obtain ⟨p, xs, rfl, hl, r⟩ := r.lst
    refine .inl ⟨p, xs, rfl, .inl (.of hl), ?_⟩
    rw [r.length]
    exact vn_int s q
  · cases e
    obtain ⟨v, rfl, r⟩ := rep1 ra
    obtain ⟨p, xs, rfl, hl, r⟩ := r.tup s
    refine .inl ⟨p, xs, rfl, .inr hl, ?_⟩
    rw [r.length]
    exact vn_int s q
  · cases e
    obtain ⟨v, rfl, r⟩ := rep1 ra
    obtain ⟨p, rfl, hl⟩ := r.scr s
    refine .inl ⟨p, _, rfl, .inl hl, ?_⟩
    rw [List.length_map]
    exact vn_int s q
  · split at e
    · rename_i hz
      cases e
      obtain ⟨v, rfl, r⟩ := rep1 ra
      obtain rfl := r.str
      exact .inr ⟨_, _, rfl, ⟨by rw [sizeLine_eq]; exact hz, rfl⟩, vn_int s q⟩
    · cases e
  · cases e
/-! ### numbers -/
def absD : List D → Option Val
  | [.int i] => some (.d (.int (if i < 0 then -i else i)))
  | _ => none
theorem cs_abs : CallS K (fun xs H Q => ∃ i, xs = [.int i] ∧ Q (.int (if i < 0 then -i else i)) H) absD := by
  intro F H vs as z Q s ra e q
  unfold absD at e
  split at e
  · cases e
    obtain ⟨v, rfl, r⟩ := rep1 ra
    obtain rfl := r.int
    exact ⟨_, rfl, vn_int s q⟩
  · cases e
def maxL : List Int → Int
  | [] => 0
  | x :: xs => xs.foldl max x
def minL : List Int → Int
  | [] => 0
  | x :: xs => xs.foldl min x
theorem foldl_max : ∀ (xs : List Int) (x : Int), (xs.foldl max x = x ∨ xs.foldl max x ∈ xs) ∧ x ≤ xs.foldl max x ∧ ∀ y ∈ xs, y ≤ xs.foldl max x
  | [], x => ⟨.inl rfl, Int.le_refl _, fun y h => nomatch h⟩
  | z :: xs, x => by
    obtain ⟨h1, h2, h3⟩ := foldl_max xs (max x z)
    rw [List.foldl_cons]
    refine ⟨?_, by omega, fun y hy => ?_⟩
    · rcases h1 with h1 | h1
      · rw [h1]
        by_cases q : x ≤ z
        · right; rw [Int.max_eq_right q]; exact List.mem_cons_self ..
        · left; omega
      · right; exact List.mem_cons_of_mem _ h1
    · rcases List.mem_cons.mp hy with rfl | hy
      · omega
      · exact h3 y hy
theorem foldl_min : ∀ (xs : List Int) (x : Int), (xs.foldl min x = x ∨ xs.foldl min x ∈ xs) ∧ xs.foldl min x ≤ x ∧ ∀ y ∈ xs, xs.foldl min x ≤ y
  | [], x => ⟨.inl rfl, Int.le_refl _, fun y h => nomatch h⟩
  | z :: xs, x => by
    obtain ⟨h1, h2, h3⟩ := foldl_min xs (min x z)
    rw [List.foldl_cons]
    refine ⟨?_, by omega, fun y hy => ?_⟩
    · rcases h1 with h1 | h1
      · rw [h1]
        by_cases q : x ≤ z
        · left; omega
        · right; rw [Int.min_eq_right (by omega)]; exact List.mem_cons_self ..
      · right; exact List.mem_cons_of_mem _ h1
    · rcases List.mem_cons.mp hy with rfl | hy
      · omega
      · exact h3 y hy
theorem maxL_mem {ns : List Int} (h : ns ≠ []) : maxL ns ∈ ns := by
  cases ns with
  | nil => exact absurd rfl h
  | cons x xs =>
    rcases (foldl_max xs x).1 with e | e
    · show xs.foldl max x ∈ _
      rw [e]; exact List.mem_cons_self ..
    · exact List.mem_cons_of_mem _ e
theorem maxL_le {ns : List Int} {y : Int} (h : y ∈ ns) : y ≤ maxL ns := by
  cases ns with
  | nil => exact nomatch h
  | cons x xs =>
    rcases List.mem_cons.mp h with rfl | h
    · exact (foldl_max xs y).2.1
    · exact (foldl_max xs x).2.2 y h
theorem minL_mem {ns : List Int} (h : ns ≠ []) : minL ns ∈ ns := by
  cases ns with
  | nil => exact absurd rfl h
  | cons x xs =>
    rcases (foldl_min xs x).1 with e | e
    · show xs.foldl min x ∈ _
      rw [e]; exact List.mem_cons_self ..
    · exact List.mem_cons_of_mem _ e
theorem minL_le {ns : List Int} {y : Int} (h : y ∈ ns) : minL ns ≤ y := by
  cases ns with
  | nil => exact nomatch h
  | cons x xs =>
    rcases List.mem_cons.mp h with rfl | h
    · exact (foldl_min xs y).2.1
    · exact (foldl_min xs x).2.2 y h
def maxD : List D → Option Val
  | [.int i, .int j] => some (.d (.int (max i j)))
  | [.lst ds] => match intsD ds with
    | some (n :: ns) => some (.d (.int (maxL (n :: ns))))
    | _ => none
  | _ => none
def minD : List D → Option Val
  | [.int i, .int j] => some (.d (.int (min i j)))
  | [.lst ds] => match intsD ds with
    | some (n :: ns) => some (.d (.int (minL (n :: ns))))
    | _ => none
  | _ => none
theorem cs_max : CallS K (fun xs H Q => (∃ i j, xs = [.int i, .int j] ∧ Q (.int (if j > i then j else i)) H) ∨ rMax K xs H Q) maxD := by
  intro F H vs as z Q s ra e q
  unfold maxD at e
  split at e
  · rename_i i j
    cases e
    obtain ⟨v, w, rfl, r, r'⟩ := rep2 ra
    obtain rfl := r.int
    obtain rfl := r'.int
    refine .inl ⟨i, j, rfl, ?_⟩
    rw [show (if j > i then j else i) = max i j by split <;> omega]
    exact vn_int s q
  · rename_i ds
    split at e
    · rename_i n ns hn
      cases e
      obtain ⟨v, rfl, r⟩ := rep1 ra
      obtain ⟨p, xs, rfl, hl, r⟩ := r.lst
      rw [intsD_ok hn] at r
      obtain rfl := r.intsV
      refine .inr ⟨p, _, rfl, .of hl, by simp, fun m h1 h2 => ?_⟩
      have e1 : m = maxL (n :: ns) := Int.le_antisymm (maxL_le h1) (h2 _ (maxL_mem (by simp)))
      rw [e1]
      exact vn_int s q
    · cases e
  · cases e
theorem cs_min : CallS K (fun xs H Q => (∃ i j, xs = [.int i, .int j] ∧ Q (.int (if j < i then j else i)) H) ∨ rMin K xs H Q) minD := by
  intro F H vs as z Q s ra e q
  unfold minD at e
  split at e
  · rename_i i j
    cases e
    obtain ⟨v, w, rfl, r, r'⟩ := rep2 ra
    obtain rfl := r.int
    obtain rfl := r'.int
    refine .inl ⟨i, j, rfl, ?_⟩
    rw [show (if j < i then j else i) = min i j by split <;> omega]
    exact vn_int s q
  · rename_i ds
    split at e
    · rename_i n ns hn
      cases e
      obtain ⟨v, rfl, r⟩ := rep1 ra
      obtain ⟨p, xs, rfl, hl, r⟩ := r.lst
      rw [intsD_ok hn] at r
      obtain rfl := r.intsV
      refine .inr ⟨p, _, rfl, .of hl, by simp, fun m h1 h2 => ?_⟩
      have e1 : m = minL (n :: ns) := Int.le_antisymm (h2 _ (minL_mem (by simp))) (minL_le h1)
      rw [e1]
      exact vn_int s q
    · cases e
  · cases e
def sumD : List D → Option Val
  | [.lst ds] => (intsD ds).map fun ns => .d (.int ns.sum)
  | _ => none
def allD : List D → Option Val
  | [.lst ds] => (blsD ds).map fun ns => .d (.bl (ns.all id))
  | _ => none
def anyD : List D → Option Val
  | [.lst ds] => (blsD ds).map fun ns => .d (.bl (ns.any id))
  | _ => none
theorem cs_all : CallS K (rAll K) allD := by
  intro F H vs as z Q s ra e q
  unfold allD at e
  split at e
  · rename_i ds
    cases hn : blsD ds with
    | none => rw [hn] at e; cases e
    | some ns =>
      rw [hn] at e
      cases e
      obtain ⟨v, rfl, r⟩ := rep1 ra
      obtain ⟨p, xs, rfl, hl, r⟩ := r.lst
      rw [blsD_ok hn] at r
      obtain rfl := r.blsV
      exact ⟨p, ns, rfl, .of hl, vn_bl s q⟩
  · cases e
def intD : List D → Option Val
  | [.int i] => some (.d (.int i))
  | [.bl b] => some (.d (.int (if b then 1 else 0)))
  | _ => none
theorem cs_int : CallS K (fun xs H Q => (∃ i, xs = [.int i] ∧ Q (.int i) H) ∨ ∃ k, xs = [.bl k] ∧ Q (.int (if k then 1 else 0)) H) intD := by
  intro F H vs as z Q s ra e q
  unfold intD at e
  split at e
  · cases e
    obtain ⟨v, rfl, r⟩ := rep1 ra
    obtain rfl := r.int
    exact .inl ⟨_, rfl, vn_int s q⟩
  · cases e
    obtain ⟨v, rfl, r⟩ := rep1 ra
    obtain rfl := r.bl
    exact .inr ⟨_, rfl, vn_int s q⟩
  · cases e
/-! ### sequences -/
def tupleD : List D → Option Val
  | [.lst xs] => some (.d (.tup xs))
  | [.tup xs] => some (.d (.tup xs))
  | _ => none
theorem cs_tuple : CallS K (fun xs H Q => ∃ p ys, xs = [.ref p] ∧ ((SqL K H p ys ∧ ∀ l, H l = none → Q (.ref l) (upd H l (.tup ys))) ∨ (SqT K H p ys ∧ Q (.ref p) H))) tupleD := by
  intro F H vs as z Q s ra e q
  unfold tupleD at e
  split at e
  · cases e
    obtain ⟨v, rfl, r⟩ := rep1 ra
    obtain ⟨p, xs, rfl, hl, r⟩ := r.lst
    exact ⟨p, xs, rfl, .inl ⟨.of hl, fun l n => vn_tup s q r n⟩⟩
  · cases e
    obtain ⟨v, rfl, r⟩ := rep1 ra
    have r' : Rep K F v (.tup _) := r
    obtain ⟨p, xs, rfl, hl, r⟩ := r.tup s
    exact ⟨p, xs, rfl, .inr ⟨hl, vn_d s q r'⟩⟩
  · cases e
def listD : List D → Option Val
  | [.lst xs] => some (.fr (.lst xs))
  | [.tup xs] => some (.fr (.lst xs))
  | _ => none
theorem cs_list : CallS K (fun xs H Q => ∃ p ys, xs = [.ref p] ∧ (SqL K H p ys ∨ SqT K H p ys) ∧ ∀ l, H l = none → Q (.ref l) (upd H l (.lst ys))) listD := by
  intro F H vs as z Q s ra e q
  unfold listD at e
  split at e
  · cases e
    obtain ⟨v, rfl, r⟩ := rep1 ra
    obtain ⟨p, xs, rfl, hl, r⟩ := r.lst
    exact ⟨p, xs, rfl, .inl (.of hl), fun l n => vn_lst s q r n⟩
  · cases e
    obtain ⟨v, rfl, r⟩ := rep1 ra
    obtain ⟨p, xs, rfl, hl, r⟩ := r.tup s
    exact ⟨p, xs, rfl, .inr hl, fun l n => vn_lst s q r n⟩
  · cases e
end
end
end DL
/-! DL7: statements. -/
namespace DL
open PySem PySem.Spec PyProof.Rows L2
variable [TabT]
inductive RS where
  | nx (ρ : DEnv) | rt (x : Val) (ρ : DEnv) | bk (ρ : DEnv) | ct (ρ : DEnv) | ex (x : Ex) (ρ : DEnv) | bad
abbrev SM := DEnv → RS
def R.bindS {α : Type} (r : R α) (g : α → DEnv → RS) : RS := match r with
  | .ok a ρ => g a ρ
  | .ex x ρ => .ex x ρ
  | .bad => .bad
def OutS (K : PySem.W.Frag) (mg : Str → Option Value) (W : WX) (σ : L2.St) (ρ : DEnv) (F H : Hp) (r : RS) (D : Ends) : Prop :=
  match r with
  | .nx ρ' => ∀ σ' F' H', SR K F' H' σ' ρ' → Ev σ ρ F H σ' ρ' F' H' → D.nx σ' H'
  | .bk ρ' => ∀ σ' F' H', SR K F' H' σ' ρ' → Ev σ ρ F H σ' ρ' F' H' → D.bk σ' H'
  | .ct ρ' => ∀ σ' F' H', SR K F' H' σ' ρ' → Ev σ ρ F H σ' ρ' F' H' → D.ct σ' H'
  | .rt x ρ' => ∀ v σ' F' H', SR K F' H' σ' ρ' → Ev σ ρ F H σ' ρ' F' H' → VR K σ' H F' H' ρ' v x → D.rt v H'
  | .ex x ρ' => ∀ cls dd σ' F' H', SR K F' H' σ' ρ' → Ev σ ρ F H σ' ρ' F' H' → XR K mg F' x cls dd → W cls dd σ' H'
  | .bad => False
def tS (K : PySem.W.Frag) (mg : Str → Option Value) (W : WX) (g : SM) : TS := fun D σ H => ∃ F ρ, SR K F H σ ρ ∧ OutS K mg W σ ρ F H (g ρ) D
def DS (X : Cx) (W : WX) (st : Stmt) (g : SM) : Prop := PS X st (tS X.K X.mg W g)
def DSs (X : Cx) (W : WX) (st : List Stmt) (g : SM) : Prop := PSs X st (tS X.K X.mg W g)
theorem ps_conseq {X : Cx} {st : Stmt} {t t' : TS} (h : PS X st t) (c : ∀ D σ H, t' D σ H → t D σ H) : PS X st t' := ⟨fun pins s σ H D I q => h.run pins s σ H D I (c _ _ _ q)⟩
theorem pss_conseq {X : Cx} {st : List Stmt} {t t' : TS} (h : PSs X st t) (c : ∀ D σ H, t' D σ H → t D σ H) : PSs X st t' := ⟨fun pins s σ H D I q => h.run pins s σ H D I (c _ _ _ q)⟩
section
variable {K : PySem.W.Frag} {mg : Str → Option Value} {W : WX} {σ σ1 : L2.St} {ρ ρ1 : DEnv} {F H F1 H1 : Hp}
theorem OutS.from {r : RS} {D : Ends} (h : OutS K mg W σ ρ F H r D) (ev : Ev σ ρ F H σ1 ρ1 F1 H1) : OutS K mg W σ1 ρ1 F1 H1 r D := by
  cases r with
  | nx ρ' => exact fun σ' F' H' s e => h σ' F' H' s (ev.trans e)
  | bk ρ' => exact fun σ' F' H' s e => h σ' F' H' s (ev.trans e)
  | ct ρ' => exact fun σ' F' H' s e => h σ' F' H' s (ev.trans e)
  | rt x ρ' => exact fun v σ' F' H' s e r => h v σ' F' H' s (ev.trans e) (r.base ev.dom)
  | ex x ρ' => exact fun c d σ' F' H' s e r => h c d σ' F' H' s (ev.trans e) r
  | bad => exact h
/-- an expression's outcome, then a statement's -/
theorem Out.bindS {α β : Type} {rel : RelT β α} {r : R α} {g : α → DEnv → RS} {D : Ends} (h : OutS K mg W σ ρ F H (r.bindS g) D) :
    Out K mg (fun c d H => W c d σ H) rel σ ρ F H r (fun v H1 => ∃ x F1 ρ1, r = .ok x ρ1 ∧ SR K F1 H1 σ ρ1 ∧ Ev σ ρ F H σ ρ1 F1 H1 ∧ rel H F1 H1 ρ1 v x ∧ OutS K mg W σ ρ F H (g x ρ1) D) := by
  cases r with
  | ok x ρ' => exact fun v F' H' s e r => ⟨x, F', ρ', rfl, s, e, r, h⟩
  | ex x ρ' => exact fun c d F' H' s e r => h c d σ F' H' s e r
  | bad => exact h
end
section
variable {X : Cx} {W : WX} {e c : Expr} {f : EM} {t : M Bool} {st : Stmt} {sts sts' : List Stmt} {g h : SM} {pos : Pos}
def sSkip : SM := .nx
def sSeq (g h : SM) : SM := fun ρ => match g ρ with
  | .nx ρ' => h ρ'
  | r => r
theorem ds_nil : DSs X W [] sSkip := pss_conseq pss_nil fun D σ H ⟨F, ρ, sr, q⟩ => q σ F H sr .refl
theorem ds_cons (h1 : DS X W st g) (h2 : DSs X W sts h) : DSs X W (st :: sts) (sSeq g h) := pss_conseq (pss_cons h1 h2) fun D σ H hq => by
  obtain ⟨F, ρ, sr, q⟩ := hq
  refine ⟨F, ρ, sr, ?_⟩
  unfold sSeq at q
  cases hg : g ρ with
  | nx ρ' => rw [hg] at q; exact fun σ' F' H' s ev => ⟨F', ρ', s, q.from ev⟩
  | rt x ρ' => rw [hg] at q; exact q
  | bk ρ' => rw [hg] at q; exact q
  | ct ρ' => rw [hg] at q; exact q
  | ex x ρ' => rw [hg] at q; exact q
  | bad => rw [hg] at q; exact q
theorem ds_one (h1 : DS X W st g) : DSs X W [st] g := pss_conseq (pss_one h1) fun D σ H hq => hq
def sBreak : SM := .bk
def sCont : SM := .ct
def sDrop (f : EM) : SM := fun ρ => (f ρ).bindS fun _ ρ1 => .nx ρ1
theorem ds_expr (he : DE X W e f) (hs : swapsWith e none pos.line X.env = pure false := by rfl) : DS X W (.Expr e pos) (sDrop f) := ps_conseq (ps_expr he hs) fun D σ H hq => by
  obtain ⟨F, ρ, sr, q⟩ := hq
  refine ⟨F, ρ, sr, (Out.bindS (rel := relV X.K σ) q).mono fun v H1 ⟨x, F1, ρ1, e1, s1, ev1, r1, o1⟩ => o1 σ F1 H1 s1 ev1⟩
def sRet (f : EM) : SM := fun ρ => (f ρ).bindS fun x ρ1 => .rt x ρ1
theorem ds_ret (he : DE X W e f) : DS X W (.Return (some e) pos) (sRet f) := ps_conseq (ps_ret he) fun D σ H hq => by
  obtain ⟨F, ρ, sr, q⟩ := hq
  exact ⟨F, ρ, sr, (Out.bindS (rel := relV X.K σ) q).mono fun v H1 ⟨x, F1, ρ1, e1, s1, ev1, r1, o1⟩ => o1 v σ F1 H1 s1 ev1 r1⟩
def sRetN : SM := fun ρ => .rt (.d .non) ρ
def sIf (t : M Bool) (g h : SM) : SM := fun ρ => (t ρ).bindS fun b ρ1 => if b = true then g ρ1 else h ρ1
theorem ds_if (hc : DT X W c t) (h1 : DSs X W sts g) (h2 : DSs X W sts' h) : DS X W (.If c sts sts' pos) (sIf t g h) := ps_conseq (ps_if hc h1 h2) fun D σ H hq => by
  obtain ⟨F, ρ, sr, q⟩ := hq
  refine ⟨F, ρ, sr, (Out.bindS (rel := relB) q).mono fun v H1 ⟨x, F1, ρ1, e1, s1, ev1, r1, o1⟩ => ?_⟩
  have r1 : v = x := r1
  subst r1
  have o2 := o1.from ev1
  cases v with
  | true => exact ⟨F1, ρ1, s1, o2⟩
  | false => exact ⟨F1, ρ1, s1, o2⟩
/-! ### names stored -/
def put (i : Nat) (s : Slot) (ρ : DEnv) : RS := match ρ[i]? with
  | some .un => .nx (ρ.set i s)
  | some (.d _) => .nx (ρ.set i s)
  | some (.ow _ .own) => .nx (ρ.set i s)
  | _ => .bad
def asgV (i : Nat) (x : Val) : SM := fun ρ => match x with
  | .fr c => put i (.ow c .own) ρ
  | x => (x.fz ρ).bindS fun y ρ1 => match y with
    | .d d => put i (.d d) ρ1
    | _ => .bad
section
variable {K : PySem.W.Frag} {mg : Str → Option Value} {σ σb : L2.St} {ρ ρb ρ' : DEnv} {Fb Hb F H : Hp} {v : V} {i : Nat}
theorem put_nx {s : Slot} (h : put i s ρ = .nx ρ') : i < ρ.length ∧ ρ' = ρ.set i s ∧ ∀ c m, ρ[i]? = some (.ow c m) → m = .own := by
  unfold put at h
  cases q : ρ[i]? with
  | none => rw [q] at h; cases h
  | some t =>
    have hl : i < ρ.length := by
      rcases Nat.lt_or_ge i ρ.length with z | z
      · exact z
      · rw [List.getElem?_eq_none z] at q; cases q
    rw [q] at h
    cases t with
    | un => cases h; exact ⟨hl, rfl, fun c m e => by cases e⟩
    | d x => cases h; exact ⟨hl, rfl, fun c m e => by cases e⟩
    | ow c m =>
      cases m with
      | own => cases h; exact ⟨hl, rfl, fun c m e => by cases e; rfl⟩
      | bor => cases h
      | lck => cases h
theorem put_cases (s : Slot) (ρ : DEnv) (i : Nat) : put i s ρ = .bad ∨ ∃ ρ', put i s ρ = .nx ρ' := by
  unfold put
  split <;> first | exact .inl rfl | exact .inr ⟨_, rfl⟩
/-- what the store brings: data, or a new object of ours -/
def PutOk (K : PySem.W.Frag) (σ : L2.St) (ρ : DEnv) (Hb F H : Hp) (v : V) : Slot → Prop
  | .un => True
  | .d x => Rep K F v x
  | .ow c m => m = .own ∧ ∃ p, v = .ref p ∧ Hb p = none ∧ F p = none ∧ CRep K F H p c ∧ ¬ Ow σ ρ p
theorem put_ok {s : Slot} (sr : SR K F H σ ρ) (ev : Ev σb ρb Fb Hb σ ρ F H) (ok : PutOk K σ ρ Hb F H v s) (h : put i s ρ = .nx ρ') :
    SR K F H (σ.set i (some v)) ρ' ∧ Ev σb ρb Fb Hb (σ.set i (some v)) ρ' F H := by
  obtain ⟨hl, rfl, hm⟩ := put_nx h
  have hlσ : i < σ.length := by rw [sr.len]; exact hl
  have at_i : (ρ.set i s)[i]? = some s := List.getElem?_set_self hl
  have at_σ : (σ.set i (some v))[i]? = some (some v) := List.getElem?_set_self hlσ
  have ow_of : ∀ {j : Nat} {c : Cont} {m : Md} {a : Addr}, (ρ.set i s)[j]? = some (.ow c m) → (σ.set i (some v))[j]? = some (some (.ref a)) → (j = i ∧ s = .ow c m ∧ v = .ref a) ∨ (j ≠ i ∧ ρ[j]? = some (.ow c m) ∧ σ[j]? = some (some (.ref a))) := fun {j c m a} e1 e2 => by
    by_cases hj : i = j
    · subst hj
      rw [at_i] at e1
      rw [at_σ] at e2
      cases e1; cases e2
      exact .inl ⟨rfl, rfl, rfl⟩
    · rw [List.getElem?_set_ne hj] at e1 e2
      exact .inr ⟨fun z => hj z.symm, e1, e2⟩
  refine ⟨⟨by rw [List.length_set, List.length_set]; exact sr.len, sr.sub, fun j t e => ?_, fun j k c1 m1 c2 m2 a e1 e2 e3 e4 => ?_, sr.tab⟩, ⟨ev.ext, ev.keep, ev.newF, ev.dom, fun j c m e n => ?_, fun a z => ?_, fun a z => ?_⟩⟩
  · by_cases hj : i = j
    · subst hj
      rw [at_i] at e
      cases e
      refine ⟨some v, at_σ, ?_⟩
      cases s with
      | un => trivial
      | d x => exact ⟨v, rfl, ok⟩
      | ow c m =>
        obtain ⟨_, p, rfl, _, nF, cr, _⟩ := ok
        exact ⟨p, rfl, nF, cr⟩
    · rw [List.getElem?_set_ne hj] at e ⊢
      exact sr.slot j t e
  · rcases ow_of e1 e3 with ⟨rfl, e5, rfl⟩ | ⟨n1, f1, f3⟩
    · rcases ow_of e2 e4 with ⟨rfl, _, _⟩ | ⟨n2, f2, f4⟩
      · rfl
      · subst e5
        obtain ⟨_, p, e6, _, _, _, no⟩ := ok
        cases e6
        exact absurd ⟨k, c2, m2, f2, f4⟩ no
    · rcases ow_of e2 e4 with ⟨rfl, e5, rfl⟩ | ⟨n2, f2, f4⟩
      · subst e5
        obtain ⟨_, p, e6, _, _, _, no⟩ := ok
        cases e6
        exact absurd ⟨j, c1, m1, f1, f3⟩ no
      · exact sr.dist j k c1 m1 c2 m2 a f1 f2 f3 f4
  · obtain ⟨z1, c', z2, z3⟩ := ev.bor j c m e n
    have hj : i ≠ j := fun hj => by subst hj; exact n (hm c' m z2)
    rw [List.getElem?_set_ne hj, List.getElem?_set_ne hj]
    exact ⟨z1, c', z2, z3⟩
  · obtain ⟨j, c, m, e1, e2⟩ := z
    rcases ow_of e1 e2 with ⟨rfl, e5, rfl⟩ | ⟨n1, f1, f3⟩
    · subst e5
      obtain ⟨_, p, e6, nb, _⟩ := ok
      cases e6
      exact .inl nb
    · exact ev.own' a ⟨j, c, m, f1, f3⟩
  · obtain ⟨j, c, m, e1, hm', e2⟩ := z
    rcases ow_of e1 e2 with ⟨rfl, e5, rfl⟩ | ⟨n1, f1, f3⟩
    · subst e5
      obtain ⟨_, p, e6, nb, _⟩ := ok
      cases e6
      exact .inl nb
    · exact ev.mt' a ⟨j, c, m, f1, hm', f3⟩
/-- a store of a value: the outcome at the new slots -/
theorem asg_ok {W : WX} {x : Val} {D : Ends} (sr : SR K F H σ ρ) (ev : Ev σb ρb Fb Hb σ ρ F H) (r : VR K σ Hb F H ρ v x) (h : OutS K mg W σb ρb Fb Hb (asgV i x ρ) D) : ∃ ρ', asgV i x ρ = .nx ρ' ∧ ∃ F', SR K F' H (σ.set i (some v)) ρ' ∧ Ev σb ρb Fb Hb (σ.set i (some v)) ρ' F' H := by
  have frz : ∀ {y : Val} {ρ1 : DEnv}, x.fz ρ = .ok y ρ1 → OutS K mg W σb ρb Fb Hb (match y with | .d d => put i (.d d) ρ1 | _ => .bad) D → ∃ ρ', (match y with | .d d => put i (.d d) ρ1 | _ => RS.bad) = .nx ρ' ∧ ∃ F', SR K F' H (σ.set i (some v)) ρ' ∧ Ev σb ρb Fb Hb (σ.set i (some v)) ρ' F' H := fun {y ρ1} e o => by
    obtain ⟨F2, d, rfl, s2, ev2, r2⟩ := fz_ok sr ev r e
    dsimp only at o ⊢
    rcases put_cases (.d d) ρ1 i with q | ⟨ρ', q⟩
    · rw [q] at o; exact o.elim
    · refine ⟨ρ', q, F2, ?_⟩
      exact put_ok s2 ev2 (s := .d d) r2 q
  cases x with
  | fr c =>
    unfold asgV at h ⊢
    dsimp only at h ⊢
    obtain ⟨p, e, nb, nF, cr, no⟩ := r
    rcases put_cases (.ow c .own) ρ i with q | ⟨ρ', q⟩
    · rw [q] at h; exact h.elim
    · exact ⟨ρ', q, F, put_ok sr ev (s := .ow c .own) ⟨rfl, p, e, nb, nF, cr, no⟩ q⟩
  | d d =>
    unfold asgV at h ⊢
    exact frz (y := .d d) rfl h
  | sl j =>
    unfold asgV at h ⊢
    dsimp only at h ⊢
    cases hz : (Val.sl j).fz ρ with
    | bad => rw [hz] at h; exact h.elim
    | ex z ρ2 =>
      exfalso
      unfold Val.fz at hz
      dsimp only at hz
      split at hz <;> cases hz
    | ok y ρ1 =>
      rw [hz] at h
      exact frz hz h
end
def sAsg (i : Nat) (f : EM) : SM := fun ρ => (f ρ).bindS fun x ρ1 => asgV i x ρ1
theorem ds_asg (i : Nat) {x : Str} {pos' : Pos} (hN : X.N.Nodup) (he : DE X W e f) (hi : X.N[i]? = some x := by rfl) (hx : Loc X.env.scope x := by first | exact .inl rfl | exact .inr rfl) (hs : swapsWith e (some (.Name x pos')) pos.line X.env = pure false := by rfl) (hf : X.fn x = true ∨ X.env.scope.names.lookup x = some .local := by first | exact .inl rfl | exact .inr rfl) :
    DS X W (.Assign [.Name x pos'] e pos) (sAsg i f) := ps_conseq (ps_set hN hi hx he hs hf) fun D σ H hq => by
  obtain ⟨F, ρ, sr, q⟩ := hq
  refine ⟨F, ρ, sr, (Out.bindS (rel := relV X.K σ) q).mono fun v H1 ⟨x, F1, ρ1, e1, s1, ev1, r1, o1⟩ => ?_⟩
  obtain ⟨ρ', e2, F2, s2, ev2⟩ := asg_ok s1 ev1 r1 o1
  rw [e2] at o1
  exact o1 _ F2 H1 s2 ev2
/-! ### targets -/
/-- σ' is as σ but for the slots of S -/
def Off (S : List Nat) (σ σ' : L2.St) : Prop := σ'.length = σ.length ∧ ∀ j, j ∉ S → σ'[j]? = σ[j]?
theorem Off.refl {S : List Nat} {σ : L2.St} : Off S σ σ := ⟨rfl, fun _ _ => rfl⟩
theorem Off.trans {S T : List Nat} {σ σ1 σ2 : L2.St} (a : Off S σ σ1) (b : Off T σ1 σ2) : Off (S ++ T) σ σ2 := ⟨b.1.trans a.1, fun j h => by
  rw [List.mem_append, not_or] at h
  exact (b.2 j h.2).trans (a.2 j h.1)⟩
def OutN (K : PySem.W.Frag) (S : List Nat) (σ σb : L2.St) (ρb : DEnv) (Fb Hb : Hp) (r : RS) (Q : L2.St → Hp → Prop) : Prop := match r with
  | .nx ρ' => ∀ σ' F' H', SR K F' H' σ' ρ' → Ev σb ρb Fb Hb σ' ρ' F' H' → Off S σ σ' → Q σ' H'
  | _ => False
def tG (K : PySem.W.Frag) (S : List Nat) (g : Val → SM) : TG := fun v σ H Q => ∃ σb ρb Fb Hb F ρ x, SR K F H σ ρ ∧ Ev σb ρb Fb Hb σ ρ F H ∧ VR K σ Hb F H ρ v x ∧ OutN K S σ σb ρb Fb Hb (g x ρ) Q
def DG (X : Cx) (tg : Expr) (S : List Nat) (g : Val → SM) : Prop := PG X tg (tG X.K S g)
theorem pg_conseq {tg : Expr} {t t' : TG} (h : PG X tg t) (c : ∀ v σ H Q, t' v σ H Q → t v σ H Q) : PG X tg t' := ⟨fun pins s σ H v u Q I r q => h.run pins s σ H v u Q I r (c _ _ _ _ q)⟩
theorem OutN.outS {K : PySem.W.Frag} {mg : Str → Option Value} {S : List Nat} {σ σb : L2.St} {ρb : DEnv} {Fb Hb : Hp} {r : RS} {Q : L2.St → Hp → Prop} (h : OutN K S σ σb ρb Fb Hb r Q) :
    ∃ ρ', r = .nx ρ' ∧ ∀ σ' F' H', SR K F' H' σ' ρ' → Ev σb ρb Fb Hb σ' ρ' F' H' → Off S σ σ' → Q σ' H' := by
  cases r <;> first | exact ⟨_, rfl, h⟩ | exact h.elim
theorem dg_name (i : Nat) {x : Str} (hN : X.N.Nodup) (hi : X.N[i]? = some x := by rfl) (hx : Loc X.env.scope x := by first | exact .inl rfl | exact .inr rfl) (hf : X.fn x = true ∨ X.env.scope.names.lookup x = some .local := by first | exact .inl rfl | exact .inr rfl) : DG X (.Name x pos) [i] (fun x => asgV i x) :=
  pg_conseq (pg_name hN hi hx hf) fun v σ H Q ⟨σb, ρb, Fb, Hb, F, ρ, x, sr, ev, r, q⟩ => by
    dsimp only at q
    obtain ⟨ρ', e1, q1⟩ := q.outS (mg := X.mg)
    obtain ⟨ρ2, e2, F2, s2, ev2⟩ := asg_ok (mg := X.mg) (W := fun _ _ _ _ => True) (D := { nx := fun _ _ => True, rt := fun _ _ => True }) sr ev r (by rw [e1]; exact fun _ _ _ _ _ => trivial)
    rw [e1] at e2
    cases e2
    refine q1 _ F2 H s2 ev2 ⟨List.length_set, fun j h => ?_⟩
    rw [List.getElem?_set_ne]
    exact fun z => h (by simp [z])
end
end DL
/-! DL8: tuple targets, parallel stores, op= at a name. -/
namespace DL
open PySem PySem.Spec PyProof.Rows L2
variable [TabT]
section
variable {X : Cx} {W : WX} {e c : Expr} {es : List Expr} {f : EM} {g : M (List Val)} {st : Stmt} {sts : List Stmt} {pos : Pos}
/-! ### (a, b, ..) as a target -/
def RS.thenS (r : RS) (h : SM) : RS := match r with
  | .nx ρ' => h ρ'
  | r => r
def tGs (K : PySem.W.Frag) (S : List Nat) (g : List D → SM) : TGs := fun vs σ H Q => ∃ σb ρb Fb Hb F ρ ds, SR K F H σ ρ ∧ Ev σb ρb Fb Hb σ ρ F H ∧ RepL K F vs ds ∧ OutN K S σ σb ρb Fb Hb (g ds ρ) Q
def DGs (X : Cx) (tgs : List Expr) (S : List Nat) (g : List D → SM) : Prop := PGs X tgs (tGs X.K S g)
theorem pgs_conseq {tgs : List Expr} {t t' : TGs} (h : PGs X tgs t) (c : ∀ v σ H Q, t' v σ H Q → t v σ H Q) : PGs X tgs t' := ⟨fun pins s σ H v u Q I r q => h.run pins s σ H v u Q I r (c _ _ _ _ q)⟩
def gsNil : List D → SM := fun ds ρ => match ds with
  | [] => .nx ρ
  | _ => .bad
def gsCons (g : Val → SM) (h : List D → SM) : List D → SM := fun ds ρ => match ds with
  | d :: ds => (g (.d d) ρ).thenS (h ds)
  | [] => .bad
theorem dgs_nil : DGs X [] [] gsNil := pgs_conseq pgs_nil fun vs σ H Q hq => by
  obtain ⟨σb, ρb, Fb, Hb, F, ρ, ds, sr, ev, r, q⟩ := hq
  cases r with
  | nil => exact ⟨rfl, q σ F H sr ev .refl⟩
  | cons a b => exact q.elim
theorem dgs_cons {S T : List Nat} {h : List D → SM} {g : Val → SM} {tg : Expr} {tgs : List Expr} (h1 : DG X tg S g) (h2 : DGs X tgs T h) (hs : (assignEach (tg :: tgs) X.env).map (·.2) = assign tg X.env :: (assignEach tgs X.env).map (·.2) := by rfl) : DGs X (tg :: tgs) (S ++ T) (gsCons g h) :=
  pgs_conseq (pgs_cons h1 h2 hs) fun vs σ H Q hq => by
    obtain ⟨σb, ρb, Fb, Hb, F, ρ, ds, sr, ev, r, q⟩ := hq
    cases r with
    | nil => exact q.elim
    | cons a b =>
      rename_i v vs d ds
      refine ⟨v, vs, rfl, σ, ρ, F, H, F, ρ, .d d, sr, .refl, a, ?_⟩
      dsimp only [gsCons] at q
      cases hg : g (.d d) ρ with
      | nx ρ1 =>
        rw [hg] at q
        refine fun σ' F' H' s1 ev1 of1 => ⟨σb, ρb, Fb, Hb, F', ρ1, ds, s1, ev.trans ev1, b.mono (.of ev1.ext), ?_⟩
        obtain ⟨ρ2, e2, q2⟩ := OutN.outS (mg := X.mg) q
        have e3 : h ds ρ1 = .nx ρ2 := e2
        rw [e3]
        exact fun σ2 F2 H2 s2 ev2 of2 => q2 σ2 F2 H2 s2 ev2 (of1.trans of2)
      | rt x ρ' => rw [hg] at q; exact q.elim
      | bk ρ' => rw [hg] at q; exact q.elim
      | ct ρ' => rw [hg] at q; exact q.elim
      | ex x ρ' => rw [hg] at q; exact q.elim
      | bad => rw [hg] at q; exact q.elim
def tupG (n : Nat) (h : List D → SM) : Val → SM := fun x ρ => match x.peek ρ with
  | some (.tup ds) => if ds.length = n then h ds ρ else .bad
  | some (.lst ds) => if ds.length = n then h ds ρ else .bad
  | _ => .bad
theorem pg_or {tg : Expr} {t t' : TG} (h1 : PG X tg t) (h2 : PG X tg t') : PG X tg (fun v σ H Q => t v σ H Q ∨ t' v σ H Q) := ⟨fun pins s σ H v u Q I r hw => hw.elim (h1.run pins s σ H v u Q I r) (h2.run pins s σ H v u Q I r)⟩
theorem dg_tup (n : Nat) {S : List Nat} {h : List D → SM} {tgs : List Expr} {k : Nat} (hc : X.calm = true) (hh : DGs X tgs S h) (hn : (assignEach tgs X.env).length = n := by rfl) (hst : (assignEach tgs X.env).findIdx? (·.1) = none := by rfl) : DG X (.Tuple tgs k pos) S (tupG n h) :=
  pg_conseq (pg_or (pg_tup hc hh hn hst) (pg_unl hc hh hn hst)) fun v σ H Q hq => by
    obtain ⟨σb, ρb, Fb, Hb, F, ρ, x, sr, ev, r, q⟩ := hq
    unfold tupG at q
    cases hx : x.peek ρ with
    | none => rw [hx] at q; exact q.elim
    | some d =>
      rw [hx] at q
      cases d with
      | tup ds =>
        dsimp only at q
        split at q
        · rename_i hl
          have rt := r.peek sr hx
          obtain ⟨a, xs, rfl, hs, rl⟩ := rt.tup sr.sub
          exact .inl ⟨a, xs, rfl, hs, by rw [rl.length]; exact hl, σb, ρb, Fb, Hb, F, ρ, ds, sr, ev, rl, q⟩
        · exact q.elim
      | lst ds =>
        dsimp only at q
        split at q
        · rename_i hl
          have rt := r.peek sr hx
          obtain ⟨a, xs, rfl, hs, rl⟩ := rt.lst
          exact .inr ⟨a, xs, rfl, .of hs, by rw [rl.length]; exact hl, σb, ρb, Fb, Hb, F, ρ, ds, sr, ev, rl, q⟩
        · exact q.elim
      | _ => exact q.elim
/-- target = e, any target -/
def sTgt (f : EM) (g : Val → SM) : SM := fun ρ => (f ρ).bindS g
theorem ds_tgt {tg : Expr} {S : List Nat} {g : Val → SM} (he : DE X W e f) (hg : DG X tg S g) (hg2 : ∀ x ρ, (∃ ρ', g x ρ = .nx ρ') ∨ g x ρ = .bad) (hs : swapsWithSole [tg] e pos.line X.env = pure false := by rfl) (hw : swappedStores [tg] e X.env = pure none := by rfl)
    (h1 : (assignEach [tg] X.env).map (·.2) = [assign tg X.env] := by rfl) : DS X W (.Assign [tg] e pos) (sTgt f g) := ps_conseq (ps_asg he hg hs hw h1) fun D σ H hq => by
  obtain ⟨F, ρ, sr, q⟩ := hq
  refine ⟨F, ρ, sr, (Out.bindS (rel := relV X.K σ) q).mono fun v H1 ⟨x, F1, ρ1, e1, s1, ev1, r1, o1⟩ => ?_⟩
  refine ⟨σ, ρ, F, H, F1, ρ1, x, s1, ev1, r1, ?_⟩
  rcases hg2 x ρ1 with ⟨ρ', h⟩ | h
  · rw [h] at o1 ⊢
    exact fun σ' F' H' s e _ => o1 σ' F' H' s e
  · rw [h] at o1; exact o1.elim
/-- only .nx or .bad -/
def NxG (g : Val → SM) : Prop := ∀ x ρ, (∃ ρ', g x ρ = .nx ρ') ∨ g x ρ = .bad
def NxGs (g : List D → SM) : Prop := ∀ x ρ, (∃ ρ', g x ρ = .nx ρ') ∨ g x ρ = .bad
theorem nx_asgV (i : Nat) : NxG (fun x => asgV i x) := fun x ρ => by
  dsimp only
  unfold asgV
  cases x with
  | fr c => exact (put_cases _ _ _).symm
  | d d => exact (put_cases _ _ _).symm
  | sl j =>
    dsimp only
    cases hz : (Val.sl j).fz ρ with
    | bad => exact .inr rfl
    | ex z ρ2 =>
      exfalso
      unfold Val.fz at hz
      dsimp only at hz
      split at hz <;> cases hz
    | ok y ρ1 =>
      cases y with
      | d d => exact (put_cases _ _ _).symm
      | fr c => exact .inr rfl
      | sl j => exact .inr rfl
theorem nx_gsNil : NxGs gsNil := fun ds ρ => by
  cases ds with
  | nil => exact .inl ⟨ρ, rfl⟩
  | cons d ds => exact .inr rfl
theorem nx_gsCons {g : Val → SM} {h : List D → SM} (hg : NxG g) (hh : NxGs h) : NxGs (gsCons g h) := fun ds ρ => by
  cases ds with
  | nil => exact .inr rfl
  | cons d ds =>
    show (∃ ρ', (g (.d d) ρ).thenS (h ds) = .nx ρ') ∨ (g (.d d) ρ).thenS (h ds) = .bad
    rcases hg (.d d) ρ with ⟨ρ', e⟩ | e
    · rw [e]; exact hh ds ρ'
    · rw [e]; exact .inr rfl
theorem nx_tupG {n : Nat} {h : List D → SM} (hh : NxGs h) : NxG (tupG n h) := fun x ρ => by
  unfold tupG
  split
  · split
    · exact hh _ ρ
    · exact .inr rfl
  · split
    · exact hh _ ρ
    · exact .inr rfl
  · exact .inr rfl
/-! ### a, b = e1, e2 -/
/-- a slot's object is frozen, a fresh one stays fresh -/
def nsl (f : EM) : EM := fun ρ => (f ρ).bind fun x ρ1 => match x with
  | .sl i => Val.fz (.sl i) ρ1
  | x => .ok x ρ1
theorem de_nsl (H : DE X W e f) : DE X W e (nsl f) := by
  refine pe_conseq H fun σ H Q hq => ?_
  obtain ⟨F, ρ, sr, q⟩ := hq
  refine ⟨F, ρ, sr, (Out.bind (rel := relV X.K σ) q).mono fun v H1 h1 => ?_⟩
  obtain ⟨x, F1, ρ1, e1, s1, ev1, r1, o1⟩ := h1
  cases x with
  | d x => exact o1 v F1 H1 s1 ev1 r1
  | fr c => exact o1 v F1 H1 s1 ev1 r1
  | sl i =>
    dsimp only at o1
    cases hx : (Val.sl i).fz ρ1 with
    | bad => rw [hx] at o1; exact o1.elim
    | ex z ρ2 =>
      exfalso
      unfold Val.fz at hx
      dsimp only at hx
      split at hx <;> cases hx
    | ok y ρ2 =>
      rw [hx] at o1
      obtain ⟨F2, d, rfl, s2, ev2, r2⟩ := fz_ok s1 ev1 r1 hx
      exact o1 v F2 H1 s2 ev2 r2
def asgs : List Nat → List Val → SM
  | [], [] => .nx
  | i :: is, .d d :: xs => fun ρ => (put i (.d d) ρ).thenS (asgs is xs)
  | i :: is, .fr c :: xs => fun ρ => (put i (.ow c .own) ρ).thenS (asgs is xs)
  | _, _ => fun _ => .bad
def setAll (σ : L2.St) : List Nat → List V → L2.St
  | i :: is, v :: vs => setAll (σ.set i (some v)) is vs
  | _, _ => σ
theorem ow_set {σ : L2.St} {ρ : DEnv} {i : Nat} {v : V} {s : Slot} {a : Addr} (h : Ow (σ.set i (some v)) (ρ.set i s) a) : Ow σ ρ a ∨ ((∃ c m, s = .ow c m) ∧ v = .ref a) := by
  obtain ⟨j, c, m, e1, e2⟩ := h
  by_cases hj : i = j
  · subst hj
    have l1 : i < ρ.length := by
      rcases Nat.lt_or_ge i (ρ.set i s).length with z | z
      · simpa using z
      · rw [List.getElem?_eq_none z] at e1; cases e1
    have l2 : i < σ.length := by
      rcases Nat.lt_or_ge i (σ.set i (some v)).length with z | z
      · simpa using z
      · rw [List.getElem?_eq_none z] at e2; cases e2
    rw [List.getElem?_set_self l1] at e1
    rw [List.getElem?_set_self l2] at e2
    cases e1; cases e2
    exact .inr ⟨⟨c, m, rfl⟩, rfl⟩
  · rw [List.getElem?_set_ne hj] at e1 e2
    exact .inl ⟨j, c, m, e1, e2⟩
theorem asgs_ok {K : PySem.W.Frag} {mg : Str → Option Value} {σb : L2.St} {ρb : DEnv} {Fb Hb F H : Hp} {D : Ends} : ∀ {is : List Nat} {xs : List Val} {vs : List V} {σ : L2.St} {ρ : DEnv}, SR K F H σ ρ → Ev σb ρb Fb Hb σ ρ F H → VRL K σ Hb F H ρ vs xs →
    OutS K mg W σb ρb Fb Hb (asgs is xs ρ) D → ∃ ρ', asgs is xs ρ = .nx ρ' ∧ SR K F H (setAll σ is vs) ρ' ∧ Ev σb ρb Fb Hb (setAll σ is vs) ρ' F H
  | [], [], [], σ, ρ, sr, ev, r, o => ⟨ρ, rfl, sr, ev⟩
  | [], _ :: _, _, σ, ρ, sr, ev, r, o => o.elim
  | _ :: _, [], _, σ, ρ, sr, ev, r, o => o.elim
  | i :: is, x :: xs, v :: vs, σ, ρ, sr, ev, r, o => by
    have rx : VR K σ Hb F H ρ v x := paired_get (i := 0) r.all rfl rfl
    have rest : ∀ {s : Slot} {ρ1 : DEnv}, put i s ρ = .nx ρ1 → (∀ c m, s = .ow c m → x = .fr c) → VRL K (σ.set i (some v)) Hb F H ρ1 vs xs ∨ ∃ j, .sl j ∈ xs := fun {s ρ1} hp hs => by
      obtain ⟨hl, rfl, hm⟩ := put_nx hp
      by_cases hj : ∃ j, Val.sl j ∈ xs
      · exact .inr hj
      · left
        have all : Paired (VR K σ Hb F H ρ) vs xs := by cases r.all; assumption
        have key : ∀ (k : Nat) (c : Cont) (p : Addr), xs[k]? = some (.fr c) → vs[k]? = some (.ref p) → Ow (σ.set i (some v)) (ρ.set i s) p → Ow σ ρ p := fun k c p e1 e2 z => by
          rcases ow_set z with z | ⟨⟨c', m, e3⟩, e4⟩
          · exact z
          · exact absurd (r.frs 0 (k + 1) c' c p (by simp [hs c' m e3]) (by simpa using e1) (by simp [e4]) (by simpa using e2)) (by omega)
        refine ⟨?_, fun j k c c' p h1 h2 h3 h4 => by have := r.frs (j + 1) (k + 1) c c' p (by simpa using h1) (by simpa using h2) (by simpa using h3) (by simpa using h4); omega⟩
        have go : ∀ {vs' : List V} {xs' : List Val}, Paired (VR K σ Hb F H ρ) vs' xs' → (¬ ∃ j, Val.sl j ∈ xs') → (∀ (k : Nat) (c : Cont) (p : Addr), xs'[k]? = some (.fr c) → vs'[k]? = some (.ref p) → Ow (σ.set i (some v)) (ρ.set i s) p → Ow σ ρ p) → Paired (VR K (σ.set i (some v)) Hb F H (ρ.set i s)) vs' xs' := by
          intro vs' xs' h
          induction h with
          | nil => intro _ _; exact .nil
          | @cons a b l m hab t ih =>
            intro nj k
            refine .cons ?_ (ih (fun ⟨j, hj⟩ => nj ⟨j, List.mem_cons_of_mem _ hj⟩) fun n c p e1 e2 => k (n + 1) c p (by simpa using e1) (by simpa using e2))
            cases b with
            | d x => exact hab
            | sl j => exact absurd ⟨j, List.mem_cons_self ..⟩ nj
            | fr c =>
              obtain ⟨p, e, nb, nF, cr, no⟩ := hab
              exact ⟨p, e, nb, nF, cr, fun z => no (k 0 c p rfl (by simp [e]) z)⟩
        exact go all hj key
    have nosl : ∀ {is : List Nat} {xs : List Val} {ρ : DEnv} {D : Ends}, (∃ j, Val.sl j ∈ xs) → ¬ OutS K mg W σb ρb Fb Hb (asgs is xs ρ) D := by
      intro is
      induction is with
      | nil => intro xs ρ D ⟨j, hj⟩ o; cases xs with
        | nil => exact nomatch hj
        | cons x xs => exact o
      | cons i is ih =>
        intro xs ρ D ⟨j, hj⟩ o
        cases xs with
        | nil => exact nomatch hj
        | cons x xs =>
          cases x with
          | sl k => exact o
          | d d =>
            have hj : Val.sl j ∈ xs := by rcases List.mem_cons.mp hj with e | e; cases e; exact e
            dsimp only [asgs] at o
            rcases put_cases (.d d) ρ i with q | ⟨ρ', q⟩
            · rw [q] at o; exact o
            · rw [q] at o; exact ih ⟨j, hj⟩ o
          | fr c =>
            have hj : Val.sl j ∈ xs := by rcases List.mem_cons.mp hj with e | e; cases e; exact e
            dsimp only [asgs] at o
            rcases put_cases (.ow c .own) ρ i with q | ⟨ρ', q⟩
            · rw [q] at o; exact o
            · rw [q] at o; exact ih ⟨j, hj⟩ o
    cases x with
    | sl j => exact o.elim
    | d d =>
      dsimp only [asgs] at o ⊢
      rcases put_cases (.d d) ρ i with q | ⟨ρ1, q⟩
      · rw [q] at o; exact o.elim
      · rw [q] at o ⊢
        obtain ⟨s1, ev1⟩ := put_ok sr ev (s := .d d) rx q
        rcases rest q (fun c m e => by cases e) with r1 | hj
        · exact asgs_ok s1 ev1 r1 o
        · exact absurd o (nosl hj)
    | fr c =>
      dsimp only [asgs] at o ⊢
      rcases put_cases (.ow c .own) ρ i with q | ⟨ρ1, q⟩
      · rw [q] at o; exact o.elim
      · rw [q] at o ⊢
        obtain ⟨p, e, nb, nF, cr, no⟩ := rx
        obtain ⟨s1, ev1⟩ := put_ok sr ev (s := .ow c .own) ⟨rfl, p, e, nb, nF, cr, no⟩ q
        rcases rest q (fun c m e => by cases e; rfl) with r1 | hj
        · exact asgs_ok s1 ev1 r1 o
        · exact absurd o (nosl hj)
def sPar (is : List Nat) (g : M (List Val)) : SM := fun ρ => (g ρ).bindS fun xs ρ1 => asgs is xs ρ1
theorem par_ok {is : List Nat} {D : Ends} {σ : L2.St} {H : Hp} (hq : tS X.K X.mg W (sPar is g) D σ H) : tA X.K X.mg W g σ H fun vs H1 => vs.length = is.length ∧ D.nx (setAll σ is vs) H1 ∧ ∀ p, H1 p = none → ∀ o, D.nx (setAll σ is vs) (upd H1 p o) := by
  obtain ⟨F, ρ, sr, q⟩ := hq
  refine ⟨F, ρ, sr, (Out.bindS (rel := relL X.K σ) q).mono fun vs H1 ⟨xs, F1, ρ1, e1, s1, ev1, r1, o1⟩ => ?_⟩
  obtain ⟨ρ', e2, s2, ev2⟩ := asgs_ok s1 ev1 r1 o1
  have hl : ∀ {is : List Nat} {xs : List Val} {ρ ρ' : DEnv}, asgs is xs ρ = .nx ρ' → is.length = xs.length := by
    intro is
    induction is with
    | nil => intro xs ρ ρ' h; cases xs with
      | nil => rfl
      | cons x xs => cases h
    | cons i is ih =>
      intro xs ρ ρ' h
      cases xs with
      | nil => cases h
      | cons x xs =>
        cases x with
        | sl k => cases h
        | d d =>
          dsimp only [asgs] at h
          rcases put_cases (.d d) ρ i with q | ⟨ρ2, q⟩
          · rw [q] at h; cases h
          · rw [q] at h; exact congrArg (· + 1) (ih h)
        | fr c =>
          dsimp only [asgs] at h
          rcases put_cases (.ow c .own) ρ i with q | ⟨ρ2, q⟩
          · rw [q] at h; cases h
          · rw [q] at h; exact congrArg (· + 1) (ih h)
  rw [e2] at o1
  refine ⟨by rw [hl e2]; exact r1.all.length, o1 _ F1 H1 s2 ev2, fun p n o => ?_⟩
  have g := Gr.fresh (o := o) s2.sub n
  exact o1 _ F1 _ (g.sr s2) (ev2.trans g.ev)
/-- plain local names: stored from the right -/
theorem ds_par2 (i j : Nat) {x y : Str} {a b : Expr} {px py pt : Pos} {kt k2 pt2} (hc : X.calm = true) (hN : X.N.Nodup) (ha : DA X W [a, b] g) (hi : X.N[i]? = some x := by rfl) (hj : X.N[j]? = some y := by rfl) (hij : i ≠ j := by decide)
    (hx : X.env.scope.names.lookup x = some .local := by rfl) (hy : X.env.scope.names.lookup y = some .local := by rfl)
    (hw : swappedStores [.Tuple [.Name x px, .Name y py] kt pt] (.Tuple [a, b] k2 pt2) X.env = pure (some [x, y]) := by rfl)
    (hs : swapsWithSole [.Tuple [.Name x px, .Name y py] kt pt] (.Tuple [a, b] k2 pt2) pos.line X.env = pure false := by rfl) :
    DS X W (.Assign [.Tuple [.Name x px, .Name y py] kt pt] (.Tuple [a, b] k2 pt2) pos) (sPar [i, j] g) :=
  ps_conseq (ps_par hc hN hi hj hij hx hy ha hw hs) fun D σ H hq => by
    obtain ⟨F, ρ, sr, q⟩ := par_ok hq
    refine ⟨F, ρ, sr, q.mono fun vs H1 ⟨hl, n1, n2⟩ => ?_⟩
    match vs, hl, n1 with
    | [v, w], _, n1 => exact ⟨v, w, rfl, n1⟩
theorem ds_par3 (i j l : Nat) {x y z : Str} {a b c : Expr} {px py pz pt : Pos} {kt k2 pt2} (hc : X.calm = true) (hN : X.N.Nodup) (ha : DA X W [a, b, c] g) (hi : X.N[i]? = some x := by rfl) (hj : X.N[j]? = some y := by rfl) (hl : X.N[l]? = some z := by rfl) (hij : i ≠ j := by decide) (hil : i ≠ l := by decide) (hjl : j ≠ l := by decide)
    (hx : X.env.scope.names.lookup x = some .local := by rfl) (hy : X.env.scope.names.lookup y = some .local := by rfl) (hz : X.env.scope.names.lookup z = some .local := by rfl)
    (hw : swappedStores [.Tuple [.Name x px, .Name y py, .Name z pz] kt pt] (.Tuple [a, b, c] k2 pt2) X.env = pure (some [x, y, z]) := by rfl)
    (hs : swapsWithSole [.Tuple [.Name x px, .Name y py, .Name z pz] kt pt] (.Tuple [a, b, c] k2 pt2) pos.line X.env = pure false := by rfl) :
    DS X W (.Assign [.Tuple [.Name x px, .Name y py, .Name z pz] kt pt] (.Tuple [a, b, c] k2 pt2) pos) (sPar [i, j, l] g) :=
  ps_conseq (ps_par3 hc hN hi hj hl hij hil hjl hx hy hz ha hw hs) fun D σ H hq => by
    obtain ⟨F, ρ, sr, q⟩ := par_ok hq
    refine ⟨F, ρ, sr, q.mono fun vs H1 ⟨hl, n1, n2⟩ => ?_⟩
    match vs, hl, n1 with
    | [v, w, u], _, n1 => exact ⟨v, w, u, rfl, n1⟩
/-- through a tuple: some name is a cell, or the values are written constants -/
theorem ds_parT2 (i j : Nat) {x y : Str} {px py pt : Pos} {kt k2 pt2} (hc : X.calm = true) (hN : X.N.Nodup) (ha : DA X W es g) (hi : X.N[i]? = some x := by rfl) (hj : X.N[j]? = some y := by rfl)
    (hx : Loc X.env.scope x := by first | exact .inl rfl | exact .inr rfl) (hy : Loc X.env.scope y := by first | exact .inl rfl | exact .inr rfl) (hf : X.fn x = true ∨ X.env.scope.names.lookup x = some .local := by first | exact .inl rfl | exact .inr rfl) (hf2 : X.fn y = true ∨ X.env.scope.names.lookup y = some .local := by first | exact .inl rfl | exact .inr rfl)
    (hs : swapsWithSole [.Tuple [.Name x px, .Name y py] kt pt] (.Tuple es k2 pt2) pos.line X.env = pure false := by rfl) (hw : swappedStores [.Tuple [.Name x px, .Name y py] kt pt] (.Tuple es k2 pt2) X.env = pure none := by rfl) :
    DS X W (.Assign [.Tuple [.Name x px, .Name y py] kt pt] (.Tuple es k2 pt2) pos) (sPar [i, j] g) :=
  ps_conseq (ps_asg (pe_tup ha) (pg_tup hc (pgs_cons (pg_name hN hi hx hf) (pgs_cons (pg_name hN hj hy hf2) pgs_nil))) hs hw) fun D σ H hq => by
    obtain ⟨F, ρ, sr, q⟩ := par_ok hq
    refine ⟨F, ρ, sr, q.mono fun vs H1 ⟨hl, n1, n2⟩ => ?_⟩
    match vs, hl, n1, n2 with
    | [v, w], _, n1, n2 => exact ⟨by show 2 ≤ sizeLine; decide, fun p n => ⟨p, [v, w], rfl, .of upd_same, rfl, v, [w], rfl, w, [], rfl, rfl, n2 p n _⟩⟩
theorem ds_parT3 (i j l : Nat) {x y z : Str} {px py pz pt : Pos} {kt k2 pt2} (hc : X.calm = true) (hN : X.N.Nodup) (ha : DA X W es g) (hi : X.N[i]? = some x := by rfl) (hj : X.N[j]? = some y := by rfl) (hl : X.N[l]? = some z := by rfl)
    (hx : Loc X.env.scope x := by first | exact .inl rfl | exact .inr rfl) (hy : Loc X.env.scope y := by first | exact .inl rfl | exact .inr rfl) (hz : Loc X.env.scope z := by first | exact .inl rfl | exact .inr rfl) (hf : X.fn x = true ∨ X.env.scope.names.lookup x = some .local := by first | exact .inl rfl | exact .inr rfl) (hf2 : X.fn y = true ∨ X.env.scope.names.lookup y = some .local := by first | exact .inl rfl | exact .inr rfl) (hf3 : X.fn z = true ∨ X.env.scope.names.lookup z = some .local := by first | exact .inl rfl | exact .inr rfl)
    (hs : swapsWithSole [.Tuple [.Name x px, .Name y py, .Name z pz] kt pt] (.Tuple es k2 pt2) pos.line X.env = pure false := by rfl) (hw : swappedStores [.Tuple [.Name x px, .Name y py, .Name z pz] kt pt] (.Tuple es k2 pt2) X.env = pure none := by rfl) :
    DS X W (.Assign [.Tuple [.Name x px, .Name y py, .Name z pz] kt pt] (.Tuple es k2 pt2) pos) (sPar [i, j, l] g) :=
  ps_conseq (ps_asg (pe_tup ha) (pg_tup hc (pgs_cons (pg_name hN hi hx hf) (pgs_cons (pg_name hN hj hy hf2) (pgs_cons (pg_name hN hl hz hf3) pgs_nil)))) hs hw) fun D σ H hq => by
    obtain ⟨F, ρ, sr, q⟩ := par_ok hq
    refine ⟨F, ρ, sr, q.mono fun vs H1 ⟨hl, n1, n2⟩ => ?_⟩
    match vs, hl, n1, n2 with
    | [v, w, u], _, n1, n2 => exact ⟨by show 3 ≤ sizeLine; decide, fun p n => ⟨p, [v, w, u], rfl, .of upd_same, rfl, v, [w, u], rfl, w, [u], rfl, u, [], rfl, rfl, n2 p n _⟩⟩
end
end DL
/-! DL9: what is walked; for, while. -/
namespace DL
open PySem PySem.Spec PyProof.Rows L2
variable [TabT]
/-- what is walked: its items; the slot whose object is walked -/
abbrev Src := List D × Option Nat
structure ItS (K : PySem.W.Frag) (J : It) (ds : List D) (Pre : Hp → Hp → Prop) : Prop where
  go : ∀ i F H, i < ds.length → Same F H → Pre F H → J.go i H
  yld : ∀ i x F H H', i < ds.length → Same F H → Pre F H → J.yld i H x H' → ∃ d F', ds[i]? = some d ∧ Gr F H F' H' ∧ Rep K F' x d
  stop : ∀ i F H, ds.length ≤ i → Same F H → Pre F H → J.stop i H
/-- what was there stays: the frozen part, the locked object -/
def PreI (σ : L2.St) (lk : Option Nat) (F1 H1 F H : Hp) : Prop := Same F1 F ∧ ∀ i, lk = some i → ∀ a o, σ[i]? = some (some (.ref a)) → H1 a = some o → H a = some o
def relI (K : PySem.W.Frag) (σ : L2.St) : RelT It Src := fun _ F H ρ J src => ItS K J src.1 (PreI σ src.2 F H) ∧ ∀ i, src.2 = some i → ∃ c m, ρ[i]? = some (.ow c m)
abbrev IM := M Src
def tI (K : PySem.W.Frag) (mg : Str → Option Value) (W : WX) (f : IM) : TI := fun σ H R => ∃ F ρ, SR K F H σ ρ ∧ Out K mg (fun c d H => W c d σ H) (relI K σ) σ ρ F H (f ρ) R
def DI (X : Cx) (W : WX) (tg iter : Expr) (f : IM) : Prop := PI X tg iter (tI X.K X.mg W f)
theorem pi_conseq {X : Cx} {tg iter : Expr} {t t' : TI} (h : PI X tg iter t) (c : ∀ σ H R, t' σ H R → t σ H R) : PI X tg iter t' := ⟨fun pins s σ H R I q => h.run pins s σ H R I (c _ _ _ q)⟩
theorem pi_or {X : Cx} {tg iter : Expr} {t t' : TI} (h : PI X tg iter t) (h' : PI X tg iter t') : PI X tg iter (fun σ H R => t σ H R ∨ t' σ H R) := ⟨fun pins s σ H R I q => q.elim (h.run pins s σ H R I) (h'.run pins s σ H R I)⟩
section
variable {K : PySem.W.Frag} {F H : Hp}
theorem its_tup {σ : L2.St} {lk : Option Nat} {a : Addr} {xs : List V} {ds : List D} {F1 H1 : Hp} (r : RepL K F1 xs ds) (h : ∀ F H, Same F H → PreI σ lk F1 H1 F H → SqT K H a xs) : ItS K (Itt K a) ds (PreI σ lk F1 H1) where
  go := fun i F H hi s p => by
    have hl : i < xs.length := by rw [r.length]; exact hi
    exact ⟨xs, xs[i], h F H s p, List.getElem?_eq_getElem hl⟩
  yld := fun i x F H H' hi s p ⟨e, hy⟩ => by
    subst e
    have q := hy xs (h F _ s p)
    obtain ⟨d, h1, h2⟩ := r.getV q
    exact ⟨d, F, h1, .refl s, h2.mono (.of p.1)⟩
  stop := fun i F H hi s p => ⟨xs, h F H s p, by rw [r.length]; exact hi⟩
theorem its_range {σ : L2.St} {lk : Option Nat} {lo : Int} {n : Nat} {F1 H1 : Hp} : ItS K (Itr lo n) ((List.range n).map fun i : Nat => D.int (lo + (i : Int))) (PreI σ lk F1 H1) where
  go := fun i F H hi s p => by
    show i < n
    simpa using hi
  yld := fun i x F H H' hi s p ⟨e, hx⟩ => by
    subst e; subst hx
    have hi : i < n := by simpa using hi
    exact ⟨_, F, by rw [List.getElem?_map, List.getElem?_range hi]; rfl, .refl s, .int _⟩
  stop := fun i F H hi s p => by
    show n ≤ i
    simpa using hi
end
/-! ### sources -/
def seqSrc (x : Val) (ρ : DEnv) : R Src := match x with
  | .d (.lst ds) => .ok (ds, none) ρ
  | .d (.tup ds) => .ok (ds, none) ρ
  | .fr (.lst ds) => .ok (ds, none) ρ
  | .sl i => match ρ[i]? with
    | some (.d (.lst ds)) => .ok (ds, none) ρ
    | some (.d (.tup ds)) => .ok (ds, none) ρ
    | some (.ow (.lst ds) _) => .ok (ds, some i) ρ
    | _ => .bad
  | _ => .bad
def iSeq (f : EM) : IM := fun ρ => (f ρ).bind seqSrc
section
variable {X : Cx} {W : WX} {tg e : Expr} {f : EM} {es : List Expr} {g : M (List Val)} {p pos : Pos}
/-- as its_list, whatever else may be read at a: the loop's own look is at the list that stands -/
theorem its_list' {K : PySem.W.Frag} {σ : L2.St} {lk : Option Nat} {a : Addr} {xs : List V} {ds : List D} {F1 H1 : Hp} (r : RepL K F1 xs ds) (h : ∀ F H, Same F H → PreI σ lk F1 H1 F H → SqL K H a xs) : ItS K (Itl K a) ds (PreI σ lk F1 H1) where
  go := fun i F H hi s p => by
    have hl : i < xs.length := by rw [r.length]; exact hi
    exact ⟨xs, xs[i], h F H s p, List.getElem?_eq_getElem hl⟩
  yld := fun i x F H H' hi s p ⟨e, hy⟩ => by
    subst e
    have q := hy xs (h F _ s p)
    obtain ⟨d, h1, h2⟩ := r.getV q
    exact ⟨d, F, h1, .refl s, h2.mono (.of p.1)⟩
  stop := fun i F H hi s p => ⟨xs, h F H s p, by rw [r.length]; exact hi⟩
theorem di_seq (he : DE X W e f) : DI X W tg e (iSeq f) := pi_conseq (pi_or (pi_list he) (pi_tup he)) fun σ H R hq => by
  obtain ⟨F, ρ, sr, q⟩ := hq
  -- a frozen sequence
  have lstD : ∀ {ds : List D} {v : V} {F1 H1 : Hp} {ρ1 : DEnv}, SR X.K F1 H1 σ ρ1 → Rep X.K F1 v (.lst ds) → ∃ a, v = .ref a ∧ (∃ xs, SqL X.K H1 a xs) ∧ relI X.K σ H F1 H1 ρ1 (Itl X.K a) (ds, none) := fun {ds v F1 H1 ρ1} s1 r => by
    cases r with
    | lst e r => exact ⟨_, rfl, ⟨_, .of (s1.sub _ _ e)⟩, its_list' r (fun F' H' s p => .of (s _ _ (p.1 _ _ e))), fun i h => by cases h⟩
  have tupD : ∀ {ds : List D} {v : V} {F1 H1 : Hp} {ρ1 : DEnv}, SR X.K F1 H1 σ ρ1 → Rep X.K F1 v (.tup ds) → ∃ a, v = .ref a ∧ (∃ xs, SqT X.K H1 a xs) ∧ relI X.K σ H F1 H1 ρ1 (Itt X.K a) (ds, none) := fun {ds v F1 H1 ρ1} s1 r => by
    cases r with
    | tup e r => exact ⟨_, rfl, ⟨_, (RdLe.of s1.sub).sqT e⟩, its_tup r (fun F' H' s p => (RdLe.of s).sqT ((RdLe.of p.1).sqT e)), fun i h => by cases h⟩
  unfold iSeq at q
  cases h1 : f ρ with
  | bad => rw [h1] at q; exact q.elim
  | ex x ρ1 => rw [h1] at q; exact .inl ⟨F, ρ, sr, by rw [h1]; exact q⟩
  | ok x ρ1 =>
    rw [h1] at q
    have q : Out X.K X.mg (fun c d H => W c d σ H) (relI X.K σ) σ ρ F H (seqSrc x ρ1) R := q
    cases x with
    | d x =>
      cases x with
      | lst ds =>
        refine .inl ⟨F, ρ, sr, ?_⟩
        rw [h1]
        intro v F1 H1 s1 ev1 r1
        obtain ⟨a, rfl, hx, rel⟩ := lstD s1 r1
        exact ⟨a, rfl, hx, q _ F1 H1 s1 ev1 rel⟩
      | tup ds =>
        refine .inr ⟨F, ρ, sr, ?_⟩
        rw [h1]
        intro v F1 H1 s1 ev1 r1
        obtain ⟨a, rfl, hx, rel⟩ := tupD s1 r1
        exact ⟨a, rfl, hx, q _ F1 H1 s1 ev1 rel⟩
      | _ => exact q.elim
    | fr c =>
      cases c with
      | dic ks vs => exact q.elim
      | lst ds =>
        refine .inl ⟨F, ρ, sr, ?_⟩
        rw [h1]
        intro v F1 H1 s1 ev1 r1
        obtain ⟨F2, d, e2, s2, ev2, r2⟩ := fz_ok s1 ev1 r1 rfl
        cases e2
        obtain ⟨a, rfl, hx, rel⟩ := lstD s2 r2
        exact ⟨a, rfl, hx, q _ F2 H1 s2 ev2 rel⟩
    | sl i =>
      unfold seqSrc at q
      dsimp only at q
      cases hs : ρ1[i]? with
      | none => rw [hs] at q; exact q.elim
      | some sl =>
        rw [hs] at q
        cases sl with
        | un => exact q.elim
        | d x =>
          cases x with
          | lst ds =>
            refine .inl ⟨F, ρ, sr, ?_⟩
            rw [h1]
            intro v F1 H1 s1 ev1 r1
            obtain ⟨ov, g1, u, g2, g3⟩ := s1.slot i _ hs
            have r1 : σ[i]? = some (some v) := r1
            rw [r1] at g1; cases g1; cases g2
            obtain ⟨a, rfl, hx, rel⟩ := lstD s1 g3
            exact ⟨a, rfl, hx, q _ F1 H1 s1 ev1 rel⟩
          | tup ds =>
            refine .inr ⟨F, ρ, sr, ?_⟩
            rw [h1]
            intro v F1 H1 s1 ev1 r1
            obtain ⟨ov, g1, u, g2, g3⟩ := s1.slot i _ hs
            have r1 : σ[i]? = some (some v) := r1
            rw [r1] at g1; cases g1; cases g2
            obtain ⟨a, rfl, hx, rel⟩ := tupD s1 g3
            exact ⟨a, rfl, hx, q _ F1 H1 s1 ev1 rel⟩
          | _ => exact q.elim
        | ow c m =>
          cases c with
          | dic ks vs => exact q.elim
          | lst ds =>
            refine .inl ⟨F, ρ, sr, ?_⟩
            rw [h1]
            intro v F1 H1 s1 ev1 r1
            obtain ⟨ov, g1, a, g2, g3, xs, g4, g5⟩ := s1.slot i _ hs
            have r1 : σ[i]? = some (some v) := r1
            rw [r1] at g1; cases g1; cases g2
            refine ⟨a, rfl, ⟨xs, .of g4⟩, q _ F1 H1 s1 ev1 ⟨its_list' g5 fun F' H' s p => .of (p.2 i rfl a _ r1 g4), fun j h => by cases h; exact ⟨_, _, hs⟩⟩⟩
def iRng (g : M (List Val)) : IM := fun ρ => (g ρ).bind fun xs ρ1 => match xs with
  | [.d (.int j)] => if -(2 ^ 62) ≤ j ∧ j < 2 ^ 62 then .ok ((List.range j.toNat).map fun k : Nat => D.int (0 + (k : Int)), none) ρ1 else .bad
  | [.d (.int i), .d (.int j)] => if -(2 ^ 62) ≤ i ∧ i < 2 ^ 62 ∧ -(2 ^ 62) ≤ j ∧ j < 2 ^ 62 then .ok ((List.range (j - i).toNat).map fun k : Nat => D.int (i + (k : Int)), none) ρ1 else .bad
  | _ => .bad
theorem di_range1 {a : Expr} (hg : Gl X "range") (hm : X.mg "range" = none) (ha : DA X W [a] g) (hs : starEach [a] X.env = [(false, eval a X.env)] := by rfl) (one : ∀ ρ xs ρ', g ρ = .ok xs ρ' → xs.length = 1) : DI X W tg (.Call (.Name "range" p) [a] [] pos) (iRng g) := pi_conseq (pi_range1 hg hm ha hs) fun σ H R hq => by
  obtain ⟨F, ρ, sr, q⟩ := hq
  refine ⟨F, ρ, sr, (Out.bind (rel := relL X.K σ) q).mono fun vs H1 ⟨xs, F1, ρ1, e1, s1, ev1, r1, o1⟩ => ?_⟩
  have hl := one _ _ _ e1
  split at o1
  · rename_i j
    split at o1
    · rename_i hj
      obtain ⟨v, rfl, rv⟩ : ∃ v, vs = [v] ∧ VR X.K σ H F1 H1 ρ1 v (.d (.int j)) := by
        cases r1.all with
        | cons a t => cases t; exact ⟨_, rfl, a⟩
      obtain rfl := vr_int rv
      exact ⟨j, rfl, hj.1, hj.2, o1 _ F1 H1 s1 ev1 ⟨its_range, fun i h => by cases h⟩⟩
    · exact o1.elim
  · simp at hl
  · exact o1.elim
theorem di_range2 {a b : Expr} (hg : Gl X "range") (hm : X.mg "range" = none) (ha : DA X W [a, b] g) (two : ∀ ρ xs ρ', g ρ = .ok xs ρ' → xs.length = 2) (hs : starEach [a, b] X.env = [(false, eval a X.env), (false, eval b X.env)] := by rfl) (hs2 : starEach [b] X.env = [(false, eval b X.env)] := by rfl) : DI X W tg (.Call (.Name "range" p) [a, b] [] pos) (iRng g) := pi_conseq (pi_range2 hg hm ha hs hs2) fun σ H R hq => by
  obtain ⟨F, ρ, sr, q⟩ := hq
  refine ⟨F, ρ, sr, (Out.bind (rel := relL X.K σ) q).mono fun vs H1 ⟨xs, F1, ρ1, e1, s1, ev1, r1, o1⟩ => ?_⟩
  have hl := two _ _ _ e1
  split at o1
  · simp at hl
  · rename_i i j
    split at o1
    · rename_i hj
      obtain ⟨v, w, rfl, rv, rw⟩ : ∃ v w, vs = [v, w] ∧ VR X.K σ H F1 H1 ρ1 v (.d (.int i)) ∧ VR X.K σ H F1 H1 ρ1 w (.d (.int j)) := by
        cases r1.all with
        | cons a t =>
          cases t with
          | cons b t => cases t; exact ⟨_, _, rfl, a, b⟩
      obtain rfl := vr_int rv
      obtain rfl := vr_int rw
      exact ⟨i, j, rfl, hj, o1 _ F1 H1 s1 ev1 ⟨its_range, fun i h => by cases h⟩⟩
    · exact o1.elim
  · exact o1.elim
theorem aNil_len {ρ : DEnv} {xs : List Val} {ρ' : DEnv} (h : aNil ρ = .ok xs ρ') : xs.length = 0 := by cases h; rfl
theorem aCons_len {n : Nat} (hg : ∀ ρ xs ρ', g ρ = .ok xs ρ' → xs.length = n) : ∀ ρ xs ρ', aCons f g ρ = .ok xs ρ' → xs.length = n + 1 := fun ρ xs ρ' h => by
  unfold aCons at h
  cases h1 : f ρ with
  | bad => rw [h1] at h; cases h
  | ex x ρ1 => rw [h1] at h; cases h
  | ok x ρ1 =>
    rw [h1] at h
    simp only [R.bind] at h
    cases h2 : g ρ1 with
    | bad => rw [h2] at h; cases h
    | ex x ρ1 => rw [h2] at h; cases h
    | ok ys ρ2 => rw [h2] at h; cases h; rw [List.length_cons, hg _ _ _ h2]
/-! ### locks -/
def lockS (lk : Option Nat) (ρ : DEnv) : DEnv := match lk with
  | none => ρ
  | some i => match ρ[i]? with
    | some (.ow c _) => ρ.set i (.ow c .lck)
    | _ => ρ
def unlk (lk : Option Nat) (ρ0 ρ : DEnv) : DEnv := match lk with
  | none => ρ
  | some i => match ρ0[i]? with
    | some (.ow c m) => ρ.set i (.ow c m)
    | _ => ρ
def unlkS (lk : Option Nat) (ρ0 : DEnv) : RS → RS
  | .nx ρ => .nx (unlk lk ρ0 ρ)
  | .bk ρ => .bk (unlk lk ρ0 ρ)
  | .ct ρ => .ct (unlk lk ρ0 ρ)
  | .rt x ρ => .rt x (unlk lk ρ0 ρ)
  | .ex x ρ => .ex x (unlk lk ρ0 ρ)
  | .bad => .bad
section
variable {K : PySem.W.Frag} {mg : Str → Option Value} {σ σ' : L2.St} {ρ ρ' : DEnv} {F H F' H' : Hp} {lk : Option Nat}
theorem ow_mode {ρ ρ2 : DEnv} {σ : L2.St} (h : ∀ (i : Nat) (c : Cont) (m : Md), ρ[i]? = some (.ow c m) → ∃ m', ρ2[i]? = some (.ow c m')) {a : Addr} (z : Ow σ ρ a) : Ow σ ρ2 a := by
  obtain ⟨i, c, m, e, q⟩ := z
  obtain ⟨m', e'⟩ := h i c m e
  exact ⟨i, c, m', e', q⟩
/-- one slot's mode is another one -/
theorem sr_mode {i : Nat} {c : Cont} {m m' : Md} (sr : SR K F H σ ρ) (e : ρ[i]? = some (.ow c m)) : SR K F H σ (ρ.set i (.ow c m')) := by
  have hl : i < ρ.length := (List.getElem?_eq_some_iff.mp e).1
  have at' : ∀ {j : Nat} {s : Slot}, (ρ.set i (.ow c m'))[j]? = some s → (j = i ∧ s = .ow c m') ∨ (j ≠ i ∧ ρ[j]? = some s) := fun {j s} q => by
    by_cases hj : i = j
    · subst hj
      rw [List.getElem?_set_self hl] at q
      cases q
      exact .inl ⟨rfl, rfl⟩
    · rw [List.getElem?_set_ne hj] at q
      exact .inr ⟨fun z => hj z.symm, q⟩
  refine ⟨by rw [List.length_set]; exact sr.len, sr.sub, fun j s q => ?_, fun j k c1 m1 c2 m2 a q1 q2 q3 q4 => ?_, sr.tab⟩
  · rcases at' q with ⟨rfl, rfl⟩ | ⟨_, q⟩
    · obtain ⟨ov, z1, z2⟩ := sr.slot j _ e
      exact ⟨ov, z1, z2⟩
    · exact sr.slot j s q
  · rcases at' q1 with ⟨h1, z1⟩ | ⟨_, w1⟩ <;> rcases at' q2 with ⟨h2, z2⟩ | ⟨_, w2⟩
    · rw [h1, h2]
    · subst h1; exact sr.dist _ _ _ _ _ _ a e w2 q3 q4
    · subst h2; exact sr.dist _ _ _ _ _ _ a w1 e q3 q4
    · exact sr.dist _ _ _ _ _ _ a w1 w2 q3 q4
theorem lock_sr (sr : SR K F H σ ρ) : SR K F H σ (lockS lk ρ) := by
  unfold lockS
  split
  · exact sr
  · split
    · rename_i e; exact sr_mode sr e
    · exact sr
/-- back from the locked state -/
theorem unlk_ok (sr : SR K F H σ ρ) (s' : SR K F' H' σ' ρ') (ev : Ev σ (lockS lk ρ) F H σ' ρ' F' H') : SR K F' H' σ' (unlk lk ρ ρ') ∧ Ev σ ρ F H σ' (unlk lk ρ ρ') F' H' := by
  cases lk with
  | none => exact ⟨s', ev⟩
  | some i =>
    unfold lockS unlk at *
    dsimp only at *
    split
    · rename_i c m e
      rw [e] at ev
      dsimp only at ev
      have hl : i < ρ.length := (List.getElem?_eq_some_iff.mp e).1
      have eL : (ρ.set i (.ow c .lck))[i]? = some (.ow c .lck) := List.getElem?_set_self hl
      obtain ⟨b1, c', b2, b3⟩ := ev.bor i c .lck eL (by decide)
      obtain rfl := b3 rfl
      have hl' : i < ρ'.length := (List.getElem?_eq_some_iff.mp b2).1
      have owL : ∀ {a : Addr}, Ow σ (ρ.set i (.ow c' .lck)) a → Ow σ ρ a := fun {a} z => ow_mode (fun j c1 m1 q => by
        by_cases hj : i = j
        · subst hj; rw [eL] at q; cases q; exact ⟨m, e⟩
        · rw [List.getElem?_set_ne hj] at q; exact ⟨m1, q⟩) z
      have mtL : ∀ {a : Addr}, Mt σ (ρ.set i (.ow c' .lck)) a → Mt σ ρ a := fun {a} z => by
        obtain ⟨j, c1, m1, q, n, q2⟩ := z
        by_cases hj : i = j
        · subst hj; rw [eL] at q; cases q; exact absurd rfl n
        · rw [List.getElem?_set_ne hj] at q; exact ⟨j, c1, m1, q, n, q2⟩
      have owU : ∀ {a : Addr}, Ow σ' (ρ'.set i (.ow c' m)) a → Ow σ' ρ' a := fun {a} z => ow_mode (fun j c1 m1 q => by
        by_cases hj : i = j
        · subst hj; rw [List.getElem?_set_self hl'] at q; cases q; exact ⟨_, b2⟩
        · rw [List.getElem?_set_ne hj] at q; exact ⟨m1, q⟩) z
      refine ⟨sr_mode s' b2, ⟨ev.ext, fun a o q n nt => ev.keep a o q (fun z => n (mtL z)) nt, fun a q n => (ev.newF a q n).imp id owL, ev.dom, fun j c1 m1 q n => ?_, fun a z => (ev.own' a (owU z)).imp id owL, fun a z => ?_⟩⟩
      · by_cases hj : i = j
        · subst hj
          rw [e] at q; cases q
          exact ⟨b1, c', List.getElem?_set_self hl', fun _ => rfl⟩
        · obtain ⟨z1, c2, z2, z3⟩ := ev.bor j c1 m1 (by rw [List.getElem?_set_ne hj]; exact q) n
          exact ⟨z1, c2, by rw [List.getElem?_set_ne hj]; exact z2, z3⟩
      · obtain ⟨j, c1, m1, q, n, q2⟩ := z
        by_cases hj : i = j
        · subst hj
          rw [List.getElem?_set_self hl'] at q
          cases q
          right
          exact ⟨i, c', m, e, n, by rw [← b1]; exact q2⟩
        · rw [List.getElem?_set_ne hj] at q
          exact (ev.mt' a ⟨j, c1, m1, q, n, q2⟩).imp id mtL
    · rename_i hn
      have : (match ρ[i]? with | some (.ow c m) => ρ.set i (.ow c .lck) | x => ρ) = ρ := by
        split
        · rename_i c m e; exact absurd e (hn c m)
        · rfl
      rw [this] at ev
      exact ⟨s', ev⟩
theorem OutS.lock {W : WX} {r : RS} {D : Ends} (sr : SR K F H σ ρ) (h : OutS K mg W σ ρ F H (unlkS lk ρ r) D) : OutS K mg W σ (lockS lk ρ) F H r D := by
  cases r with
  | nx ρ' => exact fun σ' F' H' s e => let ⟨s2, e2⟩ := unlk_ok sr s e; h σ' F' H' s2 e2
  | bk ρ' => exact fun σ' F' H' s e => let ⟨s2, e2⟩ := unlk_ok sr s e; h σ' F' H' s2 e2
  | ct ρ' => exact fun σ' F' H' s e => let ⟨s2, e2⟩ := unlk_ok sr s e; h σ' F' H' s2 e2
  | ex x ρ' => exact fun c d σ' F' H' s e r => let ⟨s2, e2⟩ := unlk_ok sr s e; h c d σ' F' H' s2 e2 r
  | bad => exact h
  | rt x ρ' =>
    refine fun v σ' F' H' s e r => let ⟨s2, e2⟩ := unlk_ok sr s e; h v σ' F' H' s2 e2 ?_
    cases x with
    | d x => exact r
    | sl i => exact r
    | fr c =>
      obtain ⟨p, e1, nb, nF, cr, no⟩ := r
      refine ⟨p, e1, nb, nF, cr, fun z => no ?_⟩
      unfold unlk at z
      split at z
      · exact z
      · rename_i i
        split at z
        · rename_i c' m q
          have hl : i < ρ.length := (List.getElem?_eq_some_iff.mp q).1
          obtain ⟨b1, c2, b2, b3⟩ := e.bor i c' .lck (by unfold lockS; dsimp only; rw [q]; exact List.getElem?_set_self hl) (by decide)
          obtain rfl := b3 rfl
          exact ow_mode (fun j c1 m1 q' => by
            by_cases hj : i = j
            · subst hj; rw [List.getElem?_set_self (List.getElem?_eq_some_iff.mp b2).1] at q'; cases q'; exact ⟨_, b2⟩
            · rw [List.getElem?_set_ne hj] at q'; exact ⟨m1, q'⟩) z
        · exact z
/-- what is walked stays while it is locked -/
theorem pre_lock {σ1 : L2.St} {F1 H1 F2 H2 : Hp} {ρ1 : DEnv} (sr : SR K F H σ ρ) (hk : ∀ i, lk = some i → ∃ c m, ρ[i]? = some (.ow c m)) (ev : Ev σ (lockS lk ρ) F H σ1 ρ1 F1 H1) : PreI σ lk F H F1 H1 := by
  refine ⟨ev.ext, fun i e a o q1 q2 => ?_⟩
  subst e
  obtain ⟨c, m, q⟩ := hk i rfl
  obtain ⟨ov, w1, a', w2, w3, w4⟩ := sr.slot i _ q
  rw [q1] at w1
  cases w1
  cases w2
  refine ev.keep a o q2 (fun ⟨j, c1, m1, z1, z2, z3⟩ => ?_) (CRep.nt q2 w4)
  have hl : i < ρ.length := (List.getElem?_eq_some_iff.mp q).1
  unfold lockS at z1
  dsimp only at z1
  rw [q] at z1
  dsimp only at z1
  by_cases hj : i = j
  · subst hj; rw [List.getElem?_set_self hl] at z1; cases z1; exact z2 rfl
  · rw [List.getElem?_set_ne hj] at z1
    exact hj (sr.dist i j _ _ _ _ a q z1 q1 z3)
end
/-! ### for -/
def loopD (tg : Val → SM) (body : SM) : List D → SM
  | [], ρ => .nx ρ
  | d :: ds, ρ => match tg (.d d) ρ with
    | .nx ρ1 => match body ρ1 with
      | .nx ρ2 => loopD tg body ds ρ2
      | .ct ρ2 => loopD tg body ds ρ2
      | .bk ρ2 => .nx ρ2
      | r => r
    | _ => .bad
def sFor (f : IM) (tg : Val → SM) (body : SM) : SM := fun ρ => (f ρ).bindS fun src ρ1 => unlkS src.2 ρ1 (loopD tg body src.1 (lockS src.2 ρ1))
theorem ds_for {S : List Nat} {h : Val → SM} {b : SM} {iter : Expr} {body : List Stmt} {fi : IM} (hp : PassesOwn (model X.prog X.w) X.A X.env X.xe) (hc : X.calm = true) (hi : DI X W tg iter fi) (hg : DG X tg S h) (hb : DSs X W body b)
    (hs : ∀ x, foldedSetIterable iter X.env x = pure x := by intro _; rfl) : DS X W (.For tg iter body [] pos) (sFor fi h b) := ps_conseq (ps_for hp hc hi hg hb hs) fun D σ H hq => by
  obtain ⟨F, ρ, sr, q⟩ := hq
  refine ⟨F, ρ, sr, (Out.bindS (rel := relI X.K σ) q).mono fun J H1 ⟨src, F1, ρ1, e1, s1, ev1, ⟨its, hk⟩, o1⟩ => ?_⟩
  obtain ⟨ds, lk⟩ := src
  have o2 := OutS.lock (lk := lk) s1 (o1.from ev1)
  have sL := lock_sr (lk := lk) s1
  refine ⟨fun i m σ' H' => m = ds.length - i ∧ i ≤ ds.length ∧ ∃ F' ρ', SR X.K F' H' σ' ρ' ∧ Ev σ (lockS lk ρ1) F1 H1 σ' ρ' F' H' ∧ OutS X.K X.mg W σ (lockS lk ρ1) F1 H1 (loopD h b (ds.drop i) ρ') D, ⟨ds.length, rfl, Nat.zero_le _, F1, lockS lk ρ1, sL, .refl, o2⟩, ?_⟩
  rintro i m σ' H' ⟨rfl, hi', F', ρ', s', ev', o'⟩
  have pre : PreI σ lk F1 H1 F' H' := pre_lock (F2 := F1) (H2 := H1) s1 hk ev'
  by_cases hlt : i < ds.length
  · refine .inr ⟨its.go i F' H' hlt s'.sub pre, fun σ2 H2 => ∃ F2 ρ2, SR X.K F2 H2 σ2 ρ2 ∧ Ev σ (lockS lk ρ1) F1 H1 σ2 ρ2 F2 H2 ∧ OutS X.K X.mg W σ (lockS lk ρ1) F1 H1 (loopD h b (ds.drop (i + 1)) ρ2) D, fun σ2 H2 hN => ⟨ds.length - (i + 1), by omega, rfl, hlt, hN⟩, fun x H3 hy => ?_⟩
    obtain ⟨d, F3, hd, gr, rx⟩ := its.yld i x F' H' H3 hlt s'.sub pre hy
    have s3 := gr.sr s'
    have ev3 := ev'.trans gr.ev
    have e3 : ds.drop i = d :: ds.drop (i + 1) := by
      have e4 : ds[i] = d := by rw [List.getElem?_eq_getElem hlt] at hd; exact Option.some.inj hd
      rw [List.drop_eq_getElem_cons hlt, e4]
    rw [e3] at o'
    refine ⟨σ', ρ', F3, H3, F3, ρ', .d d, s3, .refl, rx, ?_⟩
    dsimp only [loopD] at o'
    cases ht : h (.d d) ρ' with
    | nx ρ4 =>
      rw [ht] at o'
      dsimp only at o'
      refine fun σ4 F4 H4 s4 ev4 _ => ⟨F4, ρ4, s4, ?_⟩
      have ev5 := ev3.trans ev4
      cases hbody : b ρ4 with
      | nx ρ5 => rw [hbody] at o'; exact fun σ5 F5 H5 s5 ev6 => ⟨F5, ρ5, s5, ev5.trans ev6, o'⟩
      | ct ρ5 => rw [hbody] at o'; exact fun σ5 F5 H5 s5 ev6 => ⟨F5, ρ5, s5, ev5.trans ev6, o'⟩
      | bk ρ5 => rw [hbody] at o'; exact fun σ5 F5 H5 s5 ev6 => o' σ5 F5 H5 s5 (ev5.trans ev6)
      | rt x ρ5 => rw [hbody] at o'; exact OutS.from (r := .rt x ρ5) o' ev5
      | ex x ρ5 => rw [hbody] at o'; exact OutS.from (r := .ex x ρ5) o' ev5
      | bad => rw [hbody] at o'; exact o'.elim
    | rt x ρ4 => rw [ht] at o'; exact o'.elim
    | bk ρ4 => rw [ht] at o'; exact o'.elim
    | ct ρ4 => rw [ht] at o'; exact o'.elim
    | ex x ρ4 => rw [ht] at o'; exact o'.elim
    | bad => rw [ht] at o'; exact o'.elim
  · have e : i = ds.length := by omega
    subst e
    refine .inl ⟨its.stop _ F' H' (Nat.le_refl _) s'.sub pre, ?_⟩
    rw [List.drop_length] at o'
    exact o' σ' F' H' s' ev'
/-! ### while: n turns at most -/
def whileD (t : M Bool) (body : SM) : Nat → SM
  | 0, _ => .bad
  | n + 1, ρ => (t ρ).bindS fun b ρ1 => if b = true then (match body ρ1 with
      | .nx ρ2 => whileD t body n ρ2
      | .ct ρ2 => whileD t body n ρ2
      | .bk ρ2 => .nx ρ2
      | r => r) else .nx ρ1
theorem ds_while (n : Nat) {c : Expr} {body : List Stmt} {t : M Bool} {b : SM} (hp : PassesOwn (model X.prog X.w) X.A X.env X.xe) (hc : DT X W c t) (hb : DSs X W body b) : DS X W (.While c body [] pos) (whileD t b n) := ps_conseq (ps_while hp hc hb) fun D σ H hq => by
  obtain ⟨F, ρ, sr, q⟩ := hq
  refine ⟨fun m σ' H' => ∃ F' ρ', SR X.K F' H' σ' ρ' ∧ Ev σ ρ F H σ' ρ' F' H' ∧ OutS X.K X.mg W σ ρ F H (whileD t b m ρ') D, ⟨n, F, ρ, sr, .refl, q⟩, ?_⟩
  rintro m σ' H' ⟨F', ρ', s', ev', o'⟩
  cases m with
  | zero => exact o'.elim
  | succ m =>
    refine ⟨F', ρ', s', (Out.bindS (rel := relB) (o'.from ev')).mono fun v H1 ⟨x, F1, ρ1, e1, s1, ev1, r1, o1⟩ => ?_⟩
    have r1 : v = x := r1
    subst r1
    cases v with
    | false => exact o1 σ' F1 H1 s1 ev1
    | true =>
      rw [if_pos rfl]
      refine ⟨fun σ2 H2 => ∃ F2 ρ2, SR X.K F2 H2 σ2 ρ2 ∧ Ev σ ρ F H σ2 ρ2 F2 H2 ∧ OutS X.K X.mg W σ ρ F H (whileD t b m ρ2) D, fun σ2 H2 h => ⟨m, Nat.lt_succ_self _, h⟩, F1, ρ1, s1, ?_⟩
      have ev2 := ev'.trans ev1
      dsimp only [whileD] at o'
      rw [e1] at o'
      dsimp only [R.bindS] at o'
      rw [if_pos rfl] at o'
      cases hbody : b ρ1 with
      | nx ρ5 => rw [hbody] at o'; exact fun σ5 F5 H5 s5 ev6 => ⟨F5, ρ5, s5, ev2.trans ev6, o'⟩
      | ct ρ5 => rw [hbody] at o'; exact fun σ5 F5 H5 s5 ev6 => ⟨F5, ρ5, s5, ev2.trans ev6, o'⟩
      | bk ρ5 => rw [hbody] at o'; exact fun σ5 F5 H5 s5 ev6 => o' σ5 F5 H5 s5 (ev2.trans ev6)
      | rt x ρ5 => rw [hbody] at o'; exact OutS.from (r := .rt x ρ5) o' ev2
      | ex x ρ5 => rw [hbody] at o'; exact OutS.from (r := .ex x ρ5) o' ev2
      | bad => rw [hbody] at o'; exact o'.elim
end
end DL
/-! DL10: list comprehensions. -/
namespace DL
open PySem PySem.Spec PyProof.Rows L2
variable [TabT]
def wipeD (ρ : DEnv) : List Nat → DEnv
  | [] => ρ
  | v :: vs => (wipeD ρ vs).set v .un
/-- the block's own slots as they were -/
def backD (ρ0 ρ : DEnv) : List Nat → DEnv
  | [] => ρ
  | v :: vs => match ρ0[v]? with
    | some s => (backD ρ0 ρ vs).set v s
    | none => backD ρ0 ρ vs
theorem wipeD_len (ρ : DEnv) : ∀ vs : List Nat, (wipeD ρ vs).length = ρ.length
  | [] => rfl
  | v :: vs => by unfold wipeD; rw [List.length_set, wipeD_len ρ vs]
theorem backD_len (ρ0 ρ : DEnv) : ∀ vs : List Nat, (backD ρ0 ρ vs).length = ρ.length
  | [] => rfl
  | v :: vs => by
    unfold backD
    split
    · rw [List.length_set, backD_len ρ0 ρ vs]
    · exact backD_len ρ0 ρ vs
theorem wipeD_get {ρ : DEnv} {i : Nat} {s : Slot} : ∀ {vs : List Nat}, (wipeD ρ vs)[i]? = some s → (s = .un ∧ i ∈ vs) ∨ (ρ[i]? = some s ∧ i ∉ vs)
  | [], h => .inr ⟨h, by simp⟩
  | v :: vs, h => by
    unfold wipeD at h
    by_cases hv : v = i
    · subst hv
      by_cases hl : v < (wipeD ρ vs).length
      · rw [List.getElem?_set_self hl] at h; cases h; exact .inl ⟨rfl, List.mem_cons_self ..⟩
      · rw [List.getElem?_eq_none (by simpa using hl)] at h; cases h
    · rw [List.getElem?_set_ne hv] at h
      rcases wipeD_get h with ⟨h1, h2⟩ | ⟨h1, h2⟩
      · exact .inl ⟨h1, List.mem_cons_of_mem _ h2⟩
      · exact .inr ⟨h1, by simp only [List.mem_cons, not_or]; exact ⟨fun z => hv z.symm, h2⟩⟩
theorem wipeD_keep {ρ : DEnv} {i : Nat} : ∀ {vs : List Nat}, i ∉ vs → (wipeD ρ vs)[i]? = ρ[i]?
  | [], h => rfl
  | v :: vs, h => by
    simp only [List.mem_cons, not_or] at h
    unfold wipeD
    rw [List.getElem?_set_ne (fun z => h.1 z.symm)]
    exact wipeD_keep h.2
theorem wipeS_get {σ : L2.St} {i : Nat} : ∀ {vs : List Nat}, i ∈ vs → i < σ.length → (wipe σ vs)[i]? = some none
  | v :: vs, h, hl => by
    unfold wipe
    by_cases hv : v = i
    · subst hv
      exact List.getElem?_set_self (by rw [wipe_length]; exact hl)
    · rw [List.getElem?_set_ne hv]
      rcases List.mem_cons.mp h with e | h
      · exact absurd e.symm hv
      · exact wipeS_get h hl
theorem wipeS_keep {σ : L2.St} {i : Nat} : ∀ {vs : List Nat}, i ∉ vs → (wipe σ vs)[i]? = σ[i]?
  | [], h => rfl
  | v :: vs, h => by
    simp only [List.mem_cons, not_or] at h
    unfold wipe
    rw [List.getElem?_set_ne (fun z => h.1 z.symm)]
    exact wipeS_keep h.2
theorem wipe_off {S vs : List Nat} {σ σ' : L2.St} (h : Off S (wipe σ vs) σ') (hS : ∀ i ∈ S, i ∈ vs) : wipe σ' vs = wipe σ vs := by
  obtain ⟨hl, ho⟩ := h
  rw [wipe_length] at hl
  refine List.ext_getElem? fun i => ?_
  by_cases hi : i ∈ vs
  · by_cases hlt : i < σ.length
    · rw [wipeS_get hi hlt, wipeS_get hi (by rw [hl]; exact hlt)]
    · rw [List.getElem?_eq_none (by rw [wipe_length]; omega), List.getElem?_eq_none (by rw [wipe_length]; omega)]
  · rw [wipeS_keep hi, wipeS_keep hi]
    have := ho i fun z => hi (hS i z)
    rw [wipeS_keep hi] at this
    exact this
section
variable {K : PySem.W.Frag} {mg : Str → Option Value} {σ σ' : L2.St} {ρ ρ' : DEnv} {F H F' H' : Hp} {vs : List Nat}
theorem ow_wipe {a : Addr} (h : Ow (wipe σ vs) (wipeD ρ vs) a) : Ow σ ρ a := by
  obtain ⟨i, c, m, e1, e2⟩ := h
  rcases wipeD_get e1 with ⟨z, _⟩ | ⟨z, n⟩
  · cases z
  · rw [wipeS_keep n] at e2
    exact ⟨i, c, m, z, e2⟩
theorem mt_wipe {a : Addr} (h : Mt (wipe σ vs) (wipeD ρ vs) a) : Mt σ ρ a := by
  obtain ⟨i, c, m, e1, n1, e2⟩ := h
  rcases wipeD_get e1 with ⟨z, _⟩ | ⟨z, n⟩
  · cases z
  · rw [wipeS_keep n] at e2
    exact ⟨i, c, m, z, n1, e2⟩
theorem sr_wipe (sr : SR K F H σ ρ) : SR K F H (wipe σ vs) (wipeD ρ vs) := by
  refine ⟨by rw [wipe_length, wipeD_len]; exact sr.len, sr.sub, fun i s e => ?_, fun i j c m c' m' a e1 e2 e3 e4 => ?_, sr.tab⟩
  · rcases wipeD_get e with ⟨rfl, hi⟩ | ⟨z, n⟩
    · have hl : i < σ.length := by
        have := (List.getElem?_eq_some_iff.mp e).1
        rw [wipeD_len] at this
        rw [sr.len]; exact this
      exact ⟨none, wipeS_get hi hl, trivial⟩
    · rw [wipeS_keep n]
      exact sr.slot i s z
  · rcases wipeD_get e1 with ⟨z, _⟩ | ⟨z1, n1⟩
    · cases z
    · rcases wipeD_get e2 with ⟨z, _⟩ | ⟨z2, n2⟩
      · cases z
      · rw [wipeS_keep n1] at e3
        rw [wipeS_keep n2] at e4
        exact sr.dist i j c m c' m' a z1 z2 e3 e4
/-- within the block: the own slots wiped again -/
theorem in_wipe {ρ2 : DEnv} {σ2 : L2.St} {F2 H2 : Hp} (e : wipe σ2 vs = wipe σ vs) (s2 : SR K F2 H2 σ2 ρ2) (ev : Ev (wipe σ vs) ρ F H σ2 ρ2 F2 H2) (hb : ∀ i c m, ρ[i]? = some (.ow c m) → i ∉ vs) : SR K F2 H2 (wipe σ vs) (wipeD ρ2 vs) ∧ Ev (wipe σ vs) ρ F H (wipe σ vs) (wipeD ρ2 vs) F2 H2 := by
  have s3 : SR K F2 H2 (wipe σ vs) (wipeD ρ2 vs) := e ▸ sr_wipe (vs := vs) s2
  refine ⟨s3, ⟨ev.ext, ev.keep, ev.newF, ev.dom, fun i c m q n => ?_, fun a z => ev.own' a (ow_wipe (vs := vs) (σ := σ2) (by rw [e]; exact z)), fun a z => ev.mt' a (mt_wipe (vs := vs) (σ := σ2) (by rw [e]; exact z))⟩⟩
  obtain ⟨b1, c', b2, b3⟩ := ev.bor i c m q n
  have hi := hb i c m q
  exact ⟨rfl, c', by rw [wipeD_keep hi]; exact b2, b3⟩
theorem backD_get {ρ0 ρ : DEnv} {i : Nat} {s : Slot} : ∀ {vs : List Nat}, (backD ρ0 ρ vs)[i]? = some s → (∀ v ∈ vs, v < ρ0.length) → (ρ0[i]? = some s ∧ i ∈ vs) ∨ (ρ[i]? = some s ∧ i ∉ vs)
  | [], h, _ => .inr ⟨h, by simp⟩
  | v :: vs, h, hv => by
    have hv' : v < ρ0.length := hv v (List.mem_cons_self ..)
    have hvs : ∀ u ∈ vs, u < ρ0.length := fun u hu => hv u (List.mem_cons_of_mem _ hu)
    unfold backD at h
    rw [List.getElem?_eq_getElem hv'] at h
    dsimp only at h
    by_cases e : v = i
    · subst e
      by_cases hl : v < (backD ρ0 ρ vs).length
      · rw [List.getElem?_set_self hl] at h; cases h
        exact .inl ⟨List.getElem?_eq_getElem hv', List.mem_cons_self ..⟩
      · rw [List.getElem?_eq_none (by simpa using hl)] at h; cases h
    · rw [List.getElem?_set_ne e] at h
      rcases backD_get h hvs with ⟨h1, h2⟩ | ⟨h1, h2⟩
      · exact .inl ⟨h1, List.mem_cons_of_mem _ h2⟩
      · exact .inr ⟨h1, by simp only [List.mem_cons, not_or]; exact ⟨fun z => e z.symm, h2⟩⟩
theorem backD_keep {ρ0 ρ : DEnv} {i : Nat} : ∀ {vs : List Nat}, i ∉ vs → (backD ρ0 ρ vs)[i]? = ρ[i]?
  | [], h => rfl
  | v :: vs, h => by
    simp only [List.mem_cons, not_or] at h
    unfold backD
    split
    · rw [List.getElem?_set_ne (fun z => h.1 z.symm)]
      exact backD_keep h.2
    · exact backD_keep h.2
theorem backD_at {ρ0 ρ : DEnv} {i : Nat} {s : Slot} (e : ρ0[i]? = some s) (hl : i < ρ.length) : ∀ {vs : List Nat}, i ∈ vs → (backD ρ0 ρ vs)[i]? = some s
  | v :: vs, h => by
    unfold backD
    by_cases hv : v = i
    · subst hv
      rw [e]
      exact List.getElem?_set_self (by rw [backD_len]; exact hl)
    · have h' : i ∈ vs := by
        rcases List.mem_cons.mp h with z | z
        · exact absurd z.symm hv
        · exact z
      split
      · rw [List.getElem?_set_ne hv]; exact backD_at e hl h'
      · exact backD_at e hl h'
/-- out of the block: the own slots as they were ahead of it -/
theorem out_wipe {ρ2 : DEnv} {F2 H2 : Hp} (sr : SR K F H σ ρ) (hvs : ∀ v ∈ vs, v < ρ.length) (s2 : SR K F2 H2 (wipe σ vs) ρ2) (ev : Ev (wipe σ vs) (wipeD ρ vs) F H (wipe σ vs) ρ2 F2 H2) (hu : ∀ i ∈ vs, ∀ c m, ρ2[i]? ≠ some (.ow c m)) :
    SR K F2 H2 σ (backD ρ ρ2 vs) ∧ Ev σ ρ F H σ (backD ρ ρ2 vs) F2 H2 := by
  have l2 : ρ2.length = ρ.length := by rw [← s2.len, wipe_length, sr.len]
  -- what an own slot owned ahead of the block is untouched within
  have keepO : ∀ {i : Nat} {c : Cont} {m : Md} {a : Addr}, i ∈ vs → ρ[i]? = some (.ow c m) → σ[i]? = some (some (.ref a)) → ¬ Ow (wipe σ vs) (wipeD ρ vs) a := fun {i c m a} hi e1 e2 ⟨j, c', m', z1, z2⟩ => by
    rcases wipeD_get z1 with ⟨z, _⟩ | ⟨z, n⟩
    · cases z
    · rw [wipeS_keep n] at z2
      have := sr.dist i j c m c' m' a e1 z e2 z2
      subst this
      exact n hi
  have owned : ∀ {i : Nat} {c : Cont} {m : Md}, i ∈ vs → ρ[i]? = some (.ow c m) → ∃ a, σ[i]? = some (some (.ref a)) ∧ F2 a = none ∧ CRep K F2 H2 a c ∧ ∃ o, H a = some o := fun {i c m} hi e => by
    obtain ⟨ov, g1, a, g2, g3, g4⟩ := sr.slot i _ e
    subst g2
    have no := keepO hi e g1
    obtain ⟨o, ho⟩ := g4.some
    refine ⟨a, g1, ?_, g4.mono (.of ev.ext) ((ev.keep a o ho (fun m => no m.ow) (CRep.nt ho g4)).trans ho.symm), o, ho⟩
    cases hF : F2 a with
    | none => rfl
    | some u =>
      rcases ev.newF a g3 (by rw [hF]; simp) with z | z
      · rw [ho] at z; cases z
      · exact absurd z no
  have low : ∀ {a : Addr}, Ow σ (backD ρ ρ2 vs) a → H a = none ∨ Ow σ ρ a := fun {a} ⟨i, c, m, e1, e2⟩ => by
    rcases backD_get e1 hvs with ⟨z, _⟩ | ⟨z, n⟩
    · exact .inr ⟨i, c, m, z, e2⟩
    · exact (ev.own' a ⟨i, c, m, z, by rw [wipeS_keep n]; exact e2⟩).imp id ow_wipe
  refine ⟨⟨by rw [backD_len, l2]; exact sr.len, s2.sub, fun i s e => ?_, fun i j c m c' m' a e1 e2 e3 e4 => ?_, s2.tab⟩, ⟨ev.ext, fun a o q n nt => ev.keep a o q (fun z => n (mt_wipe z)) nt, fun a q n => (ev.newF a q n).imp id ow_wipe, ev.dom, fun i c m q n => ?_, fun a z => low z, fun a ⟨i, c, m, e1, n1, e2⟩ => ?_⟩⟩
  · rcases backD_get e hvs with ⟨z, hi⟩ | ⟨z, n⟩
    · obtain ⟨ov, g1, g2⟩ := sr.slot i s z
      refine ⟨ov, g1, ?_⟩
      cases s with
      | un => trivial
      | d x => obtain ⟨v, q, r⟩ := g2; exact ⟨v, q, r.mono (.of ev.ext)⟩
      | ow c m =>
        obtain ⟨a, q1, q2, q3, _⟩ := owned hi z
        rw [q1] at g1; cases g1
        exact ⟨a, rfl, q2, q3⟩
    · obtain ⟨ov, g1, g2⟩ := s2.slot i s z
      rw [wipeS_keep n] at g1
      exact ⟨ov, g1, g2⟩
  · have mixed : ∀ {i j : Nat} {c c' : Cont} {m m' : Md}, i ∈ vs → ρ[i]? = some (.ow c m) → ρ2[j]? = some (.ow c' m') → j ∉ vs → σ[i]? = some (some (.ref a)) → σ[j]? = some (some (.ref a)) → False := fun {i j c c' m m'} hi q1 q2 nj q3 q4 => by
      obtain ⟨a', z1, _, _, o, ho⟩ := owned hi q1
      rw [q3] at z1; cases z1
      rcases ev.own' a ⟨j, c', m', q2, by rw [wipeS_keep nj]; exact q4⟩ with z | z
      · rw [ho] at z; cases z
      · exact keepO hi q1 q3 z
    rcases backD_get e1 hvs with ⟨z1, i1⟩ | ⟨z1, n1⟩ <;> rcases backD_get e2 hvs with ⟨z2, i2⟩ | ⟨z2, n2⟩
    · exact sr.dist i j c m c' m' a z1 z2 e3 e4
    · exact (mixed i1 z1 z2 n2 e3 e4).elim
    · exact (mixed i2 z2 z1 n1 e4 e3).elim
    · exact s2.dist i j c m c' m' a z1 z2 (by rw [wipeS_keep n1]; exact e3) (by rw [wipeS_keep n2]; exact e4)
  · by_cases hi : i ∈ vs
    · have hl : i < ρ2.length := by rw [l2]; exact hvs i hi
      exact ⟨rfl, c, backD_at q hl hi, fun _ => rfl⟩
    · obtain ⟨b1, c', b2, b3⟩ := ev.bor i c m (by rw [wipeD_keep hi]; exact q) n
      exact ⟨rfl, c', by rw [backD_keep hi]; exact b2, b3⟩
  · rcases backD_get e1 hvs with ⟨z, _⟩ | ⟨z, n⟩
    · exact .inr ⟨i, c, m, z, n1, e2⟩
    · exact (ev.mt' a ⟨i, c, m, z, n1, by rw [wipeS_keep n]; exact e2⟩).imp id mt_wipe
theorem nk_none {H : Hp} {p : Addr} (h : H p = none) : ∀ u, H p = some u → ¬ KT p u := fun u e => by rw [h] at e; cases e
theorem nk_lst {H : Hp} {p : Addr} {xs : List V} (h : H p = some (.lst xs)) : ∀ u, H p = some u → ¬ KT p u := fun u e z => by
  rw [h] at e
  cases e
  rcases z with ⟨ps, z⟩ | ⟨g, z⟩
  · cases z
  · unfold LamX.CodeO at z; cases z
/-- an object that no slot has, changed -/
theorem sr_other {p : Addr} {o : HO} (sr : SR K F H σ ρ) (nF : F p = none) (no : ¬ Ow σ ρ p) (nk : ∀ u, H p = some u → ¬ KT p u) : SR K F (upd H p o) σ ρ := by
  refine ⟨sr.len, fun b u e => by rw [upd_ne (ne_of_none e nF)]; exact sr.sub _ _ e, fun i s e => ?_, sr.dist, sr.tab.step (Same.refl _) (fun b u k e => ?_) fun b _ e => e⟩
  case refine_2 =>
    by_cases z : b = p
    · subst z; exact absurd k (nk _ e)
    · rw [upd_ne z]; exact e
  obtain ⟨ov, g1, g2⟩ := sr.slot i s e
  refine ⟨ov, g1, ?_⟩
  cases s with
  | un => trivial
  | d x => exact g2
  | ow c m =>
    obtain ⟨a, q, fa, cr⟩ := g2
    subst q
    exact ⟨a, rfl, fa, cr.mono (.of (Same.refl _)) (upd_ne fun z => no ⟨i, c, m, e, by rw [g1, z]⟩)⟩
theorem ev_other {p : Addr} {o : HO} (ev : Ev σ ρ F H σ' ρ' F' H') (n : H p = none) : Ev σ ρ F H σ' ρ' F' (upd H' p o) :=
  ⟨ev.ext, fun a u e m nt => by rw [upd_ne (ne_of_none e n)]; exact ev.keep a u e m nt, ev.newF, fun a h => by
    by_cases z : a = p
    · subst z; rw [upd_same]; simp
    · rw [upd_ne z]; exact ev.dom a h, ev.bor, ev.own', ev.mt'⟩
end
/-! ### [el for tg in it if tt] -/
def compD (own : List Nat) (tg : Val → SM) (tt : M Bool) (el : EM) : List D → List D → DEnv → R (List D)
  | [], acc, ρ => .ok acc ρ
  | d :: ds, acc, ρ => match tg (.d d) ρ with
    | .nx ρ1 => match tt ρ1 with
      | .ok b ρ2 => if b = true then (match el ρ2 with
        | .ok (.d y) ρ3 => compD own tg tt el ds (acc ++ [y]) (wipeD ρ3 own)
        | _ => .bad) else compD own tg tt el ds acc (wipeD ρ2 own)
      | _ => .bad
    | _ => .bad
def inB (own : List Nat) (ρ : DEnv) : Bool := own.all fun v => decide (v < ρ.length)
def eLc (own : List Nat) (f : IM) (tg : Val → SM) (tt : M Bool) (el : EM) : EM := fun ρ => (f ρ).bind fun src ρ1 =>
  if inB own ρ1 = true ∧ src.1.length < 16777216 then
    (match compD own tg tt el src.1 [] (wipeD (lockS src.2 ρ1) own) with
    | .ok ys ρ2 => .ok (.fr (.lst ys)) (unlk src.2 ρ1 (backD (lockS src.2 ρ1) ρ2 own))
    | _ => .bad)
  else .bad
section
variable {X : Cx} {W : WX} {tg iter elt : Expr} {ifs : List Expr} {fi : IM} {h : Val → SM} {tt : M Bool} {el : EM} {S : List Nat} {own : List (Str × Nat)} {scope : Scope} {pos : Pos}
def W0 : WX := fun _ _ _ _ => False
def DTs (X : Cx) (W : WX) (ifs : List Expr) (t : M Bool) : Prop := PTs X ifs (tT X.K X.mg W t)
def tYesD : M Bool := fun ρ => .ok true ρ
theorem pts_conseq {ifs : List Expr} {t t' : TT} (h : PTs X ifs t) (c : ∀ σ H Q, t' σ H Q → t σ H Q) : PTs X ifs t' := ⟨fun pins s σ H Q I q => h.run pins s σ H Q I (c _ _ _ q)⟩
theorem dts_nil : DTs X W [] tYesD := pts_conseq pts_nil fun σ H Q ⟨F, ρ, sr, q⟩ => q true F H sr .refl rfl
theorem dts_one {c : Expr} {t : M Bool} (h : DT X W c t) : DTs X W [c] t := pts_one h
/-- the reading of a comprehension, whatever takes the list -/
theorem lc_ok {σ : L2.St} {H : Hp} {Q : VK} (hS : ∀ i ∈ S, i ∈ own.map (·.2)) (hq : tD X.K X.mg W (eLc (own.map (·.2)) fi h tt el) σ H Q) :
    tLc (tI X.K X.mg W fi) (tG X.K S h) (tT X.K X.mg W0 tt) (tD X.K X.mg W0 el) (own.map (·.2)) σ H Q := by
  generalize own.map (·.2) = vs at *
  obtain ⟨F, ρ, sr, q⟩ := hq
  refine ⟨F, ρ, sr, (Out.bind (rel := relI X.K σ) q).mono fun J H1 ⟨src, F1, ρ1, e1, s1, ev1, ⟨its, hk⟩, o1⟩ => ?_⟩
  obtain ⟨ds, lk⟩ := src
  have o2 := o1.from ev1 (relV_from ev1)
  dsimp only at o2 its hk
  split at o2
  rotate_left
  · exact o2.elim
  rename_i hcond
  obtain ⟨hin, hlen⟩ := hcond
  have sL := lock_sr (lk := lk) s1
  have hvs : ∀ v ∈ vs, v < (lockS lk ρ1).length := fun v hv => by
    have := List.all_eq_true.mp hin v hv
    have := of_decide_eq_true this
    rw [← sL.len, s1.len]; exact this
  have sW := sr_wipe (vs := vs) sL
  -- what is to be shown of the list that comes out
  have fin : ∀ {ys : List D} {ρ2 : DEnv} {F2 H2 : Hp} {D : Addr} {yv : List V}, compD vs h tt el ds [] (wipeD (lockS lk ρ1) vs) = .ok ys ρ2 → SR X.K F2 H2 (wipe σ vs) ρ2 → Ev (wipe σ vs) (wipeD (lockS lk ρ1) vs) F1 H1 (wipe σ vs) ρ2 F2 H2 → (∀ i ∈ vs, ∀ c m, ρ2[i]? ≠ some (.ow c m)) →
      H1 D = none → F2 D = none → H2 D = some (.lst yv) → RepL X.K F2 yv ys → ¬ Ow (wipe σ vs) ρ2 D → Q (.ref D) H2 := fun {ys ρ2 F2 H2 D yv} e s ev hu nD nF hD ry no => by
    rw [e] at o2
    obtain ⟨s3, ev3⟩ := out_wipe sL hvs s ev hu
    obtain ⟨s4, ev4⟩ := unlk_ok s1 s3 ev3
    refine o2 (.ref D) F2 H2 s4 ev4 ⟨D, rfl, nD, nF, ⟨yv, hD, ry⟩, fun z => ?_⟩
    rcases ev4.own' D z with z1 | ⟨i, c, m, z1, z2⟩
    · obtain ⟨i, c, m, q1, q2⟩ := z
      -- an owner of D in the end: it is one of the block's end or one ahead of it
      have g : Ow σ (backD (lockS lk ρ1) ρ2 vs) D := by
        refine ow_mode (ρ := unlk lk ρ1 (backD (lockS lk ρ1) ρ2 vs)) (fun j c1 m1 q' => ?_) ⟨i, c, m, q1, q2⟩
        unfold unlk at q'
        split at q'
        · exact ⟨_, q'⟩
        · rename_i k
          split at q'
          · rename_i c' m' hk'
            by_cases hj : k = j
            · subst hj
              have hkl : k < ρ1.length := (List.getElem?_eq_some_iff.mp hk').1
              obtain ⟨b1, c2, b2, b3⟩ := ev3.bor k c' .lck (by unfold lockS; dsimp only; rw [hk']; exact List.getElem?_set_self hkl) (by decide)
              rw [List.getElem?_set_self (List.getElem?_eq_some_iff.mp b2).1] at q'
              cases q'
              exact ⟨_, by rw [b2, b3 rfl]⟩
            · rw [List.getElem?_set_ne hj] at q'; exact ⟨_, q'⟩
          · exact ⟨_, q'⟩
      obtain ⟨i, c, m, q1, q2⟩ := g
      rcases backD_get q1 hvs with ⟨w, _⟩ | ⟨w, n⟩
      · obtain ⟨ov, g1, a, g2, _, g4⟩ := sL.slot i _ w
        rw [q2] at g1; cases g1; cases g2
        obtain ⟨o, ho⟩ := g4.some
        rw [nD] at ho; cases ho
      · exact no ⟨i, c, m, w, by rw [wipeS_keep n]; exact q2⟩
    · obtain ⟨ov, g1, a, g2, _, g4⟩ := s1.slot i _ z1
      rw [z2] at g1; cases g1; cases g2
      obtain ⟨o, ho⟩ := g4.some
      rw [nD] at ho; cases ho
  have noD : ∀ {D : Addr}, H1 D = none → ¬ Ow (wipe σ vs) (wipeD (lockS lk ρ1) vs) D := fun {D} nD ⟨i, c, m, z1, z2⟩ => by
    obtain ⟨ov, g1, a, g2, _, g4⟩ := sW.slot i _ z1
    rw [z2] at g1; cases g1; cases g2
    obtain ⟨o, ho⟩ := g4.some
    rw [nD] at ho; cases ho
  have unW : ∀ i ∈ vs, ∀ c m, (wipeD (lockS lk ρ1) vs)[i]? ≠ some (.ow c m) := fun i hi c m z => by
    rcases wipeD_get z with ⟨w, _⟩ | ⟨_, n⟩
    · cases w
    · exact n hi
  intro D nD
  refine ⟨fun i m H' => m = ds.length - i ∧ i ≤ ds.length ∧ ∃ F' ρ' yv ys, SR X.K F' H' (wipe σ vs) ρ' ∧ Ev (wipe σ vs) (wipeD (lockS lk ρ1) vs) F1 H1 (wipe σ vs) ρ' F' H' ∧ H' D = some (.lst yv) ∧ RepL X.K F' yv ys ∧ F' D = none ∧ ¬ Ow (wipe σ vs) ρ' D ∧ ys.length ≤ i ∧ (∀ i ∈ vs, ∀ c m, ρ'[i]? ≠ some (.ow c m)) ∧
    compD vs h tt el (ds.drop i) ys ρ' = compD vs h tt el ds [] (wipeD (lockS lk ρ1) vs), ⟨ds.length, rfl, Nat.zero_le _, F1, wipeD (lockS lk ρ1) vs, [], [], sr_other sW (Same.free sW.sub nD) (noD nD) (nk_none nD), ev_other .refl nD, upd_same, .nil, Same.free sW.sub nD, noD nD, Nat.zero_le _, unW, rfl⟩, ?_⟩
  rintro i m H' ⟨rfl, hi', F', ρ', yv, ys, s', ev', hD, ry, nF, no, hyl, hu, eq'⟩
  have pre : PreI σ lk F1 H1 F' H' := by
    refine ⟨ev'.ext, fun i e a o q1 q2 => ?_⟩
    subst e
    obtain ⟨cK, mK, qK⟩ := hk i rfl
    obtain ⟨ov, w1, a', w2, w3, w4⟩ := s1.slot i _ qK
    rw [q1] at w1
    cases w1
    cases w2
    refine ev'.keep a o q2 (fun ⟨j, c1, m1, z1, z2, z3⟩ => ?_) (CRep.nt q2 w4)
    rcases wipeD_get z1 with ⟨w, _⟩ | ⟨z1, nj⟩
    · cases w
    · rw [wipeS_keep nj] at z3
      obtain ⟨c, m, qk⟩ := hk i rfl
      have hl : i < ρ1.length := (List.getElem?_eq_some_iff.mp qk).1
      unfold lockS at z1
      dsimp only at z1
      rw [qk] at z1
      dsimp only at z1
      by_cases hj : i = j
      · subst hj; rw [List.getElem?_set_self hl] at z1; cases z1; exact z2 rfl
      · rw [List.getElem?_set_ne hj] at z1
        exact hj (s1.dist i j _ _ _ _ a qk z1 q1 z3)
  by_cases hlt : i < ds.length
  · refine .inr ⟨its.go i F' H' hlt s'.sub pre, fun H2 => ∃ F2 ρ2 yv2 ys2, SR X.K F2 H2 (wipe σ vs) ρ2 ∧ Ev (wipe σ vs) (wipeD (lockS lk ρ1) vs) F1 H1 (wipe σ vs) ρ2 F2 H2 ∧ H2 D = some (.lst yv2) ∧ RepL X.K F2 yv2 ys2 ∧ F2 D = none ∧ ¬ Ow (wipe σ vs) ρ2 D ∧ ys2.length ≤ i + 1 ∧ (∀ i ∈ vs, ∀ c m, ρ2[i]? ≠ some (.ow c m)) ∧
      compD vs h tt el (ds.drop (i + 1)) ys2 ρ2 = compD vs h tt el ds [] (wipeD (lockS lk ρ1) vs), fun H2 hN => ⟨ds.length - (i + 1), by omega, rfl, hlt, hN⟩, fun x H3 hy => ?_⟩
    obtain ⟨d, F3, hd, gr, rx⟩ := its.yld i x F' H' H3 hlt s'.sub pre hy
    have s3 := gr.sr s'
    have ev3 := ev'.trans gr.ev
    have e3 : ds.drop i = d :: ds.drop (i + 1) := by
      have e4 : ds[i] = d := by rw [List.getElem?_eq_getElem hlt] at hd; exact Option.some.inj hd
      rw [List.drop_eq_getElem_cons hlt, e4]
    -- the list so far through each step
    have keepD : ∀ {σ2 : L2.St} {ρ2 : DEnv} {F2 H2 : Hp}, Ev (wipe σ vs) ρ' F3 H3 σ2 ρ2 F2 H2 → H2 D = some (.lst yv) ∧ RepL X.K F2 yv ys ∧ F2 D = none ∧ ¬ Ow σ2 ρ2 D := fun {σ2 ρ2 F2 H2} ev => by
      have hD3 : H3 D = some (.lst yv) := gr.all _ _ hD
      have nF3 : F3 D = none := by
        cases hF : F3 D with
        | none => rfl
        | some u =>
          have := gr.newF D nF (by rw [hF]; simp)
          rw [hD] at this; cases this
      refine ⟨ev.keep D _ hD3 (fun z => no z.ow) (fun ps z => by cases z), ry.mono (.of (gr.ext.trans ev.ext)), ?_, fun z => ?_⟩
      · cases hF : F2 D with
        | none => rfl
        | some u =>
          rcases ev.newF D nF3 (by rw [hF]; simp) with z | z
          · rw [hD3] at z; cases z
          · exact absurd z no
      · rcases ev.own' D z with z | z
        · rw [hD3] at z; cases z
        · exact no z
    -- the block's outcome is no failure
    have good : ∃ zs ρz, compD vs h tt el (ds.drop i) ys ρ' = .ok zs ρz := by
      rw [eq']
      cases hcd : compD vs h tt el ds [] (wipeD (lockS lk ρ1) vs) with
      | ok zs ρz => exact ⟨zs, ρz, rfl⟩
      | ex x ρz => rw [hcd] at o2; exact o2.elim
      | bad => rw [hcd] at o2; exact o2.elim
    rw [e3] at eq' good
    dsimp only [compD] at eq' good
    cases ht : h (.d d) ρ' with
    | nx ρ4 =>
      rw [ht] at eq' good
      dsimp only at eq' good
      refine ⟨wipe σ vs, ρ', F3, H3, F3, ρ', .d d, s3, .refl, rx, ?_⟩
      rw [ht]
      refine fun σ4 F4 H4 s4 ev4 of4 => ⟨wipe_off of4 hS, F4, ρ4, s4, ?_⟩
      cases htt : tt ρ4 with
      | bad => rw [htt] at good; obtain ⟨_, _, z⟩ := good; cases z
      | ex x ρ5 => rw [htt] at good; obtain ⟨_, _, z⟩ := good; cases z
      | ok b ρ5 =>
        rw [htt] at eq' good
        dsimp only at eq' good
        refine fun b' F5 H5 s5 ev5 eb => ?_
        have eb : b' = b := eb
        subst eb
        have ev45 := ev4.trans ev5
        have e4 := wipe_off of4 hS
        have sl : ∀ {σx : L2.St} {ρx : DEnv} {Fx Hx : Hp}, σx = σ4 → SR X.K Fx Hx σx ρx → Ev (wipe σ vs) ρ' F3 H3 σx ρx Fx Hx → SR X.K Fx Hx (wipe σ vs) (wipeD ρx vs) ∧ Ev (wipe σ vs) (wipeD (lockS lk ρ1) vs) F1 H1 (wipe σ vs) (wipeD ρx vs) Fx Hx ∧ ∀ i ∈ vs, ∀ c m, (wipeD ρx vs)[i]? ≠ some (.ow c m) := fun {σx ρx Fx Hx} ex sx evx => by
          subst ex
          obtain ⟨w1, w2⟩ := in_wipe e4 sx evx (fun i c m q hi => hu i hi c m q)
          refine ⟨w1, ev3.trans w2, fun i hi c m z => ?_⟩
          rcases wipeD_get z with ⟨w, _⟩ | ⟨_, n⟩
          · cases w
          · exact n hi
        cases b' with
        | false =>
          refine iteF ?_
          rw [if_neg Bool.false_ne_true] at eq'
          obtain ⟨k1, k2, k3, k4⟩ := keepD ev45
          obtain ⟨w1, w2, w3⟩ := sl rfl s5 ev45
          exact ⟨F5, wipeD ρ5 vs, yv, ys, w1, w2, k1, k2, k3, fun z => k4 (by rw [← e4] at z; exact ow_wipe z), by omega, w3, eq'⟩
        | true =>
          refine iteT ?_
          rw [if_pos rfl] at eq' good
          refine ⟨F5, ρ5, s5, ?_⟩
          cases he : el ρ5 with
          | bad => rw [he] at good; obtain ⟨_, _, z⟩ := good; cases z
          | ex x ρ6 => rw [he] at good; obtain ⟨_, _, z⟩ := good; cases z
          | ok y ρ6 =>
            cases y with
            | fr c => rw [he] at good; obtain ⟨_, _, z⟩ := good; cases z
            | sl i => rw [he] at good; obtain ⟨_, _, z⟩ := good; cases z
            | d y =>
              rw [he] at eq'
              dsimp only at eq'
              refine fun v F6 H6 s6 ev6 r6 => ?_
              have ev46 := ev45.trans ev6
              obtain ⟨k1, k2, k3, k4⟩ := keepD ev46
              have hl : yv.length = ys.length := ry.length
              refine ⟨yv, k1, by rw [hl, sizeLine_eq]; omega, ?_⟩
              obtain ⟨w1, w2, w3⟩ := sl rfl s6 ev46
              have k4' : ¬ Ow (wipe σ vs) (wipeD ρ6 vs) D := fun z => k4 (by rw [← e4] at z; exact ow_wipe z)
              exact ⟨F6, wipeD ρ6 vs, yv ++ [v], ys ++ [y], sr_other w1 k3 k4' (nk_lst k1), ev_other w2 nD, upd_same, k2.app (.one r6), k3, k4', by rw [List.length_append]; show ys.length + 1 ≤ i + 1; omega, w3, eq'⟩
    | rt x ρ4 => rw [ht] at good; obtain ⟨_, _, z⟩ := good; cases z
    | bk ρ4 => rw [ht] at good; obtain ⟨_, _, z⟩ := good; cases z
    | ct ρ4 => rw [ht] at good; obtain ⟨_, _, z⟩ := good; cases z
    | ex x ρ4 => rw [ht] at good; obtain ⟨_, _, z⟩ := good; cases z
    | bad => rw [ht] at good; obtain ⟨_, _, z⟩ := good; cases z
  · have e : i = ds.length := by omega
    subst e
    refine .inl ⟨its.stop _ F' H' (Nat.le_refl _) s'.sub pre, ?_⟩
    rw [List.drop_length] at eq'
    exact fin eq'.symm s' ev' hu nD nF hD ry no
theorem de_lc (hc : X.calm = true) (hN : X.N.Nodup) (hi : DI X W tg iter fi) (ok : BlkOk X.N X.env.scope scope own) (hS : ∀ i ∈ S, i ∈ own.map (·.2))
    (hg : ∀ (s : Shared) (H : Hp) (C : Addr) (cl : List (Str × Addr)) (fp : List Addr), DG (X.blk s H scope (compEnvC scope cl C X.env) fp) tg S h) (ht : ∀ (s : Shared) (H : Hp) (C : Addr) (cl : List (Str × Addr)) (fp : List Addr), DTs (X.blk s H scope (compEnvC scope cl C X.env) fp) W0 ifs tt)
    (he : ∀ (s : Shared) (H : Hp) (C : Addr) (cl : List (Str × Addr)) (fp : List Addr), DE (X.blk s H scope (compEnvC scope cl C X.env) fp) W0 elt el) (hs : ∀ x, foldedSetIterable iter X.env x = pure x := by intro _; rfl) :
    DE X W (.ListComp elt [⟨tg, iter, ifs, 0⟩] scope pos) (eLc (own.map (·.2)) fi h tt el) :=
  pe_conseq (pe_lc (g := tG X.K S h) (tt := tT X.K X.mg W0 tt) (te := tD X.K X.mg W0 el) hc hN hi ok hg ht he hs) fun _ _ _ => lc_ok hS
theorem ds_setLc (i : Nat) {y : Str} {py : Pos} {spos : Pos} (hc : X.calm = true) (hN : X.N.Nodup) (hi : DI X W tg iter fi) (ok : BlkOk X.N X.env.scope scope own) (hS : ∀ i ∈ S, i ∈ own.map (·.2))
    (hg : ∀ (s : Shared) (H : Hp) (C : Addr) (cl : List (Str × Addr)) (fp : List Addr), DG (X.blk s H scope (compEnvC scope cl C X.env) fp) tg S h) (ht : ∀ (s : Shared) (H : Hp) (C : Addr) (cl : List (Str × Addr)) (fp : List Addr), DTs (X.blk s H scope (compEnvC scope cl C X.env) fp) W0 ifs tt)
    (he : ∀ (s : Shared) (H : Hp) (C : Addr) (cl : List (Str × Addr)) (fp : List Addr), DE (X.blk s H scope (compEnvC scope cl C X.env) fp) W0 elt el)
    (hsw : swapsWith (.ListComp elt [⟨tg, iter, ifs, 0⟩] scope pos) (some (.Name y py)) spos.line X.env = pure true) (hy : X.N[i]? = some y := by rfl) (hyl : X.env.scope.names.lookup y = some .local := by rfl) (hs : ∀ x, foldedSetIterable iter X.env x = pure x := by intro _; rfl) :
    DS X W (.Assign [.Name y py] (.ListComp elt [⟨tg, iter, ifs, 0⟩] scope pos) spos) (sAsg i (eLc (own.map (·.2)) fi h tt el)) :=
  ps_conseq (ps_setLc (g := tG X.K S h) (tt := tT X.K X.mg W0 tt) (te := tD X.K X.mg W0 el) hc hN hy hyl hsw hi ok hg ht he hs) fun D σ H hq => by
    obtain ⟨F, ρ, sr, q⟩ := hq
    refine lc_ok hS ⟨F, ρ, sr, (Out.bindS (rel := relV X.K σ) q).mono fun v H1 ⟨x, F1, ρ1, e1, s1, ev1, r1, o1⟩ => ?_⟩
    obtain ⟨ρ', e2, F2, s2, ev2⟩ := asg_ok s1 ev1 r1 o1
    rw [e2] at o1
    exact o1 _ F2 H1 s2 ev2
end
end DL
/-! DL11: what changes an owned object. -/
namespace DL
open PySem PySem.Spec PyProof.Rows L2
variable [TabT]
def mutS (i : Nat) (c' : Cont) (ρ : DEnv) : R Unit := match ρ[i]? with
  | some (.ow _ .own) => .ok () (ρ.set i (.ow c' .own))
  | some (.ow _ .bor) => .ok () (ρ.set i (.ow c' .bor))
  | _ => .bad
section
variable {K : PySem.W.Frag} {σ : L2.St} {ρ ρ' : DEnv} {F H : Hp}
theorem mutS_ok {i : Nat} {c c' : Cont} {m : Md} {a : Addr} {o : HO} (sr : SR K F H σ ρ) (e : ρ[i]? = some (.ow c m)) (hm : m ≠ .lck) (ea : σ[i]? = some (some (.ref a))) (cr : CRep K F (upd H a o) a c') :
    SR K F (upd H a o) σ (ρ.set i (.ow c' m)) ∧ Ev σ ρ F H σ (ρ.set i (.ow c' m)) F (upd H a o) := by
  have hl : i < ρ.length := (List.getElem?_eq_some_iff.mp e).1
  obtain ⟨ov, g1, a', g2, nF, cr0⟩ := sr.slot i _ e
  rw [ea] at g1; cases g1; cases g2
  have at' : ∀ {j : Nat} {s : Slot}, (ρ.set i (.ow c' m))[j]? = some s → (j = i ∧ s = .ow c' m) ∨ (j ≠ i ∧ ρ[j]? = some s) := fun {j s} q => by
    by_cases hj : i = j
    · subst hj
      rw [List.getElem?_set_self hl] at q
      cases q
      exact .inl ⟨rfl, rfl⟩
    · rw [List.getElem?_set_ne hj] at q
      exact .inr ⟨fun z => hj z.symm, q⟩
  have ow2 : ∀ {b : Addr}, Ow σ (ρ.set i (.ow c' m)) b → Ow σ ρ b := fun {b} ⟨j, c1, m1, q1, q2⟩ => by
    rcases at' q1 with ⟨rfl, z⟩ | ⟨_, q1⟩
    · exact ⟨j, c, m, e, q2⟩
    · exact ⟨j, c1, m1, q1, q2⟩
  obtain ⟨ov0, x1, a0, x2, x3, x4⟩ := sr.slot i _ e
  rw [ea] at x1
  cases x1
  cases x2
  obtain ⟨o0, ho0⟩ := x4.some
  refine ⟨⟨by rw [List.length_set]; exact sr.len, fun b u q => by rw [upd_ne (ne_of_none q nF)]; exact sr.sub _ _ q, fun j s q => ?_, fun j k c1 m1 c2 m2 b q1 q2 q3 q4 => ?_, sr.tab.own ho0 (CRep.kt ho0 x4)⟩, ⟨Same.refl _, fun b u q n _ => ?_, fun b q n => absurd q n, fun b h => ?_, fun j c1 m1 q n => ?_, fun b z => .inr (ow2 z), fun b z => .inr ?_⟩⟩
  · rcases at' q with ⟨rfl, rfl⟩ | ⟨hj, q⟩
    · exact ⟨_, ea, a, rfl, nF, cr⟩
    · obtain ⟨ov, z1, z2⟩ := sr.slot j s q
      refine ⟨ov, z1, ?_⟩
      cases s with
      | un => trivial
      | d x => exact z2
      | ow c1 m1 =>
        obtain ⟨b, w1, w2, w3⟩ := z2
        subst w1
        exact ⟨b, rfl, w2, w3.mono (.of (Same.refl _)) (upd_ne fun z => hj (sr.dist j i _ _ _ _ a q e (by rw [z1, z]) ea))⟩
  · rcases at' q1 with ⟨h1, z1⟩ | ⟨_, w1⟩ <;> rcases at' q2 with ⟨h2, z2⟩ | ⟨_, w2⟩
    · rw [h1, h2]
    · subst h1; exact sr.dist _ _ _ _ _ _ b e w2 q3 q4
    · subst h2; exact sr.dist _ _ _ _ _ _ b w1 e q3 q4
    · exact sr.dist _ _ _ _ _ _ b w1 w2 q3 q4
  · rw [upd_ne fun z => n ⟨i, c, m, e, hm, by rw [z]; exact ea⟩]
    exact q
  · by_cases z : b = a
    · subst z; rw [upd_same]; simp
    · rw [upd_ne z]; exact h
  · by_cases hj : i = j
    · subst hj
      rw [e] at q; cases q
      exact ⟨rfl, c', List.getElem?_set_self hl, fun z => absurd z hm⟩
    · exact ⟨rfl, c1, by rw [List.getElem?_set_ne hj]; exact q, fun _ => rfl⟩
  · obtain ⟨j, c1, m1, q1, n1, q2⟩ := z
    rcases at' q1 with ⟨rfl, z⟩ | ⟨_, q1⟩
    · exact ⟨j, c, m, e, hm, q2⟩
    · exact ⟨j, c1, m1, q1, n1, q2⟩
theorem mutS_inv {i : Nat} {c' : Cont} (h : mutS i c' ρ = .ok () ρ') : ∃ c m, ρ[i]? = some (.ow c m) ∧ m ≠ .lck ∧ ρ' = ρ.set i (.ow c' m) := by
  unfold mutS at h
  split at h
  · rename_i c e; cases h; exact ⟨c, _, e, by decide, rfl⟩
  · rename_i c e; cases h; exact ⟨c, _, e, by decide, rfl⟩
  · cases h
end
/-- a method of the owned object at slot i: what it holds and gives -/
def methV (i : Nat) (op : Cont → List D → Option (Cont × D)) (xs : List Val) : EM := fun ρ => match ρ[i]?, dsL xs with
  | some (.ow c _), some ds => match op c ds with
    | some (c', r) => (mutS i c' ρ).bind fun _ ρ' => .ok (.d r) ρ'
    | none => .bad
  | _, _ => .bad
/-- what a method's rule asks, met by op -/
def MethS (K : PySem.W.Frag) (r : V → List V → Hp → VK → Prop) (op : Cont → List D → Option (Cont × D)) : Prop :=
  ∀ F H a vs c ds c' d Q, Same F H → CRep K F H a c → RepL K F vs ds → op c ds = some (c', d) → (∀ o v, CRep K F (upd H a o) a c' → Rep K F v d → Q v (upd H a o)) → r (.ref a) vs H Q
section
variable {X : Cx} {W : WX} {e : Expr} {es : List Expr} {f : EM} {g : M (List Val)} {pos p apos cpos : Pos} {name x : Str} {T id : String}
theorem meth_ok {K : PySem.W.Frag} {mg : Str → Option Value} {xk : XK} {σ : L2.St} {ρ : DEnv} {F H Hb : Hp} {i : Nat} {op : Cont → List D → Option (Cont × D)} {r : V → List V → Hp → VK → Prop} {vs : List V} {xs : List Val} {Q : VK} (s : MethS K r op) (sr : SR K F H σ ρ) (rl : VRL K σ Hb F H ρ vs xs)
    (h : Out K mg xk (relV K σ) σ ρ F H (methV i op xs ρ) Q) : ∃ a, σ[i]? = some (some (.ref a)) ∧ r (.ref a) vs H Q := by
  unfold methV at h
  cases hs : ρ[i]? with
  | none => rw [hs] at h; exact h.elim
  | some sl =>
    cases sl with
    | un => rw [hs] at h; exact h.elim
    | d x => rw [hs] at h; exact h.elim
    | ow c m =>
      cases hd : dsL xs with
      | none => rw [hs, hd] at h; exact h.elim
      | some ds =>
        rw [hs, hd] at h
        dsimp only at h
        cases ho : op c ds with
        | none => rw [ho] at h; exact h.elim
        | some cd =>
          obtain ⟨c', d⟩ := cd
          rw [ho] at h
          dsimp only at h
          obtain ⟨ov, g1, a, g2, nF, cr⟩ := sr.slot i _ hs
          subst g2
          refine ⟨a, g1, s F H a vs c ds c' d Q sr.sub cr (dsL_ok rl.all hd) ho fun o v cr' rv => ?_⟩
          cases hm : mutS i c' ρ with
          | bad => rw [hm] at h; exact h.elim
          | ex z ρ' =>
            exfalso
            unfold mutS at hm
            split at hm <;> cases hm
          | ok u ρ' =>
            obtain ⟨c2, m2, e2, n2, rfl⟩ := mutS_inv hm
            rw [hm] at h
            obtain ⟨s3, ev3⟩ := mutS_ok sr e2 n2 g1 cr'
            exact h v F _ s3 ev3 rv
def eMethL (i : Nat) (op : Cont → List D → Option (Cont × D)) (g : M (List Val)) : EM := fun ρ => match ρ[i]? with
  | some (.ow (.lst _) _) => (g ρ).bind fun xs ρ1 => methV i op xs ρ1
  | _ => .bad
theorem lst_ty {K : PySem.W.Frag} {σ : L2.St} {ρ : DEnv} {F H : Hp} {i : Nat} {ds : List D} {m : Md} (sr : SR K F H σ ρ) (e : ρ[i]? = some (.ow (.lst ds) m)) : ∃ a, σ[i]? = some (some (.ref a)) ∧ tyV K "list" (.ref a) H := by
  obtain ⟨ov, g1, a, g2, nF, vs, g3, g4⟩ := sr.slot i _ e
  subst g2
  exact ⟨a, g1, .inl ⟨rfl, vs, .of g3⟩⟩
/-- x.m(e, ..), x a name whose list the slot owns -/
theorem de_methL (i : Nat) {op : Cont → List D → Option (Cont × D)} {r : V → List V → Hp → VK → Prop} (pa : PlainAttrs "list") (slot : PySem.Slot "list" name id) (hty : typeOf (.builtin id) = pure (.type "method_descriptor")) (hm : MtR X id r) (s : MethS X.K r op) (ha : DA X W (e :: es) g)
    (hN : X.N[i]? = some x := by rfl) (hv : Vis X.env.scope x := by first | exact Or.inl rfl | exact Or.inr (Or.inl rfl) | exact Or.inr (Or.inr rfl)) (hd : (x == ("__debug__" : Str)) = false := by decide) (hcd : (x == ("__classdict__" : Str)) = false := by decide) (hbase : attributeBase (.Name x p) name X.env (eval (.Name x p) X.env) = eval (.Name x p) X.env := by rfl)
    (hfew : ((backTo cpos (starEach (e :: es) X.env)).all (fun x => !x.1) && (backToKw cpos (keywordEach [] X.env)).all (fun x => x.1.isSome)
      && decide ((e :: es).length + ([] : List Keyword).length + (if ([] : List Keyword).isEmpty then 0 else 1) < 30)) = true := by rfl)
    (hline : (apos.endLine == cpos.line) = true := by rfl) (hs : starEach (e :: es) X.env = (false, eval e X.env) :: starEach es X.env := by rfl) (hplain : (backTo cpos (starEach es X.env)).any (·.1) = false := by rfl) :
    DE X W (.Call (.Attribute (.Name x p) name apos) (e :: es) [] cpos) (eMethL i op g) := pe_conseq (pe_bm pa slot hty hm (pe_var hN hv hd hcd) ha hbase hfew hline hs hplain) fun σ H Q hq => by
  obtain ⟨F, ρ, sr, q⟩ := hq
  unfold eMethL at q
  split at q
  · rename_i ds m e
    obtain ⟨a, ea, ty⟩ := lst_ty sr e
    refine ⟨.ref a, ea, ty, F, ρ, sr, (Out.bind (rel := relL X.K σ) q).mono fun vs H1 ⟨xs, F1, ρ1, e1, s1, ev1, r1, o1⟩ => ?_⟩
    obtain ⟨a', ea', h⟩ := meth_ok s s1 r1 (o1.from ev1 (relV_from ev1))
    rw [ea] at ea'
    cases ea'
    exact h
  · exact q.elim
def appendO : Cont → List D → Option (Cont × D)
  | .lst xs, [d] => if xs.length < 16777216 then some (.lst (xs ++ [d]), .non) else none
  | _, _ => none
theorem ms_append {K : PySem.W.Frag} : MethS K rAppend appendO := by
  intro F H a vs c ds c' d Q s cr rl e q
  unfold appendO at e
  split at e
  · split at e
    · rename_i xs x hl
      cases e
      obtain ⟨xv, hx, rx⟩ := cr
      cases rl with
      | cons r t =>
        cases t
        exact ⟨a, xv, _, rfl, rfl, hx, by rw [rx.length, sizeLine_eq]; exact hl, q _ .non ⟨_, upd_same, rx.app (.one r)⟩ .non⟩
    · cases e
  · cases e
theorem de_append (i : Nat) (ha : DE X W e f) (hN : X.N[i]? = some x := by rfl) (hv : Vis X.env.scope x := by first | exact Or.inl rfl | exact Or.inr (Or.inl rfl) | exact Or.inr (Or.inr rfl)) (hd : (x == ("__debug__" : Str)) = false := by decide) (hcd : (x == ("__classdict__" : Str)) = false := by decide) (hbase : attributeBase (.Name x p) "append" X.env (eval (.Name x p) X.env) = eval (.Name x p) X.env := by rfl)
    (hfew : ((backTo cpos (starEach [e] X.env)).all (fun x => !x.1) && (backToKw cpos (keywordEach [] X.env)).all (fun x => x.1.isSome)
      && decide ([e].length + ([] : List Keyword).length + (if ([] : List Keyword).isEmpty then 0 else 1) < 30)) = true := by rfl)
    (hline : (apos.endLine == cpos.line) = true := by rfl) (hs : starEach [e] X.env = (false, eval e X.env) :: starEach [] X.env := by rfl) : DE X W (.Call (.Attribute (.Name x p) "append" apos) [e] [] cpos) (eMethL i appendO (aCons (fz f) aNil)) :=
  de_methL i PySem.F.plainAttrs_list PySem.F.slot_list_append PySem.F.type_list_append mt_append ms_append (da_cons (de_fz ha) da_nil hs) hN hv hd hcd hbase hfew hline hs
def popAtO : Cont → List D → Option (Cont × D)
  | .lst xs, [.int i] => if 0 ≤ i ∧ i < xs.length ∧ i < 2 ^ 63 then (match xs[i.toNat]? with | some y => some (.lst (xs.eraseIdx i.toNat), y) | none => none) else none
  | _, _ => none
theorem ms_popAt {K : PySem.W.Frag} : MethS K rPopAt popAtO := by
  intro F H a vs c ds c' d Q s cr rl e q
  unfold popAtO at e
  split at e
  · rename_i xs i
    split at e
    · rename_i hl
      split at e
      · rename_i y hy
        cases e
        obtain ⟨xv, hx, rx⟩ := cr
        cases rl with
        | cons r t =>
          cases t
          cases r
          obtain ⟨v, hv, rv⟩ := rx.get hy
          exact ⟨a, xv, i, i.toNat, v, rfl, rfl, hx, by omega, hl.2.2, by rw [rx.length]; exact seqIndex_of hl.1 hl.2.1, hv, q _ v ⟨_, upd_same, rx.eraseIdx _⟩ rv⟩
      · cases e
    · cases e
  · cases e
theorem de_popAt (i : Nat) (ha : DE X W e f) (hN : X.N[i]? = some x := by rfl) (hv : Vis X.env.scope x := by first | exact Or.inl rfl | exact Or.inr (Or.inl rfl) | exact Or.inr (Or.inr rfl)) (hd : (x == ("__debug__" : Str)) = false := by decide) (hcd : (x == ("__classdict__" : Str)) = false := by decide) (hbase : attributeBase (.Name x p) "pop" X.env (eval (.Name x p) X.env) = eval (.Name x p) X.env := by rfl)
    (hfew : ((backTo cpos (starEach [e] X.env)).all (fun x => !x.1) && (backToKw cpos (keywordEach [] X.env)).all (fun x => x.1.isSome)
      && decide ([e].length + ([] : List Keyword).length + (if ([] : List Keyword).isEmpty then 0 else 1) < 30)) = true := by rfl)
    (hline : (apos.endLine == cpos.line) = true := by rfl) (hs : starEach [e] X.env = (false, eval e X.env) :: starEach [] X.env := by rfl) : DE X W (.Call (.Attribute (.Name x p) "pop" apos) [e] [] cpos) (eMethL i popAtO (aCons (fz f) aNil)) :=
  de_methL i PySem.F.plainAttrs_list PySem.F.slot_list_pop PySem.F.type_list_pop mt_popAt ms_popAt (da_cons (de_fz ha) da_nil hs) hN hv hd hcd hbase hfew hline hs
/-! ### x[k] = e -/
def dSet : List Key → List D → Key → D → List D
  | k :: ks, v :: vs, j, d => (if k = j then d else v) :: dSet ks vs j d
  | _, vs, _, _ => vs
def dPut (ks : List Key) (vs : List D) (k : Key) (d : D) : Cont := if (ks.any fun j => decide (j = k)) = true then .dic ks (dSet ks vs k d) else .dic (ks ++ [k]) (vs ++ [d])
def storeO : Cont → D → D → Option Cont
  | .lst xs, .int k, d => match ixN xs.length k with
    | some j => some (.lst (xs.set j d))
    | none => none
  | .dic ks vs, y, d => match keyD y with
    | some k => if ks.length < 16777216 then some (dPut ks vs k d) else none
    | none => none
  | _, _, _ => none
def storeV (i : Nat) (x k : Val) : SM := fun ρ => match x, k.peek ρ, ρ[i]? with
  | .d d, some y, some (.ow c _) => match storeO c y d with
    | some c' => (mutS i c' ρ).bindS fun _ ρ' => .nx ρ'
    | none => .bad
  | _, _, _ => .bad
def sStore (i : Nat) (g f : EM) : SM := fun ρ => (f ρ).bindS fun x ρ1 => match ρ1[i]? with
  | some (.ow _ _) => (g ρ1).bindS fun k ρ2 => storeV i x k ρ2
  | _ => .bad
theorem dSet_zip {K : PySem.W.Frag} {F : Hp} {k : Key} {v : V} {d : D} (r : Rep K F v d) : ∀ {ks : List Key} {vs : List V} {ds : List D}, ks.length = vs.length → RepL K F vs ds → ∃ us, (ks.zip vs).map (fun kv => if kv.1 = k then (kv.1, v) else kv) = ks.zip us ∧ ks.length = us.length ∧ RepL K F us (dSet ks ds k d)
  | [], [], ds, l, rl => ⟨[], rfl, rfl, by cases rl; exact .nil⟩
  | k' :: ks, u :: vs, _, l, .cons a b => by
    obtain ⟨us, h1, h2, h3⟩ := dSet_zip r (ks := ks) (vs := vs) (by simpa using l) b
    by_cases hk : k' = k
    · refine ⟨v :: us, ?_, by simp [h2], ?_⟩
      · rw [List.zip_cons_cons, List.map_cons, h1, if_pos hk]; rfl
      · unfold dSet; rw [if_pos hk]; exact .cons r h3
    · refine ⟨u :: us, ?_, by simp [h2], ?_⟩
      · rw [List.zip_cons_cons, List.map_cons, h1, if_neg hk]; rfl
      · unfold dSet; rw [if_neg hk]; exact .cons a h3
theorem dPut_ok {K : PySem.W.Frag} {F H : Hp} {a : Addr} {ks : List Key} {vs : List V} {ds : List D} {k : Key} {v : V} {d : D} (l : ks.length = vs.length) (rl : RepL K F vs ds) (r : Rep K F v d) : CRep K F (upd H a (.dK (putK (ks.zip vs) k v))) a (dPut ks ds k d) := by
  have hany : ∀ {ks : List Key} {vs : List V}, ks.length = vs.length → ((ks.zip vs).any fun kv => decide (kv.1 = k)) = ks.any fun j => decide (j = k) := by
    intro ks
    induction ks with
    | nil => intro vs l; simp
    | cons k' ks ih =>
      intro vs l
      cases vs with
      | nil => simp at l
      | cons u vs => rw [List.zip_cons_cons, List.any_cons, List.any_cons, ih (by simpa using l)]
  unfold putK dPut
  rw [hany l]
  by_cases hk : (ks.any fun j => decide (j = k)) = true
  · rw [if_pos hk, if_pos hk]
    obtain ⟨us, h1, h2, h3⟩ := dSet_zip (k := k) r l rl
    exact ⟨us, by rw [h1]; exact upd_same, h2, h3⟩
  · rw [if_neg hk, if_neg hk]
    refine ⟨vs ++ [v], ?_, by simp [l], rl.app (.one r)⟩
    rw [List.zip_append l]
    exact upd_same
theorem ps_or {st : Stmt} {t t' : TS} (h : PS X st t) (h' : PS X st t') : PS X st (fun D σ H => t D σ H ∨ t' D σ H) := ⟨fun pins s σ H D I q => q.elim (h.run pins s σ H D I) (h'.run pins s σ H D I)⟩
/-- what is stored, by the value's slot: the list's, the dict's own way -/
theorem store_ok {K : PySem.W.Frag} {mg : Str → Option Value} {σ : L2.St} {ρ : DEnv} {F H Hb Hb' : Hp} {i : Nat} {x k : Val} {v w : V} {D : Ends} (sr : SR K F H σ ρ) (rx : VR K σ Hb F H ρ v x) (rk : VR K σ Hb' F H ρ w k) (h : OutS K mg W σ ρ F H (storeV i x k ρ) D) :
    ∃ a c m, ρ[i]? = some (.ow c m) ∧ σ[i]? = some (some (.ref a)) ∧ ((∃ xs n j, (∃ ds, c = .lst ds) ∧ H a = some (.lst xs) ∧ w = .int n ∧ ixN xs.length n = some j ∧ D.nx σ (upd H a (.lst (xs.set j v)))) ∨ ((∃ ks ds, c = .dic ks ds) ∧ ∃ H', DPut H a w v H' ∧ D.nx σ H')) := by
  unfold storeV at h
  cases x with
  | fr c => exact h.elim
  | sl j => exact h.elim
  | d d =>
    cases hk : k.peek ρ with
    | none => rw [hk] at h; exact h.elim
    | some y =>
      cases hs : ρ[i]? with
      | none => rw [hk, hs] at h; exact h.elim
      | some sl =>
        cases sl with
        | un => rw [hk, hs] at h; exact h.elim
        | d z => rw [hk, hs] at h; exact h.elim
        | ow c m =>
          rw [hk, hs] at h
          dsimp only at h
          obtain ⟨ov, g1, a, g2, nF, cr⟩ := sr.slot i _ hs
          subst g2
          refine ⟨a, c, m, rfl, g1, ?_⟩
          have ry := rk.peek sr hk
          cases hc : storeO c y d with
          | none => rw [hc] at h; exact h.elim
          | some c' =>
            rw [hc] at h
            dsimp only at h
            have fin : ∀ {o : HO}, CRep K F (upd H a o) a c' → D.nx σ (upd H a o) := fun {o} cr' => by
              cases hm : mutS i c' ρ with
              | bad => rw [hm] at h; exact h.elim
              | ex z ρ' =>
                exfalso
                unfold mutS at hm
                split at hm <;> cases hm
              | ok u ρ' =>
                obtain ⟨c2, m2, e2, n2, rfl⟩ := mutS_inv hm
                rw [hm] at h
                obtain ⟨s3, ev3⟩ := mutS_ok sr e2 n2 g1 cr'
                exact h σ F _ s3 ev3
            cases c with
            | lst xs =>
              cases y with
              | int n =>
                dsimp only [storeO] at hc
                obtain rfl := ry.int
                split at hc
                · rename_i j hj
                  cases hc
                  obtain ⟨xv, hx, rl⟩ := cr
                  exact .inl ⟨xv, n, j, ⟨_, rfl⟩, hx, rfl, by rw [rl.length]; exact hj, fin ⟨_, upd_same, rl.set rx j⟩⟩
                · cases hc
              | _ => cases hc
            | dic ks vs =>
              dsimp only [storeO] at hc
              split at hc
              · rename_i k' hk'
                split at hc
                · rename_i hl
                  cases hc
                  obtain ⟨xv, hx, l, rl⟩ := cr
                  obtain rfl := ry.key hk'
                  refine .inr ⟨⟨_, _, rfl⟩, _, .inl ⟨_, k', hx, rfl, by rw [List.length_zip, ← l, Nat.min_self, sizeLine_eq]; exact hl, rfl⟩, fin (dPut_ok l rl rx)⟩
                · cases hc
              · cases hc
theorem ds_store (i : Nat) {ix value : Expr} {pos' : Pos} (hu : X.A.units + 1 < cLine) (hv : DE X W value f) {k : EM} (hi : DE X W ix k) (hN : X.N[i]? = some x := by rfl) (hvis : Vis X.env.scope x := by first | exact Or.inl rfl | exact Or.inr (Or.inl rfl) | exact Or.inr (Or.inr rfl)) (hd : (x == ("__debug__" : Str)) = false := by decide) (hcd : (x == ("__classdict__" : Str)) = false := by decide)
    (ha : ∀ v, assign (.Subscript (.Name x p) ix pos') X.env v = (do
      let ov ← holding [v] (eval (.Name x p) X.env)
      let iv ← holding [v, ov] (eval ix X.env)
      standAt pos'
      holding [v, ov, iv] (setItem ov iv v)
      release [v, ov, iv] []) := by intro _; rfl)
    (hs : swapsWithSole [.Subscript (.Name x p) ix pos'] value pos.line X.env = pure false := by rfl) (hw : swappedStores [.Subscript (.Name x p) ix pos'] value X.env = pure none := by rfl)
    (h1 : (assignEach [.Subscript (.Name x p) ix pos'] X.env).map (·.2) = [assign (.Subscript (.Name x p) ix pos') X.env] := by rfl)
    (hs2 : swapsWith value (some (.Subscript (.Name x p) ix pos')) pos.line X.env = pure false := by rfl) : DS X W (.Assign [.Subscript (.Name x p) ix pos'] value pos) (sStore i k (fz f)) :=
  ps_conseq (ps_or (ps_asg (de_fz hv) (pg_sub (pe_var hN hvis hd hcd) hi set_list ha) hs hw h1) (ps_dput hu (pe_var hN hvis hd hcd) hi (de_fz hv) hs2)) fun D σ H hq => by
    obtain ⟨F, ρ, sr, q⟩ := hq
    unfold sStore at q
    cases hf : fz f ρ with
    | bad => rw [hf] at q; exact q.elim
    | ex z ρ1 => rw [hf] at q; exact .inl ⟨F, ρ, sr, by rw [hf]; exact fun cls dd F2 H2 s2 ev2 r2 => q cls dd σ F2 H2 s2 ev2 r2⟩
    | ok xv ρ1 =>
      rw [hf] at q
      dsimp only [R.bindS] at q
      cases hs' : ρ1[i]? with
      | none => rw [hs'] at q; exact q.elim
      | some sl =>
        cases sl with
        | un => rw [hs'] at q; exact q.elim
        | d z => rw [hs'] at q; exact q.elim
        | ow c m =>
          rw [hs'] at q
          dsimp only at q
          -- the object behind the index's evaluation
          cases hk : k ρ1 with
          | bad => rw [hk] at q; exact q.elim
          | ex z ρ2 =>
            rw [hk] at q
            refine .inl ⟨F, ρ, sr, ?_⟩
            rw [hf]
            intro v F1 H1 s1 ev1 r1
            obtain ⟨ov, g1, a, g2, g3, g4⟩ := s1.slot i _ hs'
            subst g2
            refine ⟨.ref a, g1, F1, ρ1, s1, ?_⟩
            rw [hk]
            exact fun cls dd F2 H2 s2 ev2 r2 => q cls dd σ F2 H2 s2 (ev1.trans ev2) r2
          | ok kv ρ2 =>
            rw [hk] at q
            have run : ∀ v F1 H1, SR X.K F1 H1 σ ρ1 → Ev σ ρ F H σ ρ1 F1 H1 → VR X.K σ H F1 H1 ρ1 v xv → ∃ a, σ[i]? = some (some (.ref a)) ∧ ∀ w F2 H2, SR X.K F2 H2 σ ρ2 → Ev σ ρ1 F1 H1 σ ρ2 F2 H2 → VR X.K σ H1 F2 H2 ρ2 w kv →
                ∃ a' c' m', ρ2[i]? = some (.ow c' m') ∧ σ[i]? = some (some (.ref a')) ∧ ((∃ xs n j, (∃ ds, c' = .lst ds) ∧ H2 a' = some (.lst xs) ∧ w = .int n ∧ ixN xs.length n = some j ∧ D.nx σ (upd H2 a' (.lst (xs.set j v)))) ∨ ((∃ ks ds, c' = .dic ks ds) ∧ ∃ H', DPut H2 a' w v H' ∧ D.nx σ H')) := fun v F1 H1 s1 ev1 r1 => by
              obtain ⟨ov, g1, a, g2, g3, g4⟩ := s1.slot i _ hs'
              subst g2
              refine ⟨a, g1, fun w F2 H2 s2 ev2 r2 => ?_⟩
              exact store_ok s2 (r1.ev ev2) r2 (OutS.from (r := storeV i xv kv ρ2) q (ev1.trans ev2))
            cases hc : ρ2[i]? with
            | none =>
              exfalso
              dsimp only [R.bindS] at q
              unfold storeV at q
              rw [hc] at q
              split at q <;> first | exact q | (rename_i h4; cases h4)
            | some sl2 =>
              cases sl2 with
              | un =>
                exfalso
                dsimp only [R.bindS] at q
                unfold storeV at q
                rw [hc] at q
                split at q <;> first | exact q | (rename_i h4; cases h4)
              | d z =>
                exfalso
                dsimp only [R.bindS] at q
                unfold storeV at q
                rw [hc] at q
                split at q <;> first | exact q | (rename_i h4; cases h4)
              | ow c2 m2 =>
                cases c2 with
                | lst ds =>
                  refine .inl ⟨F, ρ, sr, ?_⟩
                  rw [hf]
                  intro v F1 H1 s1 ev1 r1
                  obtain ⟨a, g1, g2⟩ := run v F1 H1 s1 ev1 r1
                  refine ⟨.ref a, g1, F1, ρ1, s1, ?_⟩
                  rw [hk]
                  intro w F2 H2 s2 ev2 r2
                  obtain ⟨a', c', m', e1, e2, h⟩ := g2 w F2 H2 s2 ev2 r2
                  rw [g1] at e2; cases e2
                  rcases h with ⟨xs, n, j, _, h1, h2, h3, h4⟩ | ⟨⟨ks, ds', e3⟩, _⟩
                  · exact ⟨a, xs, n, j, rfl, h2, h1, h3, h4⟩
                  · rw [hc] at e1; cases e1; cases e3
                | dic ks ds =>
                  refine .inr ⟨F, ρ, sr, ?_⟩
                  rw [hf]
                  intro v F1 H1 s1 ev1 r1
                  obtain ⟨a, g1, g2⟩ := run v F1 H1 s1 ev1 r1
                  refine ⟨.ref a, g1, F1, ρ1, s1, ?_⟩
                  rw [hk]
                  intro w F2 H2 s2 ev2 r2
                  obtain ⟨a', c', m', e1, e2, h⟩ := g2 w F2 H2 s2 ev2 r2
                  rw [g1] at e2; cases e2
                  rcases h with ⟨xs, n, j, ⟨ds', e3⟩, _⟩ | ⟨_, H', h1, h2⟩
                  · rw [hc] at e1; cases e1; cases e3
                  · exact ⟨a, H', rfl, h1, h2⟩
end
end DL
/-! DL12: defs and their calls. -/
namespace DL
open PySem PySem.Spec PyProof.Rows L2
variable [TabT]
inductive RF where
  | ret (x : Val) (as : DEnv) | ex (x : Ex) (as : DEnv) | bad
abbrev FM := DEnv → RF
/-- what a def hands back -/
def VRF (K : PySem.W.Frag) (σ : L2.St) (as as' : DEnv) (H F' H' : Hp) (v : V) : Val → Prop
  | .d x => Rep K F' v x
  | .fr c => ∃ p, v = .ref p ∧ (H p = none ∨ ∃ (j : Nat) (c0 : Cont), as[j]? = some (.ow c0 .own) ∧ σ[j]? = some (some (.ref p))) ∧ F' p = none ∧ CRep K F' H' p c ∧ ¬ Ow σ as' p
  | .sl _ => False
def OutF (K : PySem.W.Frag) (mg : Str → Option Value) (E : XK) (σ : L2.St) (as : DEnv) (F H : Hp) (r : RF) (Q : VK) : Prop :=
  match r with
  | .ret x as' => ∀ v F' H', SR K F' H' σ as' → Ev σ as F H σ as' F' H' → VRF K σ as as' H F' H' v x → Q v H'
  | .ex x as' => ∀ cls dd F' H', SR K F' H' σ as' → Ev σ as F H σ as' F' H' → XR K mg F' x cls dd → E cls dd H'
  | .bad => False
def spD (K : PySem.W.Frag) (mg : Str → Option Value) (n : Nat) (Fm : FM) : Sp := fun vs H Q E => ∃ F as, SR K F H (vs.map some) as ∧ as.length = n ∧ OutF K mg E (vs.map some) as F H (Fm as) Q
/-! ### the arguments' slots -/
def backSlot (s : Slot) (t : Option Slot) : Slot := match s with
  | .ow _ .own => .un
  | .ow c m => match t with
    | some t => t
    | none => .ow c m
  | s => s
def argsBack (as ρ : DEnv) : DEnv := match as, ρ with
  | s :: as, t :: ρ => backSlot s (some t) :: argsBack as ρ
  | s :: as, [] => backSlot s none :: argsBack as []
  | [], _ => []
theorem argsBack_len : ∀ (as ρ : DEnv), (argsBack as ρ).length = as.length
  | [], ρ => by unfold argsBack; rfl
  | s :: as, [] => by unfold argsBack; rw [List.length_cons, argsBack_len as [], List.length_cons]
  | s :: as, t :: ρ => by unfold argsBack; rw [List.length_cons, argsBack_len as ρ, List.length_cons]
theorem argsBack_get : ∀ {as ρ : DEnv} {i : Nat}, (argsBack as ρ)[i]? = (as[i]?).map fun s => backSlot s ρ[i]?
  | [], ρ, i => by unfold argsBack; simp
  | s :: as, [], 0 => by unfold argsBack; simp
  | s :: as, [], i + 1 => by
    unfold argsBack
    rw [List.getElem?_cons_succ, List.getElem?_cons_succ, argsBack_get]
    simp
  | s :: as, t :: ρ, 0 => by unfold argsBack; simp
  | s :: as, t :: ρ, i + 1 => by
    unfold argsBack
    rw [List.getElem?_cons_succ, List.getElem?_cons_succ, List.getElem?_cons_succ, argsBack_get]
def finish (x : Val) (as ρ : DEnv) : RF := match x with
  | .d d => .ret (.d d) (argsBack as ρ)
  | .fr c => .ret (.fr c) (argsBack as ρ)
  | .sl i => match ρ[i]? with
    | some (.d d) => .ret (.d d) (argsBack as ρ)
    | some (.ow c .own) => .ret (.fr c) (argsBack as ρ)
    | _ => .bad
/-- a def with np parameters and nl further names -/
def fnD (np nl : Nat) (body : SM) : FM := fun as => if as.length = np then (match body (as ++ List.replicate nl .un) with
  | .nx ρ => finish (.d .non) as ρ
  | .rt x ρ => finish x as ρ
  | .ex x ρ => .ex x (argsBack as ρ)
  | _ => .bad) else .bad
section
variable {K : PySem.W.Frag} {σ0 σ' : L2.St} {as ρ0 ρ' : DEnv} {F H F' H' : Hp} {vs : List V}
theorem start_map {N : List Str} {i : Nat} (h : i < vs.length) : (L2.start N vs)[i]? = (vs.map some)[i]? := by
  unfold L2.start
  rw [List.getElem?_append_left (by rw [List.length_map]; exact h)]
theorem sr_start {N : List Str} {nl : Nat} (sr : SR K F H (vs.map some) as) (hN : N.length = vs.length + nl) : SR K F H (L2.start N vs) (as ++ List.replicate nl .un) := by
  have hl : vs.length = as.length := by have := sr.len; rw [List.length_map] at this; exact this
  have low : ∀ {i : Nat} {s : Slot}, (as ++ List.replicate nl .un)[i]? = some s → (i < vs.length ∧ as[i]? = some s) ∨ (vs.length ≤ i ∧ s = .un ∧ i < vs.length + nl) := fun {i s} e => by
    by_cases hi : i < as.length
    · rw [List.getElem?_append_left hi] at e
      exact .inl ⟨by omega, e⟩
    · rw [List.getElem?_append_right (by omega)] at e
      have h2 := (List.getElem?_eq_some_iff.mp e).1
      rw [List.length_replicate] at h2
      rw [List.getElem?_replicate] at e
      rw [if_pos h2] at e
      cases e
      exact .inr ⟨by omega, rfl, by omega⟩
  refine ⟨?_, sr.sub, fun i s e => ?_, fun i j c m c' m' a e1 e2 e3 e4 => ?_, sr.tab⟩
  · unfold L2.start
    rw [List.length_append, List.length_append, List.length_map, List.length_replicate, List.length_replicate]
    omega
  · rcases low e with ⟨h1, h2⟩ | ⟨h1, rfl, h3⟩
    · obtain ⟨ov, g1, g2⟩ := sr.slot i s h2
      exact ⟨ov, by rw [start_map h1]; exact g1, g2⟩
    · refine ⟨none, ?_, trivial⟩
      unfold L2.start
      rw [List.getElem?_append_right (by rw [List.length_map]; exact h1), List.length_map, List.getElem?_replicate, if_pos (by omega)]
  · rcases low e1 with ⟨h1, h2⟩ | ⟨h1, z, h3⟩
    · rcases low e2 with ⟨h4, h5⟩ | ⟨_, z, _⟩
      · rw [start_map h1] at e3
        rw [start_map h4] at e4
        exact sr.dist i j c m c' m' a h2 h5 e3 e4
      · cases z
    · cases z
theorem ow_start {N : List Str} {nl : Nat} {a : Addr} (hl : vs.length = as.length) (h : Ow (L2.start N vs) (as ++ List.replicate nl .un) a) : Ow (vs.map some) as a := by
  obtain ⟨i, c, m, e1, e2⟩ := h
  by_cases hi : i < as.length
  · rw [List.getElem?_append_left hi] at e1
    rw [start_map (by omega)] at e2
    exact ⟨i, c, m, e1, e2⟩
  · rw [List.getElem?_append_right (by omega), List.getElem?_replicate] at e1
    split at e1 <;> cases e1
theorem mt_start {N : List Str} {nl : Nat} {a : Addr} (hl : vs.length = as.length) (h : Mt (L2.start N vs) (as ++ List.replicate nl .un) a) : Mt (vs.map some) as a := by
  obtain ⟨i, c, m, e1, n, e2⟩ := h
  by_cases hi : i < as.length
  · rw [List.getElem?_append_left hi] at e1
    rw [start_map (by omega)] at e2
    exact ⟨i, c, m, e1, n, e2⟩
  · rw [List.getElem?_append_right (by omega), List.getElem?_replicate] at e1
    split at e1 <;> cases e1
theorem finish_ok {N : List Str} {nl : Nat} (sr0 : SR K F H (vs.map some) as) (s' : SR K F' H' σ' ρ') (ev : Ev (L2.start N vs) (as ++ List.replicate nl .un) F H σ' ρ' F' H') :
    SR K F' H' (vs.map some) (argsBack as ρ') ∧ Ev (vs.map some) as F H (vs.map some) (argsBack as ρ') F' H' := by
  have hl : vs.length = as.length := by have := sr0.len; rw [List.length_map] at this; exact this
  -- a lent slot behind the body
  have lent : ∀ {i : Nat} {c : Cont} {m : Md}, as[i]? = some (.ow c m) → m ≠ .own → σ'[i]? = (vs.map some)[i]? ∧ ∃ c', ρ'[i]? = some (.ow c' m) ∧ (m = .lck → c' = c) ∧ (argsBack as ρ')[i]? = some (.ow c' m) := fun {i c m} e n => by
    have hi : i < as.length := (List.getElem?_eq_some_iff.mp e).1
    obtain ⟨b1, c', b2, b3⟩ := ev.bor i c m (by rw [List.getElem?_append_left hi]; exact e) n
    rw [start_map (by omega)] at b1
    refine ⟨b1, c', b2, b3, ?_⟩
    rw [argsBack_get, e, b2]
    cases m with
    | own => exact absurd rfl n
    | bor => rfl
    | lck => rfl
  have inv : ∀ {i : Nat} {s : Slot}, (argsBack as ρ')[i]? = some s → (∃ c m, s = .ow c m ∧ m ≠ .own ∧ (∃ c0, as[i]? = some (.ow c0 m)) ∧ ρ'[i]? = some (.ow c m)) ∨ (∃ x, s = .d x ∧ as[i]? = some (.d x)) ∨ s = .un := fun {i s} e => by
    rw [argsBack_get] at e
    cases q : as[i]? with
    | none => rw [q] at e; cases e
    | some t =>
      rw [q] at e
      cases t with
      | un => cases e; exact .inr (.inr rfl)
      | d x => cases e; exact .inr (.inl ⟨x, rfl, rfl⟩)
      | ow c0 m =>
        by_cases hm : m = .own
        · subst hm; cases e; exact .inr (.inr rfl)
        · obtain ⟨_, c', b2, _, b4⟩ := lent q hm
          have e' : (argsBack as ρ')[i]? = some s := by rw [argsBack_get, q]; exact e
          rw [b4] at e'
          cases e'
          exact .inl ⟨c', m, rfl, hm, ⟨c0, rfl⟩, b2⟩
  refine ⟨⟨by rw [argsBack_len, List.length_map]; exact hl, s'.sub, fun i s e => ?_, fun i j c m c' m' a e1 e2 e3 e4 => ?_, s'.tab⟩, ⟨ev.ext, fun a o e n nt => ev.keep a o e (fun z => n (mt_start hl z)) nt, fun a e n => (ev.newF a e n).imp id (ow_start hl), ev.dom, fun i c m e n => ?_, fun a ⟨i, c, m, e1, e2⟩ => ?_, fun a ⟨i, c, m, e1, n, e2⟩ => ?_⟩⟩
  · rcases inv e with ⟨c, m, rfl, hm, ⟨c0, h0⟩, h1⟩ | ⟨x, rfl, h0⟩ | rfl
    · obtain ⟨b1, _⟩ := lent h0 hm
      obtain ⟨ov, g1, g2⟩ := s'.slot i _ h1
      exact ⟨ov, by rw [← b1]; exact g1, g2⟩
    · obtain ⟨ov, g1, v, g2, g3⟩ := sr0.slot i _ h0
      exact ⟨ov, g1, v, g2, g3.mono (.of ev.ext)⟩
    · have hi : i < (vs.map some).length := by
        have := (List.getElem?_eq_some_iff.mp e).1
        rw [argsBack_len] at this
        rw [List.length_map]; omega
      exact ⟨_, List.getElem?_eq_getElem hi, trivial⟩
  · rcases inv e1 with ⟨c1, m1, z, hm1, ⟨c01, h01⟩, h1⟩ | ⟨x, z, _⟩ | z
    · rcases inv e2 with ⟨c2, m2, z', hm2, ⟨c02, h02⟩, h2⟩ | ⟨x, z', _⟩ | z'
      · exact s'.dist i j c1 m1 c2 m2 a h1 h2 (by rw [(lent h01 hm1).1]; exact e3) (by rw [(lent h02 hm2).1]; exact e4)
      · cases z'
      · cases z'
    · cases z
    · cases z
  · obtain ⟨_, c', _, b3, b4⟩ := lent e n
    exact ⟨rfl, c', b4, b3⟩
  · rcases inv e1 with ⟨c1, m1, z, hm1, ⟨c01, h01⟩, h1⟩ | ⟨x, z, _⟩ | z
    · cases z; exact .inr ⟨i, c01, m, h01, e2⟩
    · cases z
    · cases z
  · rcases inv e1 with ⟨c1, m1, z, hm1, ⟨c01, h01⟩, h1⟩ | ⟨x, z, _⟩ | z
    · cases z; exact .inr ⟨i, c01, m, h01, n, e2⟩
    · cases z
    · cases z
/-- the value that leaves the def -/
theorem leave_ok {mg : Str → Option Value} {E : XK} {Q : VK} {N : List Str} {nl : Nat} {x : Val} {v : V} (sr0 : SR K F H (vs.map some) as) (s' : SR K F' H' σ' ρ') (ev : Ev (L2.start N vs) (as ++ List.replicate nl .un) F H σ' ρ' F' H') (r : VR K σ' H F' H' ρ' v x)
    (h : OutF K mg E (vs.map some) as F H (finish x as ρ') Q) : Q v H' := by
  have hl : vs.length = as.length := by have := sr0.len; rw [List.length_map] at this; exact this
  obtain ⟨s2, ev2⟩ := finish_ok sr0 s' ev
  have back : ∀ {a : Addr}, Ow (vs.map some) (argsBack as ρ') a → ∃ (i : Nat) (c : Cont) (m : Md), m ≠ Md.own ∧ ρ'[i]? = some (Slot.ow c m) ∧ σ'[i]? = some (some (V.ref a)) := fun {a} ⟨i, c, m, e1, e2⟩ => by
    rw [argsBack_get] at e1
    cases q : as[i]? with
    | none => rw [q] at e1; cases e1
    | some t =>
      have hi : i < as.length := (List.getElem?_eq_some_iff.mp q).1
      rw [q] at e1
      cases t with
      | un => cases e1
      | d x => cases e1
      | ow c0 m0 =>
        by_cases hm : m0 = .own
        · subst hm; cases e1
        · obtain ⟨b1, c', b2, b3⟩ := ev.bor i c0 m0 (by rw [List.getElem?_append_left hi]; exact q) hm
          rw [start_map (by omega)] at b1
          exact ⟨i, c', m0, hm, b2, by rw [b1]; exact e2⟩
  cases x with
  | d d => exact h v F' H' s2 ev2 r
  | fr c =>
    obtain ⟨p, rfl, nb, nF, cr, no⟩ := r
    refine h (.ref p) F' H' s2 ev2 ⟨p, rfl, .inl nb, nF, cr, fun z => ?_⟩
    obtain ⟨i, c', m, _, q1, q2⟩ := back z
    exact no ⟨i, c', m, q1, q2⟩
  | sl i =>
    have r : σ'[i]? = some (some v) := r
    unfold finish at h
    dsimp only at h
    cases hs : ρ'[i]? with
    | none => rw [hs] at h; exact h.elim
    | some sl =>
      rw [hs] at h
      obtain ⟨ov, g1, g2⟩ := s'.slot i _ hs
      rw [r] at g1; cases g1
      cases sl with
      | un => exact h.elim
      | d d =>
        obtain ⟨u, z, g3⟩ := g2
        cases z
        exact h v F' H' s2 ev2 g3
      | ow c m =>
        cases m with
        | bor => exact h.elim
        | lck => exact h.elim
        | own =>
          obtain ⟨p, z, nF, cr⟩ := g2
          cases z
          have no : ∀ {j : Nat} {c' : Cont} {m' : Md}, m' ≠ .own → ρ'[j]? = some (.ow c' m') → σ'[j]? = some (some (.ref p)) → False := fun {j c' m'} n q1 q2 => by
            have := s'.dist i j c .own c' m' p hs q1 r q2
            subst this
            rw [hs] at q1; cases q1
            exact n rfl
          refine h (.ref p) F' H' s2 ev2 ⟨p, rfl, ?_, nF, cr, fun z => ?_⟩
          · rcases ev.own' p ⟨i, c, .own, hs, r⟩ with z | z
            · exact .inl z
            · obtain ⟨j, c0, m0, q1, q2⟩ := z
              have hj : j < as.length := by
                by_cases hj : j < as.length
                · exact hj
                · rw [List.getElem?_append_right (by omega), List.getElem?_replicate] at q1
                  split at q1 <;> cases q1
              by_cases hm : m0 = .own
              · subst hm
                rw [List.getElem?_append_left hj] at q1
                rw [start_map (by omega)] at q2
                exact .inr ⟨j, c0, q1, q2⟩
              · obtain ⟨b1, c', b2, b3⟩ := ev.bor j c0 m0 q1 hm
                exact (no hm b2 (by rw [b1]; exact q2)).elim
          · obtain ⟨j, c', m', hm, q1, q2⟩ := back z
            exact no hm q1 q2
end
/-! ### a def keeps its promise -/
structure GFnG (Γ : Around → Prop) (P : Program) (w : World) (K : PySem.W.Frag) (mg : Str → Option Value) (base : Heap) (k : Nat) (f : Addr) (fd : FuncData) (ps : List Str) (Fm : FM) : Prop where
  run : ∀ (A : Around) (outer : List Env) (s : Shared) (H : Hp) (args : Args) (us : List Value) (vs : List V) (Q : VK) (E : XK), Room k A → Γ A → Env0 P w K mg base A outer s H → BindsTo s fd args (ps.zip us) → Vals vs us →
    spD K mg ps.length Fm vs H Q E → codeAny (model P w) A (.call (.ref f) args) (CR (L2.CX P w) outer P w H s Q E) s
/-- no repr is under way -/
abbrev NoGd : Around → Prop := fun A => A.guards = some []
abbrev GFn := GFnG NoGd
theorem GFnG.mono {Γ : Around → Prop} {P : Program} {w : World} {K : PySem.W.Frag} {mg : Str → Option Value} {base : Heap} {j k : Nat} {f : Addr} {fd : FuncData} {ps : List Str} {Fm : FM} (G : GFnG Γ P w K mg base j f fd ps Fm) (h : j ≤ k) : GFnG Γ P w K mg base k f fd ps Fm :=
  ⟨fun A outer s H args us vs Q E hr => G.run A outer s H args us vs Q E (hr.mono h)⟩
theorem sp_len {K : PySem.W.Frag} {mg : Str → Option Value} {n : Nat} {Fm : FM} {vs : List V} {H : Hp} {Q : VK} {E : XK} (h : spD K mg n Fm vs H Q E) : vs.length = n := by
  obtain ⟨F, as, sr, hl, _⟩ := h
  have := sr.len
  rw [List.length_map] at this
  omega
/-- THE RULE for a def: its body, read by a function of the slots -/
theorem gfn_of {Γ : Around → Prop} {P : Program} {w : World} {K : PySem.W.Frag} {mg : Str → Option Value} {base : Heap} {k : Nat} {x qual : Str} {st : Stmt} {f : Addr} {fd : FuncData} {N ps : List Str} {g : SM} (Fu : Fun K x qual st f fd) (S : FnScope N ps (defScope st)) (nl : Nat) (hNl : N.length = ps.length + nl)
    (hbody : ∀ (cdv : Value) (A : Around) (outer : List Env) (s : Shared) (H : Hp) (E : XK), Room k (A.deeper (envOfC qual (defScope st) s.heap.objs.size f cdv)) → Γ (A.deeper (envOfC qual (defScope st) s.heap.objs.size f cdv)) →
      DSs (cxOf (L2.CX P w) P w K mg base N qual (defScope st) f cdv A outer s H E) (fun c d _ H' => E c d H') (defBody st) g) (hΓ : ∀ A env, Γ A → Γ (A.deeper env) := by intro A env h; exact h) : GFnG Γ P w K mg base (k + 1) f fd ps (fnD ps.length nl g) := by
  obtain ⟨oc, od, kV, doc, pm, an, cdv, ct, osl, rfl, lk, hcd⟩ := Fu.ex
  refine ⟨fun A outer s H args us vs Q E hr hG e0 hb r hsp => ?_⟩
  have hl : vs.length = ps.length := sp_len hsp
  obtain ⟨F, as, sr, hla, out⟩ := hsp
  have KX : K.In s.heap := e0.mod.kin.keeps fun b o e => (e0.bs b o e).1
  have lim : s.heap.NoLimit := e0.mod.nolimit.keeps fun b o e => (e0.bs b o e).1
  have hkind : ∀ y ∈ ps.zip us, (defScope st).names.lookup y.1 = some .local ∨ ((defScope st).names.lookup y.1 = some .cell ∧ ((cellsFrom (s.heap.objs.size + 1) (defScope st).names []).lookup y.1).isSome = true) := fun ⟨n, v⟩ hy => (S.par n (List.of_mem_zip hy).1).imp id fun q => ⟨q, PySem.W.cellsFrom_some _ _ _ (.inl q)⟩
  refine codeAny_call_function hr.depth (KX _ _ lk) rfl S.co S.gen rfl (PySem.W.codeRec_of KX hcd) (hb _ _ _ _ (wpAny_newFunctionEnv_cells S.kind hkind fun env he s1 y => ?_))
  subst he
  refine ⟨lim.keeps y.toInCall.keep, codeAny_func ?_⟩
  have I : Inv (cxOf (L2.CX P w) P w K mg base N qual (defScope st) f cdv A outer s H E) [] (L2.start N vs) H s1 := inv_start S hr.hd e0 hl r y
  have hN' : N.length = vs.length + nl := by rw [hl]; exact hNl
  have sr' : SR K F H (L2.start N vs) (as ++ List.replicate nl .un) := sr_start sr hN'
  have reading : tS K mg (fun c d _ H' => E c d H') g { nx := fun _ H' => Q .non H', rt := Q } (L2.start N vs) H := by
    refine ⟨F, _, sr', ?_⟩
    unfold fnD at out
    rw [if_pos hla] at out
    cases hg : g (as ++ List.replicate nl .un) with
    | nx ρ' => rw [hg] at out; exact fun σ' F' H' s' ev => leave_ok sr s' ev (x := .d .non) (v := .non) Rep.non out
    | rt x ρ' => rw [hg] at out; exact fun v σ' F' H' s' ev rv => leave_ok sr s' ev rv out
    | ex x ρ' =>
      rw [hg] at out
      exact fun c d σ' F' H' s' ev rv => let ⟨s2, ev2⟩ := finish_ok sr s' ev; out c d F' H' s2 ev2 rv
    | bk ρ' => rw [hg] at out; exact out.elim
    | ct ρ' => rw [hg] at out; exact out.elim
    | bad => rw [hg] at out; exact out.elim
  refine wpAny_mono ((hbody cdv A outer s H E (hr.deeper _) (hΓ _ _ hG)).run [] s1 _ H _ I reading) (fun fl s' hs => ?_) fun e s' hs => hs
  have fin : ∀ {σ' : L2.St} {H' : Hp} {v : V} {u : Value}, Inv (cxOf (L2.CX P w) P w K mg base N qual (defScope st) f cdv A outer s H E) [] σ' H' s' → RelV v u → Q v H' → CE outer P w H s Q u s' := fun {σ' H' v u} J rv q => ⟨v, H', J.os, J.bare, J.base, J.hok, rv, q⟩
  cases fl with
  | ret u => obtain ⟨v, σ', H', J, rv, q⟩ := hs; exact fin J rv q
  | next => obtain ⟨σ', H', J, q⟩ := hs; exact fin (v := V.non) (u := Value.none) J rfl q
  | brk => obtain ⟨_, _, _, q⟩ := hs; exact q.elim
  | cont => obtain ⟨_, _, _, q⟩ := hs; exact q.elim
/-! ### calls -/
def argSlot (ρ : DEnv) : Val → Option Slot
  | .d d => some (.d d)
  | .fr c => some (.ow c .own)
  | .sl i => match ρ[i]? with
    | some (.d d) => some (.d d)
    | some (.ow c .own) => some (.ow c .bor)
    | some (.ow c m) => some (.ow c m)
    | _ => none
def argSlots (ρ : DEnv) : List Val → Option DEnv
  | [] => some []
  | x :: xs => match argSlot ρ x, argSlots ρ xs with
    | some s, some ss => some (s :: ss)
    | _, _ => none
/-- no slot's object is lent twice -/
def lentOnce : List Val → Bool
  | [] => true
  | .sl i :: xs => !(xs.any fun y => match y with | .sl j => decide (i = j) | _ => false) && lentOnce xs
  | _ :: xs => lentOnce xs
def putBack (ρ : DEnv) : List Val → DEnv → DEnv
  | .sl i :: xs, s :: ss => match ρ[i]?, s with
    | some (.ow _ m), .ow c' _ => (putBack ρ xs ss).set i (.ow c' m)
    | _, _ => putBack ρ xs ss
  | _ :: xs, _ :: ss => putBack ρ xs ss
  | _, _ => ρ
def callF (Fm : FM) (xs : List Val) : EM := fun ρ => match argSlots ρ xs with
  | some as => if lentOnce xs = true then (match Fm as with
    | .ret x as' => .ok x (putBack ρ xs as')
    | .ex x as' => .ex x (putBack ρ xs as')
    | .bad => .bad) else .bad
  | none => .bad
def eCall (Fm : FM) (g : M (List Val)) : EM := fun ρ => (g ρ).bind fun xs ρ1 => callF Fm xs ρ1
theorem putBack_len (ρ : DEnv) : ∀ (xs : List Val) (ss : DEnv), (putBack ρ xs ss).length = ρ.length
  | [], _ => by unfold putBack; rfl
  | .sl i :: xs, [] => by unfold putBack; rfl
  | .d x :: xs, [] => by unfold putBack; rfl
  | .fr x :: xs, [] => by unfold putBack; rfl
  | .d x :: xs, s :: ss => by unfold putBack; exact putBack_len ρ xs ss
  | .fr x :: xs, s :: ss => by unfold putBack; exact putBack_len ρ xs ss
  | .sl i :: xs, s :: ss => by
    unfold putBack
    split
    · rw [List.length_set, putBack_len ρ xs ss]
    · exact putBack_len ρ xs ss
/-- what stands at a slot behind a call -/
theorem putBack_get {ρ : DEnv} {i : Nat} : ∀ {xs : List Val} {ss : DEnv}, lentOnce xs = true → (putBack ρ xs ss)[i]? = ρ[i]? ∧ (∀ j : Nat, xs[j]? = some (.sl i) → ∀ c m c' m', ρ[i]? = some (.ow c m) → ss[j]? = some (.ow c' m') → False) ∨
    ∃ (j : Nat) (c : Cont) (m : Md) (c' : Cont) (m' : Md), xs[j]? = some (.sl i) ∧ ρ[i]? = some (.ow c m) ∧ ss[j]? = some (.ow c' m') ∧ (putBack ρ xs ss)[i]? = some (.ow c' m)
  | [], ss, _ => .inl ⟨by unfold putBack; rfl, fun j h => by simp at h⟩
  | x :: xs, [], _ => .inl ⟨by unfold putBack; cases x <;> rfl, fun j _ _ _ _ _ _ h => by simp at h⟩
  | .d x :: xs, s :: ss, h => by
    have ih := putBack_get (ρ := ρ) (i := i) (xs := xs) (ss := ss) h
    unfold putBack
    rcases ih with ⟨h1, h2⟩ | ⟨j, c, m, c', m', h1, h2⟩
    · exact .inl ⟨h1, fun j hj => by cases j with
        | zero => cases hj
        | succ j => exact fun c m c' m' q1 q2 => h2 j (by simpa using hj) c m c' m' q1 (by simpa using q2)⟩
    · exact .inr ⟨j + 1, c, m, c', m', by simpa using h1, by simpa using h2⟩
  | .fr x :: xs, s :: ss, h => by
    have ih := putBack_get (ρ := ρ) (i := i) (xs := xs) (ss := ss) h
    unfold putBack
    rcases ih with ⟨h1, h2⟩ | ⟨j, c, m, c', m', h1, h2⟩
    · exact .inl ⟨h1, fun j hj => by cases j with
        | zero => cases hj
        | succ j => exact fun c m c' m' q1 q2 => h2 j (by simpa using hj) c m c' m' q1 (by simpa using q2)⟩
    · exact .inr ⟨j + 1, c, m, c', m', by simpa using h1, by simpa using h2⟩
  | .sl k :: xs, s :: ss, h => by
    have h' : (xs.any fun y => match y with | .sl j => decide (k = j) | _ => false) = false ∧ lentOnce xs = true := by
      unfold lentOnce at h
      rw [Bool.and_eq_true] at h
      exact ⟨by have := h.1; rw [Bool.not_eq_true'] at this; exact this, h.2⟩
    have ih := putBack_get (ρ := ρ) (i := i) (xs := xs) (ss := ss) h'.2
    have nok : ∀ j : Nat, xs[j]? ≠ some (.sl k) := fun j hj => by
      have hm := List.mem_of_getElem? hj
      have := List.any_eq_false.mp h'.1 _ hm
      simp at this
    by_cases hk : k = i
    · subst hk
      have ih' : (putBack ρ xs ss)[k]? = ρ[k]? := by
        rcases ih with ⟨h1, _⟩ | ⟨j, c, m, c', m', h1, _⟩
        · exact h1
        · exact absurd h1 (nok j)
      have skip : (putBack ρ (.sl k :: xs) (s :: ss) = putBack ρ xs ss) → (∀ c m c' m', ρ[k]? = some (.ow c m) → s = .ow c' m' → False) → (putBack ρ (.sl k :: xs) (s :: ss))[k]? = ρ[k]? ∧ (∀ j : Nat, (Val.sl k :: xs)[j]? = some (.sl k) → ∀ c m c' m', ρ[k]? = some (.ow c m) → (s :: ss)[j]? = some (.ow c' m') → False) := fun e n => by
        rw [e]
        refine ⟨ih', fun j hj c m c' m' q1 q2 => ?_⟩
        cases j with
        | succ j => exact nok j (by simpa using hj)
        | zero => exact n c m c' m' q1 (by simpa using q2)
      cases hr : ρ[k]? with
      | none => rw [← hr]; exact .inl (skip (by simp only [putBack, hr]) fun c m c' m' z => by rw [hr] at z; cases z)
      | some sl =>
        cases sl with
        | un => rw [← hr]; exact .inl (skip (by simp only [putBack, hr]) fun c m c' m' z => by rw [hr] at z; cases z)
        | d x => rw [← hr]; exact .inl (skip (by simp only [putBack, hr]) fun c m c' m' z => by rw [hr] at z; cases z)
        | ow c m =>
          cases s with
          | un => rw [← hr]; exact .inl (skip (by simp only [putBack, hr]) fun c m c' m' _ z => by cases z)
          | d x => rw [← hr]; exact .inl (skip (by simp only [putBack, hr]) fun c m c' m' _ z => by cases z)
          | ow c' m' =>
            right
            have hl : k < ρ.length := (List.getElem?_eq_some_iff.mp hr).1
            exact ⟨0, c, m, c', m', rfl, rfl, rfl, by simp only [putBack, hr]; exact List.getElem?_set_self (by rw [putBack_len]; exact hl)⟩
    · have same : (putBack ρ (.sl k :: xs) (s :: ss))[i]? = (putBack ρ xs ss)[i]? := by
        cases hr : ρ[k]? with
        | none => simp only [putBack, hr]
        | some sl =>
          cases sl with
          | un => simp only [putBack, hr]
          | d x => simp only [putBack, hr]
          | ow c m =>
            cases s with
            | un => simp only [putBack, hr]
            | d x => simp only [putBack, hr]
            | ow c' m' =>
              simp only [putBack, hr]
              exact List.getElem?_set_ne hk
      rw [same]
      rcases ih with ⟨h1, h2⟩ | ⟨j, c, m, c', m', h1, h2⟩
      · exact .inl ⟨h1, fun j hj => by cases j with
          | zero => exact absurd (Val.sl.inj (Option.some.inj hj)) hk
          | succ j => exact fun c m c' m' q1 q2 => h2 j (by simpa using hj) c m c' m' q1 (by simpa using q2)⟩
      · exact .inr ⟨j + 1, c, m, c', m', by simpa using h1, by simpa using h2⟩
end DL
/-! DL13: calls of defs. -/
namespace DL
open PySem PySem.Spec PyProof.Rows L2
variable [TabT]
section
variable {K : PySem.W.Frag} {σ : L2.St} {ρ ρ0 as as' : DEnv} {F0 H0 F H F' H' : Hp} {vs : List V} {xs : List Val}
theorem argSlots_len : ∀ {xs : List Val} {as : DEnv}, argSlots ρ xs = some as → as.length = xs.length
  | [], as, h => by cases h; rfl
  | x :: xs, as, h => by
    unfold argSlots at h
    cases h1 : argSlot ρ x with
    | none => rw [h1] at h; cases h
    | some s =>
      cases h2 : argSlots ρ xs with
      | none => rw [h1, h2] at h; cases h
      | some ss => rw [h1, h2] at h; cases h; rw [List.length_cons, List.length_cons, argSlots_len h2]
theorem argSlots_get : ∀ {xs : List Val} {as : DEnv} {j : Nat} {s : Slot}, argSlots ρ xs = some as → as[j]? = some s → ∃ x, xs[j]? = some x ∧ argSlot ρ x = some s
  | [], as, j, s, h, e => by cases h; simp at e
  | x :: xs, as, j, s, h, e => by
    unfold argSlots at h
    cases h1 : argSlot ρ x with
    | none => rw [h1] at h; cases h
    | some t =>
      cases h2 : argSlots ρ xs with
      | none => rw [h1, h2] at h; cases h
      | some ss =>
        rw [h1, h2] at h; cases h
        cases j with
        | zero => exact ⟨x, rfl, by rw [h1]; simpa using e⟩
        | succ j =>
          obtain ⟨y, h3, h4⟩ := argSlots_get (j := j) h2 (by simpa using e)
          exact ⟨y, by simpa using h3, h4⟩
theorem argSlots_at {j : Nat} {x : Val} (h : argSlots ρ xs = some as) (e : xs[j]? = some x) : ∃ s, as[j]? = some s ∧ argSlot ρ x = some s := by
  have hj : j < as.length := by rw [argSlots_len h]; exact (List.getElem?_eq_some_iff.mp e).1
  obtain ⟨y, h1, h2⟩ := argSlots_get h (List.getElem?_eq_getElem hj)
  rw [e] at h1; cases h1
  exact ⟨_, List.getElem?_eq_getElem hj, h2⟩
/-- an argument's slot that owns -/
theorem argSlot_ow {x : Val} {c : Cont} {m : Md} (h : argSlot ρ x = some (.ow c m)) : (x = .fr c ∧ m = .own) ∨ ∃ i m0, x = .sl i ∧ ρ[i]? = some (.ow c m0) ∧ ((m0 = .own ∧ m = .bor) ∨ (m0 = m ∧ m ≠ .own)) := by
  cases x with
  | d d => cases h
  | fr c' => cases h; exact .inl ⟨rfl, rfl⟩
  | sl i =>
    unfold argSlot at h
    dsimp only at h
    cases hr : ρ[i]? with
    | none => rw [hr] at h; cases h
    | some s =>
      rw [hr] at h
      cases s with
      | un => cases h
      | d x => cases h
      | ow c' m' =>
        cases m' with
        | own => cases h; exact .inr ⟨i, .own, rfl, hr, .inl ⟨rfl, rfl⟩⟩
        | bor => cases h; exact .inr ⟨i, .bor, rfl, hr, .inr ⟨rfl, by decide⟩⟩
        | lck => cases h; exact .inr ⟨i, .lck, rfl, hr, .inr ⟨rfl, by decide⟩⟩
theorem lent_inj : ∀ {xs : List Val} {j k i : Nat}, lentOnce xs = true → xs[j]? = some (.sl i) → xs[k]? = some (.sl i) → j = k
  | [], j, k, i, _, e, _ => by simp at e
  | .d x :: xs, j, k, i, h, e1, e2 => by
    cases j with
    | zero => cases e1
    | succ j => cases k with
      | zero => cases e2
      | succ k => exact congrArg (· + 1) (lent_inj (xs := xs) h (by simpa using e1) (by simpa using e2))
  | .fr x :: xs, j, k, i, h, e1, e2 => by
    cases j with
    | zero => cases e1
    | succ j => cases k with
      | zero => cases e2
      | succ k => exact congrArg (· + 1) (lent_inj (xs := xs) h (by simpa using e1) (by simpa using e2))
  | .sl l :: xs, j, k, i, h, e1, e2 => by
    unfold lentOnce at h
    rw [Bool.and_eq_true, Bool.not_eq_true'] at h
    have no : ∀ n : Nat, xs[n]? = some (.sl l) → False := fun n hn => by
      have := List.any_eq_false.mp h.1 _ (List.mem_of_getElem? hn)
      simp at this
    cases j with
    | zero =>
      cases e1
      cases k with
      | zero => rfl
      | succ k => exact (no k (by simpa using e2)).elim
    | succ j =>
      cases k with
      | zero => cases e2; exact (no j (by simpa using e1)).elim
      | succ k => exact congrArg (· + 1) (lent_inj (xs := xs) h.2 (by simpa using e1) (by simpa using e2))
theorem paired_at {α β : Type} {G : α → β → Prop} : ∀ {l : List α} {m : List β} {i : Nat} {y : β}, Paired G l m → m[i]? = some y → ∃ x, l[i]? = some x ∧ G x y
  | _, _, _, _, .nil, e => by simp at e
  | _, _, 0, _, .cons a b, e => by simp at e; subst e; exact ⟨_, rfl, a⟩
  | _, _, i + 1, _, .cons a b, e => by
    obtain ⟨x, h1, h2⟩ := paired_at (i := i) b (by simpa using e)
    exact ⟨x, by simpa using h1, h2⟩
/-- who owns an argument's object -/
theorem arg_owner {j : Nat} {c : Cont} {m : Md} {a : Addr} (rl : VRL K σ H0 F H ρ vs xs) (h : argSlots ρ xs = some as) (e1 : as[j]? = some (.ow c m)) (e2 : (vs.map some)[j]? = some (some (.ref a))) :
    (xs[j]? = some (.fr c) ∧ vs[j]? = some (.ref a) ∧ m = .own ∧ H0 a = none ∧ F a = none ∧ CRep K F H a c ∧ ¬ Ow σ ρ a) ∨ ∃ i m0, xs[j]? = some (.sl i) ∧ ρ[i]? = some (.ow c m0) ∧ σ[i]? = some (some (.ref a)) ∧ ((m0 = .own ∧ m = .bor) ∨ (m0 = m ∧ m ≠ .own)) := by
  obtain ⟨x, h1, h2⟩ := argSlots_get h e1
  obtain ⟨v, h3, h4⟩ := paired_at rl.all h1
  rw [List.getElem?_map, h3] at e2
  have e2 : v = .ref a := by cases e2; rfl
  subst e2
  rcases argSlot_ow h2 with ⟨rfl, hm⟩ | ⟨i, m0, rfl, h5, h6⟩
  · obtain ⟨p, z, nb, nF, cr, no⟩ := h4
    cases z
    exact .inl ⟨h1, h3, hm, nb, nF, cr, no⟩
  · exact .inr ⟨i, m0, h1, h5, h4, h6⟩
theorem args_sr (sr : SR K F H σ ρ) (rl : VRL K σ H0 F H ρ vs xs) (h : argSlots ρ xs = some as) (hl : lentOnce xs = true) : SR K F H (vs.map some) as := by
  have len : vs.length = as.length := by rw [argSlots_len h]; exact rl.all.length
  refine ⟨by rw [List.length_map]; exact len, sr.sub, fun j s e => ?_, fun j k c m c' m' a e1 e2 e3 e4 => ?_, sr.tab⟩
  · obtain ⟨x, h1, h2⟩ := argSlots_get h e
    obtain ⟨v, h3, h4⟩ := paired_at rl.all h1
    refine ⟨some v, by rw [List.getElem?_map, h3]; rfl, ?_⟩
    cases x with
    | d d => cases h2; exact ⟨v, rfl, h4⟩
    | fr c =>
      cases h2
      obtain ⟨p, rfl, _, nF, cr, _⟩ := h4
      exact ⟨p, rfl, nF, cr⟩
    | sl i =>
      have h4 : σ[i]? = some (some v) := h4
      unfold argSlot at h2
      dsimp only at h2
      cases hr : ρ[i]? with
      | none => rw [hr] at h2; cases h2
      | some t =>
        rw [hr] at h2
        obtain ⟨ov, g1, g2⟩ := sr.slot i t hr
        rw [h4] at g1; cases g1
        cases t with
        | un => cases h2
        | d d => cases h2; exact g2
        | ow c m => cases m <;> (cases h2; exact g2)
  · rcases arg_owner rl h e1 e3 with ⟨q1, q2, _, _, _, _, q3⟩ | ⟨i, m0, q1, q2, q3, _⟩ <;> rcases arg_owner rl h e2 e4 with ⟨r1, r2, _, _, _, _, r3⟩ | ⟨i', m1, r1, r2, r3, _⟩
    · exact rl.frs j k c c' a q1 r1 q2 r2
    · exact absurd ⟨i', _, _, r2, r3⟩ q3
    · exact absurd ⟨i, _, _, q2, q3⟩ r3
    · have := sr.dist i i' _ _ _ _ a q2 r2 q3 r3
      subst this
      exact lent_inj hl q1 r1
/-- behind the call -/
theorem back_ok (sr : SR K F H σ ρ) (ev : Ev σ ρ0 F0 H0 σ ρ F H) (rl : VRL K σ H0 F H ρ vs xs) (h : argSlots ρ xs = some as) (hl : lentOnce xs = true) (s' : SR K F' H' (vs.map some) as') (ev' : Ev (vs.map some) as F H (vs.map some) as' F' H') :
    SR K F' H' σ (putBack ρ xs as') ∧ Ev σ ρ0 F0 H0 σ (putBack ρ xs as') F' H' := by
  -- a lent slot i, behind the call
  have lent : ∀ {j i : Nat} {c : Cont} {m : Md}, xs[j]? = some (.sl i) → ρ[i]? = some (.ow c m) → ∃ c' m', as'[j]? = some (.ow c' m') ∧ (m = .lck → c' = c) := fun {j i c m} h1 h2 => by
    obtain ⟨s, h3, h4⟩ := argSlots_at h h1
    unfold argSlot at h4
    dsimp only at h4
    rw [h2] at h4
    cases m with
    | own => cases h4; obtain ⟨_, c', b, _⟩ := ev'.bor j c .bor h3 (by decide); exact ⟨c', _, b, fun z => by cases z⟩
    | bor => cases h4; obtain ⟨_, c', b, _⟩ := ev'.bor j c .bor h3 (by decide); exact ⟨c', _, b, fun z => by cases z⟩
    | lck => cases h4; obtain ⟨_, c', b, b2⟩ := ev'.bor j c .lck h3 (by decide); exact ⟨c', _, b, b2⟩
  have look : ∀ (i : Nat), ((putBack ρ xs as')[i]? = ρ[i]? ∧ ∀ (j : Nat) (c : Cont) (m : Md), xs[j]? = some (.sl i) → ρ[i]? = some (.ow c m) → False) ∨ ∃ (j : Nat) (c : Cont) (m : Md) (c' : Cont) (m' : Md), xs[j]? = some (.sl i) ∧ ρ[i]? = some (.ow c m) ∧ as'[j]? = some (.ow c' m') ∧ (putBack ρ xs as')[i]? = some (.ow c' m) := fun i => by
    rcases putBack_get (ρ := ρ) (i := i) (xs := xs) (ss := as') hl with ⟨h1, h2⟩ | h1
    · left
      refine ⟨h1, fun j c m q1 q2 => ?_⟩
      obtain ⟨c', m', b, _⟩ := lent q1 q2
      exact h2 j q1 c m c' m' q2 b
    · exact .inr h1
  have vj : ∀ {j i : Nat} {a : Addr}, xs[j]? = some (.sl i) → σ[i]? = some (some (.ref a)) → (vs.map some)[j]? = some (some (.ref a)) := fun {j i a} h1 h2 => by
    obtain ⟨v, h3, h4⟩ := paired_at rl.all h1
    have h4 : σ[i]? = some (some v) := h4
    rw [h2] at h4; cases h4
    rw [List.getElem?_map, h3]; rfl
  have owB : ∀ {a : Addr}, Ow σ (putBack ρ xs as') a → Ow σ ρ a := fun {a} ⟨i, c, m, e1, e2⟩ => by
    rcases look i with ⟨h1, _⟩ | ⟨j, c1, m1, c', m', h1, h2, h3, h4⟩
    · rw [h1] at e1; exact ⟨i, c, m, e1, e2⟩
    · exact ⟨i, c1, m1, h2, e2⟩
  have mtB : ∀ {a : Addr}, Mt σ (putBack ρ xs as') a → Mt σ ρ a := fun {a} ⟨i, c, m, e1, n, e2⟩ => by
    rcases look i with ⟨h1, _⟩ | ⟨j, c1, m1, c', m', h1, h2, h3, h4⟩
    · rw [h1] at e1; exact ⟨i, c, m, e1, n, e2⟩
    · rw [h4] at e1; cases e1; exact ⟨i, c1, m, h2, n, e2⟩
  -- an object that no argument lends is as it was
  have stay : ∀ {i : Nat} {c : Cont} {m : Md} {a : Addr}, ρ[i]? = some (.ow c m) → σ[i]? = some (some (.ref a)) → (∀ (j : Nat), xs[j]? = some (.sl i) → False) → F a = none → CRep K F H a c → F' a = none ∧ CRep K F' H' a c := fun {i c m a} e1 e2 no nF cr => by
    obtain ⟨o, ho⟩ := cr.some
    have nOw : ¬ Ow (vs.map some) as a := fun ⟨j, c1, m1, q1, q2⟩ => by
      rcases arg_owner rl h q1 q2 with ⟨_, _, _, _, _, _, z⟩ | ⟨i', m0, z1, z2, z3, _⟩
      · exact z ⟨i, c, m, e1, e2⟩
      · have := sr.dist i i' _ _ _ _ a e1 z2 e2 z3
        subst this
        exact no j z1
    refine ⟨?_, cr.mono (.of ev'.ext) ((ev'.keep a o ho (fun z => nOw z.ow) (CRep.nt ho cr)).trans ho.symm)⟩
    cases hF : F' a with
    | none => rfl
    | some u =>
      rcases ev'.newF a nF (by rw [hF]; simp) with z | z
      · rw [ho] at z; cases z
      · exact absurd z nOw
  refine ⟨⟨by rw [putBack_len]; exact sr.len, s'.sub, fun i s e => ?_, fun i j c m c' m' a e1 e2 e3 e4 => ?_, s'.tab⟩, ⟨ev.ext.trans ev'.ext, fun a o e n nt => ?_, fun a e n => ?_, fun a e => ev'.dom a (ev.dom a e), fun i c m e n => ?_, fun a z => ev.own' a (owB z), fun a z => ev.mt' a (mtB z)⟩⟩
  · rcases look i with ⟨h1, h2⟩ | ⟨j, c1, m1, c', m', h1, h2, h3, h4⟩
    · rw [h1] at e
      obtain ⟨ov, g1, g2⟩ := sr.slot i s e
      refine ⟨ov, g1, ?_⟩
      cases s with
      | un => trivial
      | d x => obtain ⟨v, q, r⟩ := g2; exact ⟨v, q, r.mono (.of ev'.ext)⟩
      | ow c m =>
        obtain ⟨a, q, nF, cr⟩ := g2
        subst q
        obtain ⟨z1, z2⟩ := stay e g1 (fun j hj => h2 j c m hj e) nF cr
        exact ⟨a, rfl, z1, z2⟩
    · rw [h4] at e
      cases e
      obtain ⟨ov, g1, a, g2, _⟩ := sr.slot i _ h2
      subst g2
      obtain ⟨ov', w1, a', w2, w3, w4⟩ := s'.slot j _ h3
      subst w2
      rw [vj h1 g1] at w1
      cases w1
      exact ⟨_, g1, a, rfl, w3, w4⟩
  · have o1 : ∀ {i : Nat} {c : Cont} {m : Md}, (putBack ρ xs as')[i]? = some (.ow c m) → ∃ c1 m1, ρ[i]? = some (.ow c1 m1) := fun {i c m} e => by
      rcases look i with ⟨h1, _⟩ | ⟨j, c1, m1, c', m', h1, h2, h3, h4⟩
      · rw [h1] at e; exact ⟨c, m, e⟩
      · exact ⟨c1, m1, h2⟩
    obtain ⟨c1, m1, q1⟩ := o1 e1
    obtain ⟨c2, m2, q2⟩ := o1 e2
    exact sr.dist i j c1 m1 c2 m2 a q1 q2 e3 e4
  · refine ev'.keep a o (ev.keep a o e n nt) (fun ⟨j, c, m, q1, nm, q2⟩ => ?_) nt
    rcases arg_owner rl h q1 q2 with ⟨_, _, _, z, _⟩ | ⟨i, m0, z1, z2, z3, z4⟩
    · rw [e] at z; cases z
    · have hm : m0 ≠ .lck := by
        rcases z4 with ⟨rfl, _⟩ | ⟨rfl, _⟩
        · decide
        · exact nm
      rcases ev.mt' a ⟨i, c, m0, z2, hm, z3⟩ with z | z
      · rw [e] at z; cases z
      · exact n z
  · by_cases hF : F a = none
    · rcases ev'.newF a hF n with z | ⟨j, c, m, q1, q2⟩
      · cases hH : H0 a with
        | none => exact .inl rfl
        | some o => exact absurd z (ev.dom a (by rw [hH]; simp))
      · rcases arg_owner rl h q1 q2 with ⟨_, _, _, z, _⟩ | ⟨i, m0, z1, z2, z3, z4⟩
        · exact .inl z
        · exact ev.own' a ⟨i, c, m0, z2, z3⟩
    · exact ev.newF a e hF
  · obtain ⟨b1, c1, b2, b3⟩ := ev.bor i c m e n
    refine ⟨rfl, ?_⟩
    rcases look i with ⟨h1, _⟩ | ⟨j, c2, m2, c', m', h1, h2, h3, h4⟩
    · exact ⟨c1, by rw [h1]; exact b2, b3⟩
    · rw [b2] at h2
      cases h2
      obtain ⟨c3, m3, q1, q2⟩ := lent h1 b2
      rw [h3] at q1
      cases q1
      exact ⟨c', h4, fun z => (q2 z).trans (b3 z)⟩
end
section
variable {Γ : Around → Prop} {X : Cx} {W : WX} {e : Expr} {es : List Expr} {g : M (List Val)} {pos p : Pos} {x : Str} {k : Nat} {f : Addr} {fd : FuncData} {ps : List Str} {Fm : FM}
/-- the callee's promise, at a state of the caller -/
theorem call_ok {σ : L2.St} {ρ0 : DEnv} {F0 H0 F H : Hp} {ρ : DEnv} {vs : List V} {xs : List Val} {Q : VK} {E : XK} (sr : SR X.K F H σ ρ) (ev : Ev σ ρ0 F0 H0 σ ρ F H) (rl : VRL X.K σ H0 F H ρ vs xs) (hn : xs.length = ps.length)
    (h : Out X.K X.mg E (relV X.K σ) σ ρ0 F0 H0 (callF Fm xs ρ) Q) : spD X.K X.mg ps.length Fm vs H Q E := by
  unfold callF at h
  cases ha : argSlots ρ xs with
  | none => rw [ha] at h; exact h.elim
  | some as =>
    rw [ha] at h
    dsimp only at h
    split at h
    · rename_i hl
      refine ⟨F, as, args_sr sr rl ha hl, by rw [argSlots_len ha]; exact hn, ?_⟩
      cases hf : Fm as with
      | bad => rw [hf] at h; exact h.elim
      | ex x as' =>
        rw [hf] at h
        exact fun c d F' H' s' ev' r => let ⟨s2, ev2⟩ := back_ok sr ev rl ha hl s' ev'; h c d F' H' s2 ev2 r
      | ret x as' =>
        rw [hf] at h
        refine fun v F' H' s' ev' r => let ⟨s2, ev2⟩ := back_ok sr ev rl ha hl s' ev'; h v F' H' s2 ev2 ?_
        cases x with
        | d d => exact r
        | sl i => exact r.elim
        | fr c =>
          obtain ⟨q, rfl, hnew, nF, cr, no⟩ := r
          have new : H0 q = none ∧ ¬ Ow σ ρ q := by
            rcases hnew with z | ⟨j, c0, z1, z2⟩
            · refine ⟨?_, fun ⟨i, c', m', w1, w2⟩ => ?_⟩
              · cases hH : H0 q with
                | none => rfl
                | some o => exact absurd z (ev.dom q (by rw [hH]; simp))
              · obtain ⟨ov, g1, a, g2, _, g4⟩ := sr.slot i _ w1
                rw [w2] at g1; cases g1; cases g2
                obtain ⟨o, ho⟩ := g4.some
                rw [z] at ho; cases ho
            · rcases arg_owner rl ha z1 z2 with ⟨_, _, _, w, _, _, w2⟩ | ⟨i, m0, _, _, _, w | w⟩
              · exact ⟨w, w2⟩
              · cases w.2
              · exact absurd rfl w.2
          refine ⟨q, rfl, new.1, nF, cr, fun ⟨i, c', m', w1, w2⟩ => new.2 ?_⟩
          rcases putBack_get (ρ := ρ) (i := i) (xs := xs) (ss := as') hl with ⟨h1, _⟩ | ⟨j, c1, m1, c2, m2, h1, h2, h3, h4⟩
          · rw [h1] at w1; exact ⟨i, c', m', w1, w2⟩
          · exact ⟨i, c1, m1, h2, w2⟩
    · exact h.elim
theorem run_gfn {pins : List (Addr × Obj)} {σ : L2.St} {H : Hp} {s : Shared} {Q : VK} {args : Args} {us : List Value} {vs : List V} {E : XK} (G : GFnG Γ X.prog X.w X.K X.mg X.base k f fd ps Fm) (hr : Room k X.A) (hG : Γ X.A) (tk : Takes X W) (hW : ∀ cls d H, E cls d H → W cls d σ H) (I : Inv X pins σ H s) (hb : BindsTo s fd args (ps.zip us)) (r : Vals vs us) (h : spD X.K X.mg ps.length Fm vs H Q E) :
    codeAny (model X.prog X.w) X.A (.call (.ref f) args) (fun r s' => match r with | .ok (.ret u) => EP X pins σ Q u s' | .ok _ => False | .error e => X.xe e s') s := by
  refine codeAny_mono (G.run X.A X.stack s H args us vs Q E hr hG I.env0 hb r h) fun r s' hq => ?_
  cases r with
  | error e => exact tk e s' (XE.of_call I (fun cls d H' h => hW cls d H' h) hq)
  | ok fl =>
    cases fl with
    | ret u => exact I.after hq
    | next => exact hq
    | brk => exact hq
    | cont => exact hq
/-- f(e, ..), every parameter given by its place -/
theorem de_call (G : GFnG Γ X.prog X.w X.K X.mg X.base k f fd ps Fm) (hr : Room k X.A) (hG : Γ X.A) (tk : Takes X W) (hg : Gl X x) (hm : X.mg x = some (.ref f)) (hk : PySem.W.keepIn X.K (.ref f) = true) (hb : Binds X.K fd ps []) (ha : DA X W (e :: es) g) (hn : ∀ ρ xs ρ', g ρ = .ok xs ρ' → xs.length = ps.length)
    (hdb : (x == ("__debug__" : Str)) = false := by decide) (he : starEach (e :: es) X.env = (false, eval e X.env) :: starEach es X.env := by rfl) (hpl : (backTo pos (starEach es X.env)).any (·.1) = false := by rfl) : DE X W (.Call (.Name x p) (e :: es) [] pos) (eCall Fm g) := by
  refine ⟨fun pins s σ H Q I hq => ?_⟩
  obtain ⟨F, ρ, sr, q⟩ := hq
  refine wpAny_Call_Name_kw (ld_glob I hg hm (PySem.W.callWith_K (h₀ := X.base) I.ok.mod.kin hk (thn (ha.run pos pins s σ H _ I ⟨F, ρ, sr, Out.bind (rel := relL X.K σ) q⟩) fun us s1 ⟨vs, H1, I1, r, xs, F1, ρ1, e1, s2, ev1, r1, o1⟩ => ⟨I1.kIn, wpAny_call ?_⟩) he hpl) hdb)
  have hl : xs.length = ps.length := hn _ _ _ e1
  have hu : us.length = ps.length := by rw [← r.length, r1.all.length, hl]
  have hb' : BindsTo s1 fd ⟨us, []⟩ (ps.zip us) := by
    have := hb s1 us I1.kIn (by rw [List.append_nil]; exact hu)
    rw [List.append_nil] at this
    exact this
  exact run_gfn G hr hG tk (fun _ _ _ h => h) I1 hb' r (call_ok s2 ev1 r1 hl o1)
/-! ### keywords -/
/-- the values by the parameters' places -/
def selL {α : Type} (idx : List Nat) (xs : List α) : Option (List α) := match idx with
  | [] => some []
  | i :: is => match xs[i]?, selL is xs with
    | some x, some ys => some (x :: ys)
    | _, _ => none
def eCallK (idx : List Nat) (Fm : FM) (g gk : M (List Val)) : EM := fun ρ => (g ρ).bind fun xs ρ1 => (gk ρ1).bind fun ys ρ2 => match selL idx (xs ++ ys) with
  | some zs => callF Fm zs ρ2
  | none => .bad
end
end DL
/-! DL14: the law's end. -/
namespace DL
open PySem PySem.Spec PyProof.Rows L2
end DL
/-! DL15: repr of data, sorted(set(..)), len(set(..)), list(range(..)). -/
namespace DL
open PySem PySem.Spec PyProof.Rows L2
abbrev nuS (w : World) : Obj := { cls := .type "set", dict := none, data := .set #[] 0 (.fresh 0 0 (!w.params.followText "set-order")) }
section
variable {P : Program} {w : World} {A : Around} {E : Value → Shared → Prop} {s : Shared}
set_option maxHeartbeats 3200000 in
theorem call_set_listI {l : Addr} {items : Array Value} (ns : List Int) {Q : Value → Shared → Prop} (hh : A.handled = none) (hl : s.heap.IsList l items) (hit : IntsAre items.toList ns) (hb : ns.length + 1 < scanBound)
    (h : ∀ (h' : Heap) (tk c : Nat), SetR w h' s.heap.objs.size (fun j => decide (j ∈ ns)) c → c ≤ ns.length → (∀ b o, s.heap.get? b = some o → h'.get? b = some o) → Q (.ref s.heap.objs.size) { s with heap := h', toks := tk }) :
    wpAny (model P w) A (call (.type "set") [.ref l]) Q E s := by
  have zz : items.size = ns.length := by
    have q := IntsAre.length hit
    rw [Array.length_toList] at q
    exact q
  obtain ⟨c, tl, mr⟩ := F.called_set.mro
  have md := F.called_set.made
  have sb := F.called_set.sub
  refine wpAny_call (codeAny_of_tree ?_)
  show wpAny _ _ (callAny (.type "set") _) _ _ _
  refine wpAny_pure ⟨Code.quiet_builtin _ (by decide +kernel), codeAny_builtin F.entry_type_call ?_⟩
  rw [Around.under_plain (weight_type_call_type "set" [.ref l] []) rfl]
  have p1 := F.called_set.notType
  have p2 := F.called_set.canCreate
  have p3 := F.typeCall_set_1 (.ref l)
  repeat (any_goals (first | assumption | wp_step))

  refine codeAny_mono (code_set_led1 (.ref l) (E := E) (Q₁ := fun obj s₁ => obj = .ref s.heap.objs.size ∧ s₁ = { s with heap := s.heap.push (nuS w) }) ⟨rfl, rfl⟩) fun r s₁ hr => ?_
  cases r with
  | error e => exact hr
  | ok fl =>
    cases fl with
    | ret obj =>
      obtain ⟨rfl, rfl⟩ := hr
      have oS : (s.heap.push (nuS w)).get? s.heap.objs.size = some (nuS w) := Heap.get?_push_size _ rfl
      have tS0 : Shared.TypeIs { s with heap := s.heap.push (nuS w) } (.ref s.heap.objs.size) "set" := ⟨_, oS, rfl⟩
      have li0 := F.called_set.init.lookup
      have bi0 := F.called_set.init.bind (.ref s.heap.objs.size)
      repeat (any_goals (first | assumption | wp_step))

      refine codeAny_mono (codeAny_call_builtin (R := wants (fun r s₂ => r = .none ∧ ∃ h' tk c, s₂ = { s with heap := h', toks := tk } ∧ SetR w h' s.heap.objs.size (fun j => decide (j ∈ ns)) c ∧ c ≤ ns.length ∧
          (∀ b o, s.heap.get? b = some o → h'.get? b = some o)) E) F.called_set.init.plain F.entry_set_init (check_set_init_1 tS0 ?_)) fun r₂ s₂ hr₂ => ?_
      · obtain ⟨ol, ol1, cl1, nl, dl1⟩ := hl
        obtain ⟨ocls, odict, odata, oslots⟩ := ol
        simp only at cl1 dl1
        subst cl1; subst dl1
        have hol' : (s.heap.push (nuS w)).get? l = some { cls := .type "list", dict := odict, data := .seq items nl, slots := oslots } := Heap.get?_push_of_some _ ol1
        have f1 := F.sub_list_set
        have f2 := F.sub_list_frozenset
        have nd1 : (Value.type "list" == Value.type "dict") = false := by decide
        have L1 : (s.heap.push (nuS w)).IsList l items := ⟨_, hol', rfl, nl, rfl⟩
        unfold Builtin.«set.__init__» noKeywords Builtin.Frozenset.updateFrom
        generalize hpit : pyIter = pit
        wp_walk
        subst hpit

        refine wpAny_pyIter_list L1 ?_
        refine wpAny_bind (wpAny_runValue ?_)
        have lS0 : l < s.heap.objs.size := Heap.lt_size ol1
        have q3 : A.in1.in1.in1.handled = none := by simp [hh]
        have z1 : (s.heap.push (nuS w)).objs.size = s.heap.objs.size + 1 := Heap.size_push ..
        have nI : l ≠ (s.heap.push (nuS w)).objs.size := by
          rw [Heap.size_push]; exact Nat.ne_of_lt (Nat.lt_succ_of_lt lS0)
        have nf : s.heap.objs.size ∉ [(s.heap.push (nuS w)).objs.size, l] := by
          rw [Heap.size_push]; simp only [List.mem_cons, List.mem_singleton, List.not_mem_nil, or_false, not_or]
          exact ⟨Nat.ne_of_lt (Nat.lt_succ_self _), Nat.ne_of_gt lS0⟩
        have va : ∀ (i : Nat) (v : Value), items[i]? = some v → ∃ k t, ns[i]? = some k ∧ v = .int k t := fun i v hv => by
          have hi : i < ns.length := by rw [← zz]; exact (Array.getElem?_eq_some_iff.mp hv).1
          obtain ⟨t, e⟩ := PyProof.Rows.IntsAre.int_at hit i v (by rw [Array.getElem?_toList]; exact hv)
          refine ⟨ns[i], t, List.getElem?_eq_getElem hi, ?_⟩
          rw [e, List.getD_eq_getElem?_getD, List.getElem?_eq_getElem hi] <;> rfl
        refine set_update_ints ((Walks.list q3 _ l nI items).toS) s.heap.objs.size
          nf ns zz hb va (items.size - 0) 0 _ (by omega) (Nat.zero_le _)
          ⟨⟨_, Heap.get?_push_size _ rfl, rfl, rfl⟩, (L1.push _)⟩ ?hS0 ?hR
        case hS0 =>
          have gt0 : ((s.heap.push (nuS w)).push { cls := .type "list_iterator", data := .fields #[.ref l, .int 0 0] }).get? s.heap.objs.size
              = some (nuS w) := Heap.get?_push_of_some _ oS
          exact ⟨0, Nat.le_refl 0, setR_new_at gt0⟩
        case hR =>
          intro s' c' mv cc1 ss1
          obtain ⟨h', g2, d', tk', os'⟩ := s'
          have eg : g2 = s.gens := mv.gens
          have ed : d' = s.drawn := mv.drawn
          have eo : os' = s.os := mv.os
          subst eg; subst ed; subst eo
          show wpAny _ _ _ _ _ _
          refine wpAny_pure ?_
          show wpAny _ _ (ret Value.none) _ _ _
          rw [zz] at cc1
          refine wpAny_pure ⟨rfl, h', tk', c', rfl, ss1, cc1, fun b o e => ?_⟩
          have b0 : b < s.heap.objs.size := Heap.lt_size e
          have b1 : b ≠ s.heap.objs.size := Nat.ne_of_lt b0
          have b2 : b ≠ (s.heap.push (nuS w)).objs.size := by
            rw [Heap.size_push]; exact Nat.ne_of_lt (Nat.lt_succ_of_lt b0)
          exact mv.heap b o (by simp only [List.mem_cons, List.mem_singleton, List.not_mem_nil, or_false, not_or]; exact ⟨b1, b2⟩) (Heap.get?_push_of_some _ (Heap.get?_push_of_some _ e))

      · cases r₂ with
        | error e => exact hr₂
        | ok fl₂ =>
          cases fl₂ with
          | ret r =>
            obtain ⟨rfl, h', tk, c', rfl, ss1, cc1, hk'⟩ := hr₂
            repeat (any_goals (first | assumption | wp_step))
            exact h _ _ _ ss1 cc1 hk'
          | _ => exact hr₂.elim
    | _ => exact hr.elim
end
end DL
/-! DL16: repr of data, sorted(set(..)), len(set(..)), list(range(..)), names of rules. -/
namespace DL
open PySem PySem.Spec PyProof.Rows L2
variable [TabT]
theorem hu1_of {k : Nat} {A : Around} (r : Room k A) : A.units + 1 < cLine := by have := r.un; omega
section
variable {X : Cx}
theorem CR_len : CallR X (.builtin "len") (fun xs H Q => (∃ p ys, xs = [.ref p] ∧ (SqL X.K H p ys ∨ SqT X.K H p ys) ∧ Q (.int ys.length) H) ∨ ∃ x n, xs = [x] ∧ LenV X.K x H n ∧ Q (.int n) H) := callr_or call_len_seq call_len
theorem CR_max (hc : X.calm = true := by rfl) : CallR X (.builtin "max") (fun xs H Q => (∃ i j, xs = [.int i, .int j] ∧ Q (.int (if j > i then j else i)) H) ∨ rMax X.K xs H Q) := callr_or (call_max2 hc) (cr_max hc)
theorem CR_min (hc : X.calm = true := by rfl) : CallR X (.builtin "min") (fun xs H Q => (∃ i j, xs = [.int i, .int j] ∧ Q (.int (if j < i then j else i)) H) ∨ rMin X.K xs H Q) := callr_or (call_min2 hc) (cr_min hc)
end
/-! ### repr -/
def reprD1 (a : D) : Option Val := match a.toPy with
  | some p => if p.showable = true ∧ p.hasDict = false ∧ p.depth ≤ 60 ∧ p.shown.length ≤ sizeLine then some (.d (.str p.shown)) else none
  | none => none
def reprD : List D → Option Val
  | [.tup xs] => reprD1 (.tup xs)
  | [.lst xs] => reprD1 (.lst xs)
  | [.int i] => if i.natAbs.log2 < 1920 then some (.d (.str (toString i))) else none
  | _ => none
def rReprD (K : PySem.W.Frag) : List V → Hp → VK → Prop := fun xs H Q => ∃ a p, xs = [.ref a] ∧ Dp K H (.ref a) p ∧ p.showable = true ∧ p.hasDict = false ∧ p.depth ≤ 60 ∧ p.shown.length ≤ sizeLine ∧ Q (.str p.shown) H
section
variable {X : Cx}
theorem call_repr_data (hG : X.A.guards = some []) (hu : X.A.units + 64 < cLine) : CallR X (.builtin "repr") (rReprD X.K) := by
  intro pins s σ H xs us Q I r h
  obtain ⟨a, p, rfl, dp, h1, h2, h3, h4, q⟩ := h
  rw [Vals.ref1 r]
  obtain ⟨as, rd⟩ := Dp.reads I p _ _ dp rfl
  exact PySem.repr_of_reads' rd h1 (fun e => by rw [h2] at e; cases e) hG (by omega) (fun _ _ e => e) (fun h' u tk k => ⟨.str p.shown, H, I.kept k, ⟨u, rfl⟩, q⟩) h4
theorem CR_repr (hG : X.A.guards = some []) (hu : X.A.units + 64 < cLine) : CallR X (.builtin "repr") (fun xs H Q => rReprD X.K xs H Q ∨ ∃ i, xs = [.int i] ∧ i.natAbs.log2 < 1920 ∧ Q (.str (toString i)) H) := callr_or (call_repr_data hG hu) SkE.call_repr_int
end
section
variable {K : PySem.W.Frag}
theorem reprD1_ok {F H : Hp} {v : V} {a : D} {z : Val} {Q : VK} (s : Same F H) (r : RepT K F H v a) (hv : ∃ p, v = .ref p) (e : reprD1 a = some z) (q : ∀ u F' H', Gr F H F' H' → VN K H F' H' u z → Q u H') : rReprD K [v] H Q := by
  unfold reprD1 at e
  split at e
  · rename_i p hp
    split at e
    · rename_i c
      cases e
      obtain ⟨a, rfl⟩ := hv
      exact ⟨a, p, rfl, (r.rep (toPy_nd hp) s).dp hp, c.1, c.2.1, c.2.2.1, c.2.2.2, vn_str s q⟩
    · cases e
  · cases e
theorem cs_repr : CallS K (fun xs H Q => rReprD K xs H Q ∨ ∃ i, xs = [.int i] ∧ i.natAbs.log2 < 1920 ∧ Q (.str (toString i)) H) reprD := by
  intro F H vs as z Q s ra e q
  unfold reprD at e
  split at e
  · obtain ⟨v, rfl, r⟩ := rep1 ra
    obtain ⟨p, xs, rfl, _⟩ := r.tup s
    exact .inl (reprD1_ok s r ⟨p, rfl⟩ e q)
  · obtain ⟨v, rfl, r⟩ := rep1 ra
    obtain ⟨p, xs, rfl, _⟩ := r.lst
    exact .inl (reprD1_ok s r ⟨p, rfl⟩ e q)
  · obtain ⟨v, rfl, r⟩ := rep1 ra
    obtain rfl := r.int
    split at e
    · rename_i h
      cases e
      exact .inr ⟨_, rfl, h, vn_str s q⟩
    · cases e
  · cases e
end
/-! ### sorted(set(..)) -/
/-- the ints, ascending, each once -/
def insI (k : Int) : List Int → List Int
  | [] => [k]
  | x :: xs => if k < x then k :: x :: xs else if k = x then x :: xs else x :: insI k xs
def sortSetI : List Int → List Int
  | [] => []
  | k :: ks => insI k (sortSetI ks)
theorem mem_insI {k y : Int} : ∀ {xs : List Int}, y ∈ insI k xs ↔ y = k ∨ y ∈ xs
  | [] => by simp [insI]
  | x :: xs => by
    unfold insI
    split
    · simp
    · split
      · rename_i h; subst h; simp
      · rw [List.mem_cons, mem_insI, List.mem_cons]
        constructor
        · rintro (h | h | h)
          · exact .inr (.inl h)
          · exact .inl h
          · exact .inr (.inr h)
        · rintro (h | h | h)
          · exact .inr (.inl h)
          · exact .inl h
          · exact .inr (.inr h)
theorem mem_sortSetI {y : Int} : ∀ {xs : List Int}, y ∈ sortSetI xs ↔ y ∈ xs
  | [] => by simp [sortSetI]
  | x :: xs => by unfold sortSetI; rw [mem_insI, mem_sortSetI, List.mem_cons]
theorem insI_pw {k : Int} : ∀ {xs : List Int}, xs.Pairwise (· < ·) → (insI k xs).Pairwise (· < ·)
  | [], _ => List.pairwise_singleton _ _
  | x :: xs, h => by
    obtain ⟨h1, h2⟩ := List.pairwise_cons.mp h
    unfold insI
    split
    · rename_i hk
      refine List.pairwise_cons.mpr ⟨fun y hy => ?_, h⟩
      rcases List.mem_cons.mp hy with rfl | z
      · exact hk
      · have := h1 y z; omega
    · split
      · exact h
      · refine List.pairwise_cons.mpr ⟨fun y hy => ?_, insI_pw h2⟩
        rcases mem_insI.mp hy with rfl | z
        · omega
        · exact h1 y z
theorem sortSetI_pw : ∀ (xs : List Int), (sortSetI xs).Pairwise (· < ·)
  | [] => .nil
  | x :: xs => insI_pw (sortSetI_pw xs)
def rSetL (K : PySem.W.Frag) (w : World) : List V → Hp → VK → Prop := fun xs H Q => ∃ (l : Addr) (ns : List Int), xs = [.ref l] ∧ SqL K H l (ns.map V.int) ∧ ns.length + 1 < scanBound ∧ ∀ p c, H p = none → Q (.ref p) (upd H p (SetO w p (fun j => decide (j ∈ ns)) c))
section
variable {X : Cx}
theorem cr_setL (hc : X.calm = true) : CallR X (.type "set") (rSetL X.K X.w) := by
  intro pins s σ H vs us Q I r h
  obtain ⟨l, ns, rfl, hs, hb, q⟩ := h
  rw [Vals.ref1 r]
  obtain ⟨its, rv, pl, hz⟩ := I.list hs
  refine call_set_listI ns (I.ok.hd hc) pl.isList (by simpa using rv.ints) hb fun h' tk c R hle k => ?_
  have new : H s.heap.objs.size = none := I.hok.fresh (Nat.le_refl _)
  exact ⟨.ref s.heap.objs.size, _, I.laid (o := SetO X.w s.heap.objs.size (fun j => decide (j ∈ ns)) c) k (Nat.le_refl _) (setO_new R), rfl, q _ c new⟩
variable {E : WX} {a : Expr} {f : EM} {pos p p2 q : Pos}
def setI (x : D) : Option (List Int) := match x with
  | .lst ds => match intsD ds with
    | some ns => if ns.length < 4000 then some ns else none
    | none => none
  | _ => none
def eSortSet (f : EM) : EM := eUn (fun x => (setI x).map fun ns => .fr (.lst ((sortSetI ns).map D.int))) f
theorem setI_ok {K : PySem.W.Frag} {F H : Hp} {v : V} {x : D} {ns : List Int} (e : setI x = some ns) (r : RepT K F H v x) : ∃ l, v = .ref l ∧ SqL K H l (ns.map V.int) ∧ ns.length + 1 < scanBound := by
  unfold setI at e
  split at e
  · split at e
    · rename_i ms h
      split at e
      · rename_i hl
        cases e
        obtain ⟨l, xs, rfl, hx, rl⟩ := r.lst
        rw [intsD_ok h] at rl
        rw [rl.intsV] at hx
        exact ⟨l, rfl, .inl (.inl hx), by unfold scanBound; omega⟩
      · cases e
    · cases e
  · cases e
/-! ### len(set(..)) -/
def rLenN (w : World) : List V → Hp → VK → Prop := fun vs H Q => ∃ (a : Addr) (S : Int → Bool) (n : Nat), vs = [V.ref a] ∧ H a = some (SetO w a S n) ∧ ∀ (ks : List Int), ks.Nodup → (∀ k, k ∈ ks ↔ S k = true) → Q (.int (ks.length : Nat)) H
theorem cr_lenN : CallR X (.builtin "len") (rLenN X.w) := by
  intro pins s σ H vs us Q I r h
  obtain ⟨a, S, n, rfl, ha, q⟩ := h
  obtain ⟨o, es, ep, t, ho, hex, hd, g, nd, hm, hb, hf, hn, hr, hl⟩ := setO_get I ha
  rw [Vals.ref1 r]
  refine call_len_set ho hex hd hf (by unfold scanBound at hb; omega) (show EP X pins σ Q (.int es.size _) _ from ⟨.int ((es.toList.map keyOf).length : Nat), H, I.tok (s.toks + 1 + 1), ⟨s.toks + 1, by rw [List.length_map, Array.length_toList]⟩, q _ nd fun k => (hm k).symm⟩)
def eLenSet (f : EM) : EM := eUn (fun x => (setI x).map fun ns => .d (.int ((sortSetI ns).length : Nat))) f
theorem us_lenSet {K : PySem.W.Frag} {w : World} : UnS K (fun v H Q => rSetL K w [v] H fun u H' => rLenN w [u] H' Q) (fun x => (setI x).map fun ns => .d (.int ((sortSetI ns).length : Nat))) := by
  intro F H v a z Q s r e q
  dsimp only at e
  cases h : setI a with
  | none => rw [h] at e; cases e
  | some ns =>
    rw [h] at e; cases e
    obtain ⟨l, rfl, hs, hb⟩ := setI_ok h r
    refine ⟨l, ns, rfl, hs, hb, fun p c hp => ⟨p, _, c, rfl, upd_same, fun ks nd hm => ?_⟩⟩
    have hn : (sortSetI ns).Nodup := (sortSetI_pw ns).imp fun {a b} h e => by omega
    have pm : ks.Perm (sortSetI ns) := (List.perm_ext_iff_of_nodup nd hn).mpr fun k => by rw [hm k, mem_sortSetI]; exact decide_eq_true_iff
    rw [pm.length_eq]
    exact q _ F _ (Gr.fresh s hp) (.int _)
theorem de_lenSet (hc : X.calm = true) (hg : Gl X "len") (hm : X.mg "len" = none) (hg2 : Gl X "set") (hm2 : X.mg "set" = none) (ha : DE X E a f) (hsa : starEach [a] X.env = (false, eval a X.env) :: starEach [] X.env := by rfl) : DE X E (.Call (.Name "len" p) [.Call (.Name "set" p2) [a] [] q] [] pos) (eLenSet f) :=
  pe_conseq (pe_callB cr_lenN hg hm PySem.boot_len (pa_cons (pe_callTy (cr_setL hc) hg2 hm2 PyProof.Rows.boot_set (pa_cons ha pa_nil hsa) (he := hsa)) pa_nil (by rfl)) (he := by rfl)) fun _ _ _ => one1 us_lenSet
/-! ### list(range(..)), tuple(range(..)) -/
def rgL (i j : Int) : List D := (List.range (j - i).toNat).map fun k => D.int (i + (k : Nat))
def rgIn (i j : Int) : Bool := decide (-1000000000000000000 ≤ i ∧ i ≤ 1000000000000000000 ∧ -1000000000000000000 ≤ j ∧ j ≤ 1000000000000000000 ∧ (j - i).toNat ≤ 10000000)
theorem rgIn_ok {i j : Int} (h : rgIn i j = true) : RgOk i j := by
  have h := of_decide_eq_true h
  unfold RgOk
  refine ⟨?_, ?_, ?_, ?_, ?_⟩
  · have : (-(2 ^ 62) : Int) ≤ -1000000000000000000 := by decide
    omega
  · have : (1000000000000000000 : Int) < 2 ^ 62 := by decide
    omega
  · have : (-(2 ^ 62) : Int) ≤ -1000000000000000000 := by decide
    omega
  · have : (1000000000000000000 : Int) < 2 ^ 62 := by decide
    omega
  · have : 10000000 ≤ 2 ^ 24 := by decide
    omega
theorem rg_rep {K : PySem.W.Frag} {F : Hp} {i j : Int} : RepL K F (rgV i j) (rgL i j) := by
  unfold rgV rgL
  generalize List.range (j - i).toNat = l
  induction l with
  | nil => exact .nil
  | cons x l ih => exact .cons (.int _) ih
def lrgD : D → D → Option Val
  | .int i, .int j => if rgIn i j = true then some (.fr (.lst (rgL i j))) else none
  | _, _ => none
def trgD : D → D → Option Val
  | .int i, .int j => if rgIn i j = true then some (.d (.tup (rgL i j))) else none
  | _, _ => none
def rLrg (i j : Int) : Hp → VK → Prop := fun H Q => RgOk i j ∧ ∀ q, H q = none → Q (.ref q) (upd H q (.lst (rgV i j)))
theorem os_lrg {K : PySem.W.Frag} : OpS K (fun x y H Q => ∃ i j, x = .int i ∧ y = .int j ∧ rLrg i j H Q) lrgD := by
  intro F H v w a b z Q s ra rb e q
  unfold lrgD at e
  split at e
  · split at e
    · rename_i h
      cases e
      obtain rfl := ra.int; obtain rfl := rb.int
      exact ⟨_, _, rfl, rfl, rgIn_ok h, fun p n => vn_lst s q rg_rep n⟩
    · cases e
  · cases e
variable {b : Expr} {g : EM}
theorem de_lrg2 (hc : X.calm = true) (hg : Gl X "list") (hm : X.mg "list" = none) (hg2 : Gl X "range") (hm2 : X.mg "range" = none) (ha : DE X E a f) (hb : DE X E b g) (hsa : starEach [a, b] X.env = (false, eval a X.env) :: starEach [b] X.env := by rfl) (hsb : starEach [b] X.env = (false, eval b X.env) :: starEach [] X.env := by rfl) : DE X E (.Call (.Name "list" p) [.Call (.Name "range" p2) [a, b] [] q] [] pos) (eOp lrgD f g) :=
  pe_conseq (pe_listRg hc hg hm (prg_2 hg2 hm2 ha hb hsa hsb (by rw [hsb]; rfl))) fun _ _ _ hq => two os_lrg hq
end
end DL
/-! DL17: reading the semantic functions: what they give, step by step. -/
namespace DL
open PySem PySem.Spec PyProof.Rows L2
/-- no tables: for facts in which they play no part -/
instance (priority := low) tabNone : TabT := { mg := fun _ => none, T := [], FB := fun _ => none }
section
variable {α β : Type}
def R.wp (r : R α) (Q : α → DEnv → Prop) (X : Ex → DEnv → Prop) : Prop := match r with
  | .ok a ρ => Q a ρ
  | .ex x ρ => X x ρ
  | .bad => False
structure Po where
  nx : DEnv → Prop
  rt : Val → DEnv → Prop
  bk : DEnv → Prop := fun _ => False
  ct : DEnv → Prop := fun _ => False
  ex : Ex → DEnv → Prop := fun _ _ => False
def RS.wp (r : RS) (P : Po) : Prop := match r with
  | .nx ρ => P.nx ρ
  | .rt x ρ => P.rt x ρ
  | .bk ρ => P.bk ρ
  | .ct ρ => P.ct ρ
  | .ex x ρ => P.ex x ρ
  | .bad => False
def RF.wp (r : RF) (Q : Val → DEnv → Prop) (X : Ex → DEnv → Prop) : Prop := match r with
  | .ret x as => Q x as
  | .ex x as => X x as
  | .bad => False
theorem RF.wp_ret {r : RF} {Q : Val → DEnv → Prop} (h : r.wp Q fun _ _ => False) : ∃ x as, r = .ret x as ∧ Q x as := by
  cases r with
  | ret x as => exact ⟨x, as, rfl, h⟩
  | ex x as => exact h.elim
  | bad => exact h.elim
theorem RF.wp_mono {r : RF} {Q Q' : Val → DEnv → Prop} {X X' : Ex → DEnv → Prop} (h : r.wp Q X) (hq : ∀ x as, Q x as → Q' x as) (hx : ∀ x as, X x as → X' x as) : r.wp Q' X' := by
  cases r with
  | ret x as => exact hq _ _ h
  | ex x as => exact hx _ _ h
  | bad => exact h.elim
theorem R.wp_mono {r : R α} {Q Q' : α → DEnv → Prop} {X X' : Ex → DEnv → Prop} (h : r.wp Q X) (hq : ∀ x as, Q x as → Q' x as) (hx : ∀ x as, X x as → X' x as) : r.wp Q' X' := by
  cases r with
  | ok x as => exact hq _ _ h
  | ex x as => exact hx _ _ h
  | bad => exact h.elim
theorem b_bind {r : R α} {g : α → DEnv → R β} {Q : β → DEnv → Prop} {X : Ex → DEnv → Prop} (h : r.wp (fun a ρ => (g a ρ).wp Q X) X) : (r.bind g).wp Q X := by cases r <;> exact h
theorem b_bindS {r : R α} {g : α → DEnv → RS} {P : Po} (h : r.wp (fun a ρ => (g a ρ).wp P) P.ex) : (r.bindS g).wp P := by cases r <;> exact h
theorem b_ok {a : α} {ρ : DEnv} {Q : α → DEnv → Prop} {X : Ex → DEnv → Prop} (h : Q a ρ) : (R.ok a ρ).wp Q X := h
end
section
variable {ρ ρ' as : DEnv} {i : Nat} {x y : Val} {d a b : D} {c : Cont} {m : Md} {f g h : EM} {t u : M Bool} {op : D → D → Option Val} {Q : Val → DEnv → Prop} {QB : Bool → DEnv → Prop} {QL : List Val → DEnv → Prop} {X : Ex → DEnv → Prop} {P : Po} {s : SM} {gl : M (List Val)}
theorem b_var_d (e : ρ[i]? = some (.d d)) (q : Q (.d d) ρ) : (eVar i ρ).wp Q X := by unfold eVar; rw [e]; exact q
theorem b_var_o (e : ρ[i]? = some (.ow c m)) (q : Q (.sl i) ρ) : (eVar i ρ).wp Q X := by unfold eVar; rw [e]; exact q
theorem b_C (q : Q (.d d) ρ) : (eC d ρ).wp Q X := q
theorem b_op (q : (f ρ).wp (fun x ρ1 => (g ρ1).wp (fun y ρ2 => (opV op x y ρ2).wp Q X) X) X) : (eOp op f g ρ).wp Q X := b_bind (R.wp_mono q (fun _ _ h => b_bind h) fun _ _ h => h)
theorem b_un {op : D → Option Val} (q : (f ρ).wp (fun x ρ1 => (unV op x ρ1).wp Q X) X) : (eUn op f ρ).wp Q X := b_bind q
theorem b_cb {op : List D → Option Val} (q : (gl ρ).wp (fun x ρ1 => (callV op x ρ1).wp Q X) X) : (eCallB op gl ρ).wp Q X := b_bind q
theorem b_opV {z : Val} (h1 : x.peek ρ = some a) (h2 : y.peek ρ = some b) (e : op a b = some z) (q : Q z ρ) : (opV op x y ρ).wp Q X := by
  unfold opV
  rw [h1, h2]
  show (ret1 (op a b) ρ).wp Q X
  rw [e]
  exact q
theorem b_unV {op : D → Option Val} {z : Val} (h1 : x.peek ρ = some a) (e : op a = some z) (q : Q z ρ) : (unV op x ρ).wp Q X := by
  unfold unV
  rw [h1]
  show (ret1 (op a) ρ).wp Q X
  rw [e]
  exact q
theorem b_callV {op : List D → Option Val} {z : Val} {xs : List Val} {ds : List D} (h1 : peekL ρ xs = some ds) (e : op ds = some z) (q : Q z ρ) : (callV op xs ρ).wp Q X := by
  unfold callV
  rw [h1]
  show (ret1 (op ds) ρ).wp Q X
  rw [e]
  exact q
theorem b_nil (q : QL [] ρ) : (aNil ρ).wp QL X := q
theorem b_cons (q : (f ρ).wp (fun x ρ1 => (gl ρ1).wp (fun xs ρ2 => QL (x :: xs) ρ2) X) X) : (aCons f gl ρ).wp QL X := b_bind (R.wp_mono q (fun _ _ h => b_bind (R.wp_mono h (fun _ _ h => h) fun _ _ h => h)) fun _ _ h => h)
theorem b_fz (q : (f ρ).wp (fun x ρ1 => (x.fzA ρ1).wp Q X) X) : (DL.fz f ρ).wp Q X := b_bind q
def nslV (x : Val) : EM := fun ρ => match x with
  | .sl i => (Val.sl i).fz ρ
  | x => .ok x ρ
theorem b_nsl (q : (f ρ).wp (fun x ρ1 => (nslV x ρ1).wp Q X) X) : (DL.nsl f ρ).wp Q X := by
  refine b_bind (R.wp_mono q (fun x ρ1 h => ?_) fun _ _ h => h)
  cases x <;> exact h
theorem b_nslD (q : Q (.d d) ρ) : (nslV (.d d) ρ).wp Q X := q
theorem b_nslF (q : Q (.fr c) ρ) : (nslV (.fr c) ρ).wp Q X := q
theorem b_nslS (q : ((Val.sl i).fz ρ).wp Q X) : (nslV (.sl i) ρ).wp Q X := q
theorem b_tup (q : (gl ρ).wp (fun x ρ1 => (mkTup x ρ1).wp Q X) X) : (eTup gl ρ).wp Q X := b_bind q
theorem b_lst (q : (gl ρ).wp (fun x ρ1 => (mkLst x ρ1).wp Q X) X) : (eLst gl ρ).wp Q X := b_bind q
theorem b_mkTup {xs : List Val} {ds : List D} (e : dsL xs = some ds) (hl : ds.length ≤ 16777216) (q : Q (.d (.tup ds)) ρ) : (mkTup xs ρ).wp Q X := by
  unfold mkTup
  rw [e]
  first | exact q | (dsimp only; rw [if_pos hl]; exact q)
theorem b_mkLst {xs : List Val} {ds : List D} (e : dsL xs = some ds) (hl : ds.length ≤ 16777216) (q : Q (.fr (.lst ds)) ρ) : (mkLst xs ρ).wp Q X := by
  unfold mkLst
  rw [e]
  first | exact q | (dsimp only; rw [if_pos hl]; exact q)
theorem b_call {Fm : FM} (q : (gl ρ).wp (fun x ρ1 => (callF Fm x ρ1).wp Q X) X) : (eCall Fm gl ρ).wp Q X := b_bind q
theorem b_callF {Fm : FM} {xs : List Val} (h1 : argSlots ρ xs = some as) (h2 : lentOnce xs = true) (q : (Fm as).wp (fun x as' => Q x (putBack ρ xs as')) (fun x as' => X x (putBack ρ xs as'))) : (callF Fm xs ρ).wp Q X := by
  unfold callF
  rw [h1]
  dsimp only
  rw [if_pos h2]
  cases hh : Fm as <;> rw [hh] at q <;> exact q
theorem b_tst (q : (f ρ).wp (fun x ρ1 => (bT x ρ1).wp QB X) X) : (tst f ρ).wp QB X := b_bind q
theorem b_bT {k : Bool} (q : QB k ρ) : (bT (.d (.bl k)) ρ).wp QB X := q
theorem b_and (q : (t ρ).wp (fun k ρ1 => (k = true → (u ρ1).wp QB X) ∧ (k = false → QB false ρ1)) X) : (tAndM t u ρ).wp QB X := by
  refine b_bind (R.wp_mono q (fun k ρ1 h => ?_) fun _ _ h => h)
  cases k
  · exact h.2 rfl
  · exact h.1 rfl
theorem b_or (q : (t ρ).wp (fun k ρ1 => (k = true → QB true ρ1) ∧ (k = false → (u ρ1).wp QB X)) X) : (tOrM t u ρ).wp QB X := by
  refine b_bind (R.wp_mono q (fun k ρ1 h => ?_) fun _ _ h => h)
  cases k
  · exact h.2 rfl
  · exact h.1 rfl
theorem b_not (q : (t ρ).wp (fun k ρ1 => QB (!k) ρ1) X) : (tNotM t ρ).wp QB X := b_bind q
theorem b_eIf (q : (t ρ).wp (fun k ρ1 => (k = true → (f ρ1).wp Q X) ∧ (k = false → (g ρ1).wp Q X)) X) : (eIf t f g ρ).wp Q X := by
  refine b_bind (R.wp_mono q (fun k ρ1 h => ?_) fun _ _ h => h)
  cases k
  · exact h.2 rfl
  · exact h.1 rfl
theorem b_eAnd (q : (f ρ).wp (fun x ρ1 => ∃ k, x = .d (.bl k) ∧ (k = true → (g ρ1).wp Q X) ∧ (k = false → Q (.d (.bl false)) ρ1)) X) : (eAnd f g ρ).wp Q X := by
  refine b_bind (R.wp_mono q (fun x ρ1 h => ?_) fun _ _ h => h)
  obtain ⟨k, rfl, h1, h2⟩ := h
  cases k
  · exact h2 rfl
  · exact h1 rfl
theorem b_eOr (q : (f ρ).wp (fun x ρ1 => ∃ k, x = .d (.bl k) ∧ (k = true → Q (.d (.bl true)) ρ1) ∧ (k = false → (g ρ1).wp Q X)) X) : (eOr f g ρ).wp Q X := by
  refine b_bind (R.wp_mono q (fun x ρ1 h => ?_) fun _ _ h => h)
  obtain ⟨k, rfl, h1, h2⟩ := h
  cases k
  · exact h2 rfl
  · exact h1 rfl
theorem b_eNot (q : (f ρ).wp (fun x ρ1 => ∃ k, x = .d (.bl k) ∧ Q (.d (.bl !k)) ρ1) X) : (eNot f ρ).wp Q X := by
  refine b_bind (R.wp_mono q (fun x ρ1 h => ?_) fun _ _ h => h)
  obtain ⟨k, rfl, h1⟩ := h
  exact h1
def AndK (QB : Bool → DEnv → Prop) (k : Bool) (ρ1 : DEnv) : Bool → DEnv → Prop := fun k2 ρ2 => ρ2 = ρ1 ∧ QB (k && k2) ρ1
def OrK (QB : Bool → DEnv → Prop) (k : Bool) (ρ1 : DEnv) : Bool → DEnv → Prop := fun k2 ρ2 => ρ2 = ρ1 ∧ QB (k || k2) ρ1
theorem b_andK {k k2 : Bool} (q : QB (k && k2) ρ) : AndK QB k ρ k2 ρ := ⟨rfl, q⟩
theorem b_orK {k k2 : Bool} (q : QB (k || k2) ρ) : OrK QB k ρ k2 ρ := ⟨rfl, q⟩
theorem b_and2 (q : (t ρ).wp (fun k ρ1 => (u ρ1).wp (AndK QB k ρ1) fun _ _ => False) X) : (tAndM t u ρ).wp QB X := by
  refine b_bind (R.wp_mono q (fun k ρ1 h => ?_) fun _ _ h => h)
  cases e : u ρ1 with
  | ok k2 ρ2 =>
    rw [e] at h
    obtain ⟨rfl, h⟩ := h
    cases k
    · exact h
    · exact h
  | ex x ρ2 => rw [e] at h; exact h.elim
  | bad => rw [e] at h; exact h.elim
theorem b_or2 (q : (t ρ).wp (fun k ρ1 => (u ρ1).wp (OrK QB k ρ1) fun _ _ => False) X) : (tOrM t u ρ).wp QB X := by
  refine b_bind (R.wp_mono q (fun k ρ1 h => ?_) fun _ _ h => h)
  cases e : u ρ1 with
  | ok k2 ρ2 =>
    rw [e] at h
    obtain ⟨rfl, h⟩ := h
    cases k
    · exact h
    · exact h
  | ex x ρ2 => rw [e] at h; exact h.elim
  | bad => rw [e] at h; exact h.elim
theorem rng_at {n j : Nat} {f : Nat → D} {dd : D} (h : ((List.range n).map f)[j]? = some dd) : j < n ∧ dd = f j := by
  rw [List.getElem?_map] at h
  have hj : j < n := by
    rcases Nat.lt_or_ge j n with z | z
    · exact z
    · rw [List.getElem?_eq_none (by simpa using z)] at h; cases h
  rw [List.getElem?_range hj] at h
  exact ⟨hj, by simpa using h.symm⟩
/-! statements -/
theorem s_seq {s1 s2 : SM} (q : (s1 ρ).wp { P with nx := fun ρ1 => (s2 ρ1).wp P }) : (sSeq s1 s2 ρ).wp P := by
  unfold sSeq
  cases e : s1 ρ <;> rw [e] at q <;> exact q
theorem s_seqN {s1 s2 : SM} (e : ρ = ρ') (q : (s1 ρ').wp { P with nx := fun ρ1 => (s2 ρ1).wp P }) : (sSeq s1 s2 ρ).wp P := by subst e; exact s_seq q
theorem s_skip (q : P.nx ρ) : (sSkip ρ).wp P := q
theorem s_drop (q : (f ρ).wp (fun _ ρ1 => P.nx ρ1) P.ex) : (sDrop f ρ).wp P := b_bindS q
theorem s_ret (q : (f ρ).wp (fun x ρ1 => P.rt x ρ1) P.ex) : (sRet f ρ).wp P := b_bindS q
theorem s_retN (q : P.rt (.d .non) ρ) : (sRetN ρ).wp P := q
theorem s_break (q : P.bk ρ) : (sBreak ρ).wp P := q
theorem s_cont (q : P.ct ρ) : (sCont ρ).wp P := q
theorem s_if {s1 s2 : SM} (q : (t ρ).wp (fun k ρ1 => (k = true → (s1 ρ1).wp P) ∧ (k = false → (s2 ρ1).wp P)) P.ex) : (sIf t s1 s2 ρ).wp P := by
  refine b_bindS (R.wp_mono q (fun k ρ1 h => ?_) fun _ _ h => h)
  cases k
  · exact h.2 rfl
  · exact h.1 rfl
theorem s_asg (q : (f ρ).wp (fun x ρ1 => (asgV i x ρ1).wp P) P.ex) : (sAsg i f ρ).wp P := b_bindS q
theorem s_asgV (e : asgV i x ρ = .nx ρ') (q : P.nx ρ') : (asgV i x ρ).wp P := by rw [e]; exact q
theorem s_par {is : List Nat} (q : (gl ρ).wp (fun xs ρ1 => (asgs is xs ρ1).wp P) P.ex) : (sPar is gl ρ).wp P := b_bindS q
theorem s_asgs {is : List Nat} {xs : List Val} (e : asgs is xs ρ = .nx ρ') (q : P.nx ρ') : (asgs is xs ρ).wp P := by rw [e]; exact q
theorem s_tgt {G : Val → SM} (q : (f ρ).wp (fun x ρ1 => (G x ρ1).wp P) P.ex) : (sTgt f G ρ).wp P := b_bindS q
/-! defs -/
theorem f_fn {np nl : Nat} {body : SM} (hl : as.length = np) (q : (body (as ++ List.replicate nl .un)).wp { nx := fun ρ => (finish (.d .non) as ρ).wp Q X, rt := fun x ρ => (finish x as ρ).wp Q X, ex := fun x ρ => X x (argsBack as ρ) }) : (fnD np nl body as).wp Q X := by
  unfold fnD
  rw [if_pos hl]
  cases e : body (as ++ List.replicate nl .un) <;> rw [e] at q <;> first | exact q | exact q.elim
theorem f_d (q : Q (.d d) (argsBack as ρ)) : (finish (.d d) as ρ).wp Q X := q
theorem f_fr (q : Q (.fr c) (argsBack as ρ)) : (finish (.fr c) as ρ).wp Q X := q
theorem f_sl (e : ρ[i]? = some (.ow c .own)) (q : Q (.fr c) (argsBack as ρ)) : (finish (.sl i) as ρ).wp Q X := by
  unfold finish
  dsimp only
  rw [e]
  exact q
theorem f_sld (e : ρ[i]? = some (.d d)) (q : Q (.d d) (argsBack as ρ)) : (finish (.sl i) as ρ).wp Q X := by
  unfold finish
  dsimp only
  rw [e]
  exact q
/-! loops -/
theorem loop_inv {tg : Val → SM} {body : SM} (I : Nat → DEnv → Prop) : ∀ (ds : List D) (k : Nat) (ρ : DEnv), I k ρ → (∀ j dd ρ, ds[j]? = some dd → I (k + j) ρ → (tg (.d dd) ρ).wp { nx := fun ρ1 => (body ρ1).wp { P with nx := I (k + j + 1), ct := I (k + j + 1), bk := P.nx }, rt := fun _ _ => False }) → (∀ ρ, I (k + ds.length) ρ → P.nx ρ) → (loopD tg body ds ρ).wp P
  | [], k, ρ, h0, hs, he => he ρ h0
  | dd :: ds, k, ρ, h0, hs, he => by
    unfold loopD
    have h1 := hs 0 dd ρ rfl h0
    cases e1 : tg (.d dd) ρ with
    | nx ρ1 =>
      rw [e1] at h1
      have h1 : (body ρ1).wp _ := h1
      have rest : ∀ ρ2, I (k + 0 + 1) ρ2 → (loopD tg body ds ρ2).wp P := fun ρ2 h2 => loop_inv I ds (k + 1) ρ2 h2 (fun j d ρ e h => by
        have := hs (j + 1) d ρ (by simpa using e) (by rw [show k + (j + 1) = k + 1 + j by omega]; exact h)
        rw [show k + (j + 1) = k + 1 + j by omega] at this
        exact this) fun ρ h => he ρ (by rw [List.length_cons, show k + (ds.length + 1) = k + 1 + ds.length by omega]; exact h)
      dsimp only
      cases e2 : body ρ1 with
      | nx ρ2 => rw [e2] at h1; exact rest ρ2 h1
      | ct ρ2 => rw [e2] at h1; exact rest ρ2 h1
      | bk ρ2 => rw [e2] at h1; exact h1
      | rt x ρ2 => rw [e2] at h1; exact h1
      | ex x ρ2 => rw [e2] at h1; exact h1
      | bad => rw [e2] at h1; exact h1.elim
    | rt x ρ1 => rw [e1] at h1; exact h1.elim
    | bk ρ1 => rw [e1] at h1; exact h1.elim
    | ct ρ1 => rw [e1] at h1; exact h1.elim
    | ex x ρ1 => rw [e1] at h1; exact h1.elim
    | bad => rw [e1] at h1; exact h1.elim
theorem s_for {fi : IM} {tg : Val → SM} {body : SM} (q : (fi ρ).wp (fun src ρ1 => (unlkS src.2 ρ1 (loopD tg body src.1 (lockS src.2 ρ1))).wp P) P.ex) : (sFor fi tg body ρ).wp P := b_bindS q
theorem s_loop {tg : Val → SM} {body : SM} {ds : List D} (q : (loopD tg body ds ρ).wp P) : (unlkS none ρ' (loopD tg body ds ρ)).wp P := by
  cases e : loopD tg body ds ρ <;> rw [e] at q <;> exact q
def rngV : List Val → DEnv → R Src := fun xs ρ1 => match xs with
  | [.d (.int j)] => if -(2 ^ 62) ≤ j ∧ j < 2 ^ 62 then .ok ((List.range j.toNat).map fun k : Nat => D.int (0 + (k : Int)), none) ρ1 else .bad
  | [.d (.int i), .d (.int j)] => if -(2 ^ 62) ≤ i ∧ i < 2 ^ 62 ∧ -(2 ^ 62) ≤ j ∧ j < 2 ^ 62 then .ok ((List.range (j - i).toNat).map fun k : Nat => D.int (i + (k : Int)), none) ρ1 else .bad
  | _ => .bad
theorem b_rng {QI : Src → DEnv → Prop} (q : (gl ρ).wp (fun xs ρ1 => (rngV xs ρ1).wp QI X) X) : (iRng gl ρ).wp QI X := b_bind q
theorem b_rng1 {n : Int} {QI : Src → DEnv → Prop} (hn : -(2 ^ 62) ≤ n ∧ n < 2 ^ 62) (q : QI ((List.range n.toNat).map fun k : Nat => D.int (0 + (k : Int)), none) ρ) : (rngV [.d (.int n)] ρ).wp QI X := by
  unfold rngV
  dsimp only
  rw [if_pos hn]
  exact q
theorem b_rng2 {n k : Int} {QI : Src → DEnv → Prop} (hn : -(2 ^ 62) ≤ k ∧ k < 2 ^ 62 ∧ -(2 ^ 62) ≤ n ∧ n < 2 ^ 62) (q : QI ((List.range (n - k).toNat).map fun i : Nat => D.int (k + (i : Int)), none) ρ) : (rngV [.d (.int k), .d (.int n)] ρ).wp QI X := by
  unfold rngV
  dsimp only
  rw [if_pos hn]
  exact q
theorem while_inv {body : SM} (I : DEnv → Nat → Prop) : ∀ (n : Nat) (ρ : DEnv) (k : Nat), k < n → I ρ k → (∀ ρ k, I ρ k → (t ρ).wp (fun b ρ1 => (b = false → P.nx ρ1) ∧ (b = true → (body ρ1).wp { P with nx := fun ρ2 => ∃ k', k' < k ∧ I ρ2 k', ct := fun ρ2 => ∃ k', k' < k ∧ I ρ2 k', bk := P.nx })) P.ex) → (whileD t body n ρ).wp P
  | 0, ρ, k, h, _, _ => absurd h (Nat.not_lt_zero _)
  | n + 1, ρ, k, h, h0, hs => by
    unfold whileD
    refine b_bindS (R.wp_mono (hs ρ k h0) (fun b ρ1 h1 => ?_) fun _ _ h => h)
    cases b with
    | false => exact h1.1 rfl
    | true =>
      rw [if_pos rfl]
      have h2 := h1.2 rfl
      cases e2 : body ρ1 with
      | nx ρ2 => rw [e2] at h2; obtain ⟨k', hk, h3⟩ := h2; exact while_inv I n ρ2 k' (by omega) h3 hs
      | ct ρ2 => rw [e2] at h2; obtain ⟨k', hk, h3⟩ := h2; exact while_inv I n ρ2 k' (by omega) h3 hs
      | bk ρ2 => rw [e2] at h2; exact h2
      | rt x ρ2 => rw [e2] at h2; exact h2
      | ex x ρ2 => rw [e2] at h2; exact h2
      | bad => rw [e2] at h2; exact h2.elim
/-! comprehensions -/
theorem comp_inv {own : List Nat} {tg : Val → SM} {tt : M Bool} {el : EM} {QD : List D → DEnv → Prop} {XD : Ex → DEnv → Prop} (I : Nat → List D → DEnv → Prop) : ∀ (ds : List D) (k : Nat) (acc : List D) (ρ : DEnv), I k acc ρ →
    (∀ j dd acc ρ, ds[j]? = some dd → I (k + j) acc ρ → (tg (.d dd) ρ).wp { nx := fun ρ1 => (tt ρ1).wp (fun b ρ2 => (b = false → I (k + j + 1) acc (wipeD ρ2 own)) ∧ (b = true → (el ρ2).wp (fun y ρ3 => ∃ yd, y = .d yd ∧ I (k + j + 1) (acc ++ [yd]) (wipeD ρ3 own)) fun _ _ => False)) fun _ _ => False, rt := fun _ _ => False }) →
    (∀ acc ρ, I (k + ds.length) acc ρ → QD acc ρ) → (compD own tg tt el ds acc ρ).wp QD XD
  | [], k, acc, ρ, h0, hs, he => he acc ρ h0
  | dd :: ds, k, acc, ρ, h0, hs, he => by
    have h1 := hs 0 dd acc ρ rfl h0
    have rest : ∀ acc ρ2, I (k + 0 + 1) acc ρ2 → (compD own tg tt el ds acc ρ2).wp QD XD := fun acc ρ2 h2 => comp_inv I ds (k + 1) acc ρ2 h2 (fun j d acc ρ e h => by
        have := hs (j + 1) d acc ρ (by simpa using e) (by rw [show k + (j + 1) = k + 1 + j by omega]; exact h)
        rw [show k + (j + 1) = k + 1 + j by omega] at this
        exact this) fun acc ρ h => he acc ρ (by rw [List.length_cons, show k + (ds.length + 1) = k + 1 + ds.length by omega]; exact h)
    unfold compD
    cases e1 : tg (.d dd) ρ with
    | nx ρ1 =>
      rw [e1] at h1
      have h1 : (tt ρ1).wp _ _ := h1
      dsimp only
      cases e2 : tt ρ1 with
      | ok b ρ2 =>
        rw [e2] at h1
        have h1 : _ ∧ _ := h1
        dsimp only
        cases b with
        | false => rw [if_neg (by decide)]; exact rest _ _ (h1.1 rfl)
        | true =>
          rw [if_pos rfl]
          have h2 := h1.2 rfl
          cases e3 : el ρ2 with
          | ok y ρ3 =>
            rw [e3] at h2
            obtain ⟨yd, rfl, h3⟩ := h2
            exact rest _ _ h3
          | ex x ρ3 => rw [e3] at h2; exact h2.elim
          | bad => rw [e3] at h2; exact h2.elim
      | ex x ρ2 => rw [e2] at h1; exact h1.elim
      | bad => rw [e2] at h1; exact h1.elim
    | rt x ρ1 => rw [e1] at h1; exact h1.elim
    | bk ρ1 => rw [e1] at h1; exact h1.elim
    | ct ρ1 => rw [e1] at h1; exact h1.elim
    | ex x ρ1 => rw [e1] at h1; exact h1.elim
    | bad => rw [e1] at h1; exact h1.elim
theorem b_lc {own : List Nat} {fi : IM} {tg : Val → SM} {tt : M Bool} {el : EM} (q : (fi ρ).wp (fun src ρ1 => inB own ρ1 = true ∧ src.1.length < 16777216 ∧ (compD own tg tt el src.1 [] (wipeD (lockS src.2 ρ1) own)).wp (fun ys ρ2 => Q (.fr (.lst ys)) (unlk src.2 ρ1 (backD (lockS src.2 ρ1) ρ2 own))) fun _ _ => False) X) : (eLc own fi tg tt el ρ).wp Q X := by
  refine b_bind (R.wp_mono q (fun src ρ1 h => ?_) fun _ _ h => h)
  obtain ⟨h1, h2, h3⟩ := h
  rw [if_pos ⟨h1, h2⟩]
  cases e : compD own tg tt el src.1 [] (wipeD (lockS src.2 ρ1) own) with
  | ok ys ρ2 => rw [e] at h3; exact h3
  | ex x ρ2 => rw [e] at h3; exact h3.elim
  | bad => rw [e] at h3; exact h3.elim
theorem b_iseq {QI : Src → DEnv → Prop} (q : (f ρ).wp (fun x ρ1 => (seqSrc x ρ1).wp QI X) X) : (iSeq f ρ).wp QI X := b_bind q
theorem b_yes (q : QB true ρ) : (tYesD ρ).wp QB X := q
def StoreK (i : Nat) (k : EM) (P : Po) (x : Val) (ρ1 : DEnv) : Prop := ∃ c m, ρ1[i]? = some (.ow c m) ∧ (k ρ1).wp (fun y ρ2 => (storeV i x y ρ2).wp P) P.ex
theorem s_storeK {k : EM} (e : ρ[i]? = some (.ow c m)) (q : (k ρ).wp (fun y ρ2 => (storeV i x y ρ2).wp P) P.ex) : StoreK i k P x ρ := ⟨c, m, e, q⟩
theorem s_store {k : EM} (q : (f ρ).wp (StoreK i k P) P.ex) : (sStore i k f ρ).wp P := by
  refine b_bindS (R.wp_mono q (fun x ρ1 h => ?_) fun _ _ h => h)
  obtain ⟨c, m, e, h⟩ := h
  rw [e]
  exact b_bindS h
theorem s_storeV {k : Val} (e : storeV i x k ρ = .nx ρ') (q : P.nx ρ') : (storeV i x k ρ).wp P := by rw [e]; exact q
/-! methods -/
theorem b_methL {op : Cont → List D → Option (Cont × D)} {ds : List D} (e : ρ[i]? = some (.ow (.lst ds) m)) (q : (gl ρ).wp (fun xs ρ1 => (methV i op xs ρ1).wp Q X) X) : (eMethL i op gl ρ).wp Q X := by
  unfold eMethL
  rw [e]
  exact b_bind q
theorem b_methV {op : Cont → List D → Option (Cont × D)} {xs : List Val} {r : Val} (e : methV i op xs ρ = .ok r ρ') (q : Q r ρ') : (methV i op xs ρ).wp Q X := by rw [e]; exact q
theorem b_fzv {r : Val} (e : x.fz ρ = .ok r ρ') (q : Q r ρ') : (x.fz ρ).wp Q X := by rw [e]; exact q
theorem b_fzvA {r : Val} (e : x.fzA ρ = .ok r ρ') (q : Q r ρ') : (x.fzA ρ).wp Q X := by rw [e]; exact q
/-! operations -/
theorem x_mul {i j : Int} (h1 : x.peek ρ = some (.int i)) (h2 : y.peek ρ = some (.int j)) (h : ((-18446744073709551616 : Int) < i ∧ i < 18446744073709551616) ∨ ((-18446744073709551616 : Int) < j ∧ j < 18446744073709551616)) (q : Q (.d (.int (i * j))) ρ) : (opV mulD x y ρ).wp Q X :=
  b_opV h1 h2 (by
    show (match intV mulI (.int i) (.int j) with | some z => some z | none => repL _ _) = some _
    rw [show intV mulI (.int i) (.int j) = some (.d (.int (i * j))) from by
      show (mulI i j).map _ = _
      unfold mulI
      rw [if_pos (by
        rcases h with h | h
        · exact .inl (by simpa using h)
        · exact .inr (.inl (by simpa using h)))]
      rfl]) q
theorem x_mod {i j : Int} (h1 : x.peek ρ = some (.int i)) (h2 : y.peek ρ = some (.int j)) (h : 0 < j) (q : Q (.d (.int (i % j))) ρ) : (opV modD x y ρ).wp Q X :=
  b_opV h1 h2 (by
    show (modI i j).map _ = _
    unfold modI
    rw [if_pos h]
    rfl) q
theorem x_div {i j : Int} (h1 : x.peek ρ = some (.int i)) (h2 : y.peek ρ = some (.int j)) (h : 0 < j ∧ j < 18446744073709551616) (q : Q (.d (.int (i / j))) ρ) : (opV divD x y ρ).wp Q X :=
  b_opV h1 h2 (by
    show (divI i j).map _ = _
    unfold divI
    have h3 : j.natAbs < 2 ^ 64 := by have := h.2; omega
    have h4 : j.natAbs ≠ 0 := by have := h.1; omega
    have h5 := (Nat.log2_lt h4).mpr h3
    rw [if_pos ⟨h.1, by omega⟩]
    rfl) q
theorem x_pow {i j : Int} (h1 : x.peek ρ = some (.int i)) (h2 : y.peek ρ = some (.int j)) (hp : powI i j = some (i ^ j.toNat)) (q : Q (.d (.int (i ^ j.toNat))) ρ) : (opV powD x y ρ).wp Q X :=
  b_opV h1 h2 (by
    show (powI i j).map _ = _
    rw [hp]
    rfl) q
theorem x_modG {i j : Int} (h1 : x.peek ρ = some (.int i)) (h2 : y.peek ρ = some (.int j)) (h : 0 < j) (q : ∀ r, 0 ≤ r → r < j → r = i % j → Q (.d (.int r)) ρ) : (opV modD x y ρ).wp Q X :=
  x_mod h1 h2 h (q _ (Int.emod_nonneg _ (by omega)) (Int.emod_lt_of_pos _ h) rfl)
theorem x_idx {xs : List D} {i : Int} (h1 : x.peek ρ = some (.lst xs)) (h2 : y.peek ρ = some (.int i)) (e : atI xs i = some d) (q : Q (.d d) ρ) : (opV idxD x y ρ).wp Q X :=
  b_opV h1 h2 (by
    show (match (match (atI xs i).map Val.d with | some z => some z | none => idxD3 _ _) with | some z => some z | none => idxD2 _ _) = some _
    rw [e]
    rfl) q
theorem x_idxT {xs : List D} {i : Int} (h1 : x.peek ρ = some (.tup xs)) (h2 : y.peek ρ = some (.int i)) (e : atI xs i = some d) (q : Q (.d d) ρ) : (opV idxD x y ρ).wp Q X :=
  b_opV h1 h2 (by
    show (match (match (atI xs i).map Val.d with | some z => some z | none => idxD3 _ _) with | some z => some z | none => idxD2 _ _) = some _
    rw [e]
    rfl) q
theorem x_idxS {xs : List Int} {i j : Int} (h1 : x.peek ρ = some (.scr xs)) (h2 : y.peek ρ = some (.int i)) (e : atI xs i = some j) (q : Q (.d (.int j)) ρ) : (opV idxD x y ρ).wp Q X :=
  b_opV h1 h2 (by
    show (match (match (atI xs i).map (fun k => Val.d (.int k)) with | some z => some z | none => idxD3 _ _) with | some z => some z | none => idxD2 _ _) = some _
    rw [e]
    rfl) q
theorem x_ne {k : Bool} (h1 : x.peek ρ = some a) (h2 : y.peek ρ = some b) (e : eqD a b = some k) (q : Q (.d (.bl !k)) ρ) : (opV neV' x y ρ).wp Q X :=
  b_opV h1 h2 (by show bV ((eqD a b).map _) = _; rw [e]; rfl) q
theorem x_eq {k : Bool} (h1 : x.peek ρ = some a) (h2 : y.peek ρ = some b) (e : eqD a b = some k) (q : Q (.d (.bl k)) ρ) : (opV eqV' x y ρ).wp Q X :=
  b_opV h1 h2 (by show bV (eqD a b) = _; rw [e]; rfl) q
theorem x_append {xs : List D} (e : ρ[i]? = some (.ow (.lst xs) m)) (hm : m = .own ∨ m = .bor) (hl : xs.length < 16777216) (q : Q (.d .non) (ρ.set i (.ow (.lst (xs ++ [d])) m))) : (methV i appendO [.d d] ρ).wp Q X := by
  refine b_methV (r := .d .non) (ρ' := ρ.set i (.ow (.lst (xs ++ [d])) m)) ?_ q
  unfold methV
  rw [e]
  show (match appendO (.lst xs) [d] with | some (c', r) => (mutS i c' ρ).bind (fun _ ρ' => (R.ok (Val.d r) ρ' : R Val)) | none => .bad) = _
  rw [show appendO (.lst xs) [d] = some (.lst (xs ++ [d]), .non) from if_pos hl]
  show (mutS i (.lst (xs ++ [d])) ρ).bind _ = _
  unfold mutS
  rw [e]
  rcases hm with rfl | rfl <;> rfl
theorem x_popAt {xs : List D} {r : Int} (e : ρ[i]? = some (.ow (.lst xs) m)) (hm : m = .own ∨ m = .bor) (h0 : 0 ≤ r) (h1 : r < xs.length) (hl : xs.length < 16777216) (q : ∀ d, xs[r.toNat]? = some d → Q (.d d) (ρ.set i (.ow (.lst (xs.eraseIdx r.toNat)) m))) : (methV i popAtO [.d (.int r)] ρ).wp Q X := by
  have hj : r.toNat < xs.length := by omega
  refine b_methV (r := .d xs[r.toNat]) (ρ' := ρ.set i (.ow (.lst (xs.eraseIdx r.toNat)) m)) ?_ (q _ (List.getElem?_eq_getElem hj))
  unfold methV
  rw [e]
  show (match popAtO (.lst xs) [.int r] with | some (c', r) => (mutS i c' ρ).bind (fun _ ρ' => (R.ok (Val.d r) ρ' : R Val)) | none => .bad) = _
  unfold popAtO
  dsimp only
  rw [if_pos ⟨h0, h1, by omega⟩, List.getElem?_eq_getElem hj]
  show (mutS i (.lst (xs.eraseIdx r.toNat)) ρ).bind _ = _
  unfold mutS
  rw [e]
  rcases hm with rfl | rfl <;> rfl
/-! slots that may be stored in -/
def Fr (s : Slot) : Prop := s = .un ∨ (∃ d, s = .d d) ∨ ∃ c, s = .ow c .own
theorem Fr.un : Fr .un := .inl rfl
theorem Fr.dat {d : D} : Fr (.d d) := .inr (.inl ⟨d, rfl⟩)
theorem Fr.own {c : Cont} : Fr (.ow c .own) := .inr (.inr ⟨c, rfl⟩)
theorem put_fr {s s0 : Slot} (e : ρ[i]? = some s0) (hf : Fr s0) : put i s ρ = .nx (ρ.set i s) := by
  unfold put
  rw [e]
  rcases hf with rfl | ⟨d, rfl⟩ | ⟨c, rfl⟩ <;> rfl
theorem s_asgF {s0 : Slot} (e : ρ[i]? = some s0) (hf : Fr s0) (q : P.nx (ρ.set i (.d d))) : (asgV i (.d d) ρ).wp P := by
  unfold asgV
  show (put i (.d d) ρ).wp P
  rw [put_fr e hf]
  exact q
theorem s_asgFO {s0 : Slot} (e : ρ[i]? = some s0) (hf : Fr s0) (q : P.nx (ρ.set i (.ow c .own))) : (asgV i (.fr c) ρ).wp P := by
  unfold asgV
  show (put i (.ow c .own) ρ).wp P
  rw [put_fr e hf]
  exact q
theorem s_asgsN (q : P.nx ρ) : (asgs [] [] ρ).wp P := by unfold asgs; exact q
theorem s_asgsD {is : List Nat} {xs : List Val} {s0 : Slot} (e : ρ[i]? = some s0) (hf : Fr s0) (q : (asgs is xs (ρ.set i (.d d))).wp P) : (asgs (i :: is) (.d d :: xs) ρ).wp P := by
  show ((put i (.d d) ρ).thenS (asgs is xs)).wp P
  rw [put_fr e hf]
  exact q
theorem s_asgsO {is : List Nat} {xs : List Val} {s0 : Slot} (e : ρ[i]? = some s0) (hf : Fr s0) (q : (asgs is xs (ρ.set i (.ow c .own))).wp P) : (asgs (i :: is) (.fr c :: xs) ρ).wp P := by
  show ((put i (.ow c .own) ρ).thenS (asgs is xs)).wp P
  rw [put_fr e hf]
  exact q
end
end DL
/-! DL18: data that can be compared and shown. -/
namespace DL
open PySem PySem.Spec PyProof.Rows L2
mutual
def D.good : D → Bool
  | .non => true
  | .bl _ => true
  | .int _ => true
  | .str x => PyData.strOk x
  | .tup xs => goodL xs
  | .lst xs => goodL xs
  | _ => false
def goodL : List D → Bool
  | [] => true
  | x :: xs => x.good && goodL xs
end
mutual
def D.dep : D → Nat
  | .tup xs => depL xs + 1
  | .lst xs => depL xs + 1
  | _ => 0
def depL : List D → Nat
  | [] => 0
  | x :: xs => max x.dep (depL xs)
end
mutual
def D.cnt : D → Nat
  | .tup xs => cntL xs + 1
  | .lst xs => cntL xs + 1
  | _ => 1
def cntL : List D → Nat
  | [] => 0
  | x :: xs => x.cnt + cntL xs
end
mutual
def D.short : D → Bool
  | .int i => decide (i.natAbs < 2 ^ 200)
  | .str x => decide (x.length ≤ 50)
  | .tup xs => shortL xs
  | .lst xs => shortL xs
  | _ => true
def shortL : List D → Bool
  | [] => true
  | x :: xs => x.short && shortL xs
end
theorem strOk_lt {x : Str} (h : PyData.strOk x = true) : ∀ c ∈ x.cps.toList, c < 16 ^ 8 := fun c hc => by
  unfold PyData.strOk at h
  rw [Array.all_eq_true'] at h
  have := h c (by simpa using hc)
  have h2 : c < 1114112 := by simpa using this
  omega
theorem int_short {i : Int} (h : i.natAbs < 2 ^ 200) : (PyData.int i).showable = true ∧ (PyData.int i).shown.length ≤ 1921 := by
  have h2 : i.natAbs.log2 < 200 := by
    by_cases h0 : i.natAbs = 0
    · rw [h0]; decide
    · exact (Nat.log2_lt h0).mpr h
  refine ⟨?_, ?_⟩
  · unfold PyData.showable
    exact decide_eq_true (by omega)
  · unfold PyData.shown
    have := int_text_len_1921 (i := i) (by omega)
    exact this
mutual
theorem good_py : ∀ (d : D), d.good = true → ∃ p, d.toPy = some p ∧ p.canLay0 = true ∧ p.depth = d.dep ∧ p.hasDict = false ∧ (d.short = true → p.showable = true ∧ p.shown.length + 2 ≤ 2000 * d.cnt)
  | .non, _ => ⟨.none, rfl, rfl, rfl, by simp only [PyData.hasDict], fun _ => ⟨by simp only [PyData.showable], by simp only [PyData.shown]; decide⟩⟩
  | .bl b, _ => ⟨.bool b, rfl, rfl, rfl, by simp only [PyData.hasDict], fun _ => ⟨by simp only [PyData.showable], by simp only [PyData.shown]; cases b <;> decide⟩⟩
  | .int i, _ => ⟨.int i, rfl, rfl, rfl, by simp only [PyData.hasDict], fun h => by
      have := int_short (i := i) (by simpa [D.short] using h)
      exact ⟨this.1, by have := this.2; simp only [D.cnt]; omega⟩⟩
  | .str x, h => ⟨.str x, rfl, by simpa [PyData.canLay0, D.good] using h, rfl, by simp only [PyData.hasDict], fun hs => ⟨by simp only [PyData.showable], by
      simp only [PyData.shown]
      have h1 := StrLaws.reprText_len x (strOk_lt (by simpa [D.good] using h))
      have h2 : x.length ≤ 50 := by simpa [D.short] using hs
      simp only [D.cnt]
      omega⟩⟩
  | .tup xs, h => by
    obtain ⟨ps, h1, h2, h3, h4, h5, h6⟩ := goodL_py xs (by simpa [D.good] using h)
    refine ⟨.tuple ps, by simp [D.toPy, h1], by simpa [PyData.canLay0] using h2, by simp [PyData.depth, D.dep, h3], by simpa [PyData.hasDict] using h4, fun hs => ?_⟩
    obtain ⟨g1, g2⟩ := h6 (by simpa [D.short] using hs)
    refine ⟨by simpa [PyData.showable] using g1, ?_⟩
    have := tupleText_len_le (PyData.shownAll ps)
    simp only [PyData.shown, D.cnt]
    rw [h5] at this
    omega
  | .lst xs, h => by
    obtain ⟨ps, h1, h2, h3, h4, h5, h6⟩ := goodL_py xs (by simpa [D.good] using h)
    refine ⟨.list ps, by simp [D.toPy, h1], by simpa [PyData.canLay0] using h2, by simp [PyData.depth, D.dep, h3], by simpa [PyData.hasDict] using h4, fun hs => ?_⟩
    obtain ⟨g1, g2⟩ := h6 (by simpa [D.short] using hs)
    refine ⟨by simpa [PyData.showable] using g1, ?_⟩
    have := listText_len_le (PyData.shownAll ps)
    simp only [PyData.shown, D.cnt]
    rw [h5] at this
    omega
  | .dic _ _, h => by simp [D.good] at h
  | .set _, h => by simp [D.good] at h
  | .scr _, h => by simp [D.good] at h
  | .ty _, h => by simp [D.good] at h
  | .obj _ _ _, h => by simp [D.good] at h
  | .ins _ _ _, h => by simp [D.good] at h
theorem goodL_py : ∀ (ds : List D), goodL ds = true → ∃ ps, toPyL ds = some ps ∧ PyData.canLayAll0 ps = true ∧ PyData.depthAll ps = depL ds ∧ PyData.hasDictAll ps = false ∧ (PyData.shownAll ps).length = ds.length ∧ (shortL ds = true → PyData.showableAll ps = true ∧ ((PyData.shownAll ps).map (·.length)).sum + 2 * ds.length ≤ 2000 * cntL ds)
  | [], _ => ⟨[], rfl, rfl, rfl, by simp only [PyData.hasDictAll], by simp [PyData.shownAll], fun _ => ⟨by simp only [PyData.showableAll], by simp [PyData.shownAll, cntL]⟩⟩
  | d :: ds, h => by
    have h : d.good = true ∧ goodL ds = true := by simpa [goodL] using h
    obtain ⟨p, a1, a2, a3, a4, a5⟩ := good_py d h.1
    obtain ⟨ps, b1, b2, b3, b4, b5, b6⟩ := goodL_py ds h.2
    refine ⟨p :: ps, by simp [toPyL, a1, b1], by simp [PyData.canLayAll0, a2, b2], by simp [PyData.depthAll, depL, a3, b3], by simp [PyData.hasDictAll, a4, b4], by simp [PyData.shownAll, b5], fun hs => ?_⟩
    have hs : d.short = true ∧ shortL ds = true := by simpa [shortL] using hs
    obtain ⟨c1, c2⟩ := a5 hs.1
    obtain ⟨e1, e2⟩ := b6 hs.2
    refine ⟨by simp [PyData.showableAll, c1, e1], ?_⟩
    have hc : 1 ≤ d.cnt := by cases d <;> simp [D.cnt]
    simp only [PyData.shownAll, List.map_cons, List.sum_cons, List.length_cons, cntL]
    omega
end
/-! ### == -/
def eqG (a b : D) : Bool := match a.toPy, b.toPy with
  | some p, some q => PyData.eqv p q
  | _, _ => false
theorem good_shaped {d : D} (h : d.good = true) (hd : d.dep ≤ 64) : ∃ p, d.toPy = some p ∧ SeqAt.shaped p = true := by
  obtain ⟨p, h1, h2, h3, _⟩ := good_py d h
  exact ⟨p, h1, by unfold SeqAt.shaped; rw [h2, decide_eq_true (by omega)]; rfl⟩
theorem eqD_good {a b : D} (ha : a.good = true) (hb : b.good = true) (da : a.dep ≤ 64) (db : b.dep ≤ 64) : eqD a b = some (eqG a b) := by
  obtain ⟨p, h1, h2⟩ := good_shaped ha da
  obtain ⟨q, h3, h4⟩ := good_shaped hb db
  have gen : (match a.toPy, b.toPy with | some p, some q => if SeqAt.shaped p = true ∧ SeqAt.shaped q = true then some (PyData.eqv p q) else none | _, _ => none) = some (eqG a b) := by
    unfold eqG
    rw [h1, h3]
    dsimp only
    rw [if_pos ⟨h2, h4⟩]
  unfold eqD
  split
  · unfold eqG; simp [D.toPy, PyData.eqv]; rfl
  · unfold eqG; simp [D.toPy, PyData.eqv]; rfl
  · unfold eqG; simp [D.toPy, PyData.eqv]
  · unfold eqG; simp [D.toPy, PyData.eqv]
  · unfold eqG; simp [D.toPy, PyData.eqv]
  · unfold eqG; simp [D.toPy, PyData.eqv]
  · unfold eqG; simp [D.toPy, PyData.eqv]
  · unfold eqG; simp [D.toPy, PyData.eqv]
  · unfold eqG; simp [D.toPy, PyData.eqv]
  · unfold eqG; simp [D.toPy, PyData.eqv]
  · exact gen
theorem eqG_refl {a : D} (h : a.good = true) : eqG a a = true := by
  obtain ⟨p, h1, h2, _⟩ := good_py a h
  unfold eqG
  rw [h1]
  exact PySem.SeqAt.eqv_refl p h2
theorem toPyL_nil {ds : List D} : toPyL ds = some [] → ds = [] := fun h => by
  cases ds with
  | nil => rfl
  | cons x xs =>
    unfold toPyL at h
    split at h
    · cases h
    · cases h
theorem eqG_nil {ds : List D} (h : goodL ds = true) : eqG (.lst ds) (.lst []) = ds.isEmpty := by
  obtain ⟨ps, h1, _⟩ := goodL_py ds h
  unfold eqG
  simp only [D.toPy, toPyL, h1, Option.map_some]
  cases ds with
  | nil => cases h1; simp [PyData.eqv, PyData.eqvAll]
  | cons x xs =>
    cases ps with
    | nil => cases toPyL_nil h1
    | cons p ps => simp [PyData.eqv, PyData.eqvAll]
/-! ### lists of data -/
theorem goodL_iff {ds : List D} : goodL ds = true ↔ ∀ x ∈ ds, x.good = true := by
  induction ds with
  | nil => simp [goodL]
  | cons x xs ih => simp [goodL, ih]
theorem shortL_iff {ds : List D} : shortL ds = true ↔ ∀ x ∈ ds, x.short = true := by
  induction ds with
  | nil => simp [shortL]
  | cons x xs ih => simp [shortL, ih]
theorem depL_le {ds : List D} {n : Nat} : depL ds ≤ n ↔ ∀ x ∈ ds, x.dep ≤ n := by
  induction ds with
  | nil => simp [depL]
  | cons x xs ih => simp [depL, Nat.max_le, ih]
theorem cntL_le {ds : List D} {n : Nat} (h : ∀ x ∈ ds, x.cnt ≤ n) : cntL ds ≤ n * ds.length := by
  induction ds with
  | nil => simp [cntL]
  | cons x xs ih =>
    have h1 := h x List.mem_cons_self
    have h2 := ih fun y hy => h y (List.mem_cons_of_mem _ hy)
    simp only [cntL, List.length_cons, Nat.mul_add]
    omega
/-- data that can be compared and shown, no deeper than k, of at most n parts -/
structure Gd (k n : Nat) (d : D) : Prop where
  good : d.good = true
  short : d.short = true
  dep : d.dep ≤ k
  cnt : d.cnt ≤ n
theorem Gd.mono {k n k' n' : Nat} {d : D} (h : Gd k n d) (hk : k ≤ k') (hn : n ≤ n') : Gd k' n' d := ⟨h.good, h.short, Nat.le_trans h.dep hk, Nat.le_trans h.cnt hn⟩
theorem Gd.tup {k n : Nat} {ds : List D} (h : ∀ x ∈ ds, Gd k n x) : Gd (k + 1) (n * ds.length + 1) (.tup ds) :=
  ⟨by simpa [D.good] using goodL_iff.mpr fun x hx => (h x hx).good, by simpa [D.short] using shortL_iff.mpr fun x hx => (h x hx).short, by simpa [D.dep] using depL_le.mpr fun x hx => (h x hx).dep, by have := cntL_le (n := n) fun x hx => (h x hx).cnt; simp only [D.cnt]; omega⟩
theorem Gd.lst {k n : Nat} {ds : List D} (h : ∀ x ∈ ds, Gd k n x) : Gd (k + 1) (n * ds.length + 1) (.lst ds) :=
  ⟨by simpa [D.good] using goodL_iff.mpr fun x hx => (h x hx).good, by simpa [D.short] using shortL_iff.mpr fun x hx => (h x hx).short, by simpa [D.dep] using depL_le.mpr fun x hx => (h x hx).dep, by have := cntL_le (n := n) fun x hx => (h x hx).cnt; simp only [D.cnt]; omega⟩
theorem Gd.int {i : Int} (h : i.natAbs < 2 ^ 200) : Gd 0 1 (.int i) := ⟨rfl, by simpa [D.short] using h, Nat.le_refl _, Nat.le_refl _⟩
theorem Gd.eq {a b : D} {k n k' n' : Nat} (ha : Gd k n a) (hb : Gd k' n' b) (hk : k ≤ 64) (hk' : k' ≤ 64) : eqD a b = some (eqG a b) := eqD_good ha.good hb.good (Nat.le_trans ha.dep hk) (Nat.le_trans hb.dep hk')
/-! ### repr -/
def shownD (d : D) : Str := match d.toPy with
  | some p => p.shown
  | none => ""
/-! ### more rules of reading -/
section
variable {ρ ρ' as : DEnv} {i : Nat} {x y : Val} {d a b : D} {c : Cont} {m : Md} {Q : Val → DEnv → Prop} {X : Ex → DEnv → Prop} {P : Po}
theorem inS_int {v : Int} : ∀ {ws : List Int}, inS (.int v) (ws.map D.int) = decide (v ∈ ws)
  | [] => by simp [inS]
  | w :: ws => by
    have ih := inS_int (v := v) (ws := ws)
    unfold inS at ih ⊢
    rw [List.map_cons, List.any_cons, ih]
    show (w == v || decide (v ∈ ws)) = _
    by_cases h : w = v
    · subst h; simp
    · simp [h, show ¬ v = w from fun z => h z.symm]
theorem flat_ints : ∀ {ws : List Int}, (ws.map D.int).all flatD = true
  | [] => rfl
  | w :: ws => by rw [List.map_cons, List.all_cons, flat_ints]; rfl
theorem x_ninI {v : Int} {ws : List Int} (h1 : x.peek ρ = some (.int v)) (h2 : y.peek ρ = some (.lst (ws.map D.int))) (q : Q (.d (.bl (!decide (v ∈ ws)))) ρ) : (opV ninD x y ρ).wp Q X :=
  b_opV (z := .d (.bl (!decide (v ∈ ws)))) h1 h2 (by
    have e : inSeqD true (.int v) (.lst (ws.map D.int)) = some (.d (.bl (!decide (v ∈ ws)))) := by
      unfold inSeqD
      dsimp only
      rw [if_pos ⟨rfl, flat_ints⟩, inS_int]
      rfl
    unfold ninD orOp
    rw [e]) q
theorem x_inI {v : Int} {ws : List Int} (h1 : x.peek ρ = some (.int v)) (h2 : y.peek ρ = some (.lst (ws.map D.int))) (q : Q (.d (.bl (decide (v ∈ ws)))) ρ) : (opV inD x y ρ).wp Q X :=
  b_opV (z := .d (.bl (decide (v ∈ ws)))) h1 h2 (by
    have e : inSeqD false (.int v) (.lst (ws.map D.int)) = some (.d (.bl (decide (v ∈ ws)))) := by
      unfold inSeqD
      dsimp only
      rw [if_pos ⟨rfl, flat_ints⟩, inS_int]
      rfl
    unfold inD orOp
    rw [e]) q
theorem x_ninIT {v : Int} {ws : List Int} (h1 : x.peek ρ = some (.int v)) (h2 : y.peek ρ = some (.tup (ws.map D.int))) (q : Q (.d (.bl (!decide (v ∈ ws)))) ρ) : (opV ninD x y ρ).wp Q X :=
  b_opV (z := .d (.bl (!decide (v ∈ ws)))) h1 h2 (by
    have e : inSeqD true (.int v) (.tup (ws.map D.int)) = some (.d (.bl (!decide (v ∈ ws)))) := by
      unfold inSeqD
      dsimp only
      rw [if_pos ⟨rfl, flat_ints⟩, inS_int]
      rfl
    unfold ninD orOp
    rw [e]) q
theorem x_inIT {v : Int} {ws : List Int} (h1 : x.peek ρ = some (.int v)) (h2 : y.peek ρ = some (.tup (ws.map D.int))) (q : Q (.d (.bl (decide (v ∈ ws)))) ρ) : (opV inD x y ρ).wp Q X :=
  b_opV (z := .d (.bl (decide (v ∈ ws)))) h1 h2 (by
    have e : inSeqD false (.int v) (.tup (ws.map D.int)) = some (.d (.bl (decide (v ∈ ws)))) := by
      unfold inSeqD
      dsimp only
      rw [if_pos ⟨rfl, flat_ints⟩, inS_int]
      rfl
    unfold inD orOp
    rw [e]) q
theorem x_addL {xs ys : List D} (h1 : x.peek ρ = some (.lst xs)) (h2 : y.peek ρ = some (.lst ys)) (hl : xs.length + ys.length ≤ 16777216) (q : Q (.fr (.lst (xs ++ ys))) ρ) : (opV addD x y ρ).wp Q X :=
  b_opV h1 h2 (by
    show (match (if xs.length + ys.length ≤ sizeLine then some (Val.fr (.lst (xs ++ ys))) else none) with | some z => some z | none => addT _ _) = _
    rw [if_pos (show xs.length + ys.length ≤ sizeLine by unfold sizeLine; omega)]) q
theorem x_addT {xs ys : List D} (h1 : x.peek ρ = some (.tup xs)) (h2 : y.peek ρ = some (.tup ys)) (hl : xs.length + ys.length ≤ 16777216) (q : Q (.d (.tup (xs ++ ys))) ρ) : (opV addD x y ρ).wp Q X :=
  b_opV h1 h2 (by
    show (if xs.length + ys.length ≤ sizeLine then some (Val.d (.tup (xs ++ ys))) else none) = _
    rw [if_pos (show xs.length + ys.length ≤ sizeLine by unfold sizeLine; omega)]) q
end
end DL
set_option maxHeartbeats 2000000
/-! DL19: type names, isinstance, set comprehensions of ints, dict comprehensions. -/
namespace DL
open PySem PySem.Spec PyProof.Rows L2
variable [TabT]
section
variable {X : Cx} {W : WX} {pos : Pos}
theorem de_bty {x : Str} {n : String} (hg : Gl X x) (hm : X.mg x = none) (hv : bootBuiltins x = some (.type n)) (hn : x ≠ "__name__" := by decide) (hd : (x == ("__debug__" : Str)) = false := by decide) : DE X W (.Name x pos) (eC (.ty n)) :=
  de_const (t := tC .non) (pe_bltn (v := .ty n) hg hm hv rfl hn hd) fun _ => .ty n
end
/-! ### isinstance -/
def tyN : D → Option String
  | .non => some "NoneType"
  | .bl _ => some "bool"
  | .int _ => some "int"
  | .str _ => some "str"
  | .tup _ => some "tuple"
  | .lst _ => some "list"
  | .dic _ _ => some "dict"
  | _ => none
/-- the answer, for the types that the texts ask for -/
def isB (t n : String) : Option Bool :=
  if n = "int" then some (t == "int" || t == "bool") else if n = "bool" ∨ n = "str" ∨ n = "tuple" ∨ n = "list" ∨ n = "dict" then some (t == n) else none
def isiD : List D → Option Val
  | [a, .ty n] => match tyN a with
    | some t => (isB t n).map fun b => .d (.bl b)
    | none => none
  | _ => none
theorem isB_ok {a : D} {t n : String} {b : Bool} (e : tyN a = some t) (h : isB t n = some b) : kitB t n = some b := by
  have ht : t = "NoneType" ∨ t = "bool" ∨ t = "int" ∨ t = "str" ∨ t = "tuple" ∨ t = "list" ∨ t = "dict" := by
    cases a <;> simp_all [tyN]
  have hn : n = "int" ∨ n = "bool" ∨ n = "str" ∨ n = "tuple" ∨ n = "list" ∨ n = "dict" := by
    unfold isB at h
    split at h
    · rename_i z; exact .inl z
    · split at h
      · rename_i z; exact .inr z
      · cases h
  rcases ht with rfl | rfl | rfl | rfl | rfl | rfl | rfl <;> rcases hn with rfl | rfl | rfl | rfl | rfl | rfl <;> (revert h; revert b; decide +kernel)
theorem tyX_of {K : PySem.W.Frag} {F H : Hp} {v : V} {a : D} {t : String} (s : Same F H) (r : RepT K F H v a) (e : tyN a = some t) : TyX K H v (.type t) := by
  cases a with
  | non => cases e; obtain rfl := r.non; exact .base .non
  | bl b => cases e; obtain rfl := r.bl; exact .base (.bl b)
  | int i => cases e; obtain rfl := r.int; exact .base (.int i)
  | str x => cases e; obtain rfl := r.str; exact .base (.str x)
  | tup ds =>
    cases e
    obtain ⟨p, xs, rfl, q, _⟩ := r.tup s
    rcases q with (q | ⟨o, q⟩) | ⟨o, its, n, q, c, _⟩
    · exact .base (.tup q)
    · exact .fTuple q
    · exact .kTuple q c
  | lst ds => cases e; obtain ⟨p, xs, rfl, q, _⟩ := r.lst; exact .base (.lst q)
  | dic ks ds =>
    cases e
    obtain ⟨p, xs, rfl, q, _⟩ := r.dic
    rcases q with q | ⟨o, q⟩
    · exact .base (.dK q)
    · exact .fDict q
  | _ => cases e
theorem cs_isi {K : PySem.W.Frag} : CallS K (rIsi K) isiD := by
  intro F H vs as z Q s ra e q
  unfold isiD at e
  split at e
  · rename_i a n
    obtain ⟨v, w, rfl, r1, r2⟩ := rep2 ra
    have hw : w = .ty n := by cases (show Rep K F w (.ty n) from r2); rfl
    subst hw
    split at e
    · rename_i t ht
      cases hb : isB t n with
      | none => rw [hb] at e; cases e
      | some b =>
        rw [hb] at e; cases e
        exact ⟨v, .ty n, .type t, .type n, b, rfl, .ty n, tyX_of s r1 ht, kit_ty (isB_ok ht hb), vn_bl s q⟩
    · cases e
  · cases e
/-! ### set comprehensions of ints -/
/-! ### comprehensions, whatever they fill -/
def compA {α : Type} (own : List Nat) (tg : Val → SM) (tt : M Bool) (step : α → M α) : List D → α → M α
  | [], acc, ρ => .ok acc ρ
  | d :: ds, acc, ρ => match tg (.d d) ρ with
    | .nx ρ1 => match tt ρ1 with
      | .ok b ρ2 => if b = true then (match step acc ρ2 with
        | .ok acc' ρ3 => compA own tg tt step ds acc' (wipeD ρ3 own)
        | _ => .bad) else compA own tg tt step ds acc (wipeD ρ2 own)
      | _ => .bad
    | _ => .bad
def eGc {α : Type} (own : List Nat) (f : IM) (tg : Val → SM) (tt : M Bool) (step : α → M α) (a0 : α) : M α := fun ρ => (f ρ).bind fun src ρ1 =>
  if inB own ρ1 = true ∧ src.1.length < 16777216 then
    (match compA own tg tt step src.1 a0 (wipeD (lockS src.2 ρ1) own) with
    | .ok ys ρ2 => .ok ys (unlk src.2 ρ1 (backD (lockS src.2 ρ1) ρ2 own))
    | _ => .bad)
  else .bad
/-! ### dict comprehensions -/
def dcStep (kx vx : EM) (acc : List Key × List D) : M (List Key × List D) := fun ρ => (kx ρ).bind fun y ρ1 => (vx ρ1).bind fun z ρ2 => match y, z with
  | .d y, .d z => match keyD y with
    | some k => if acc.1.any (fun j => decide (j = k)) = true then .ok (acc.1, dSet acc.1 acc.2 k z) ρ2 else .ok (acc.1 ++ [k], acc.2 ++ [z]) ρ2
    | none => .bad
  | _, _ => .bad
def eDc (own : List Nat) (f : IM) (tg : Val → SM) (tt : M Bool) (kx vx : EM) : EM := fun ρ => (eGc own f tg tt (dcStep kx vx) ([], []) ρ).bind fun a ρ' => .ok (.fr (.dic a.1 a.2)) ρ'
/-! ### set comprehensions -/
def scStep (el : EM) (acc : List Int) : M (List Int) := fun ρ => (el ρ).bind fun y ρ1 => match y with
  | .d (.int k) => if acc.length + 1 < 4096 then .ok (acc ++ [k]) ρ1 else .bad
  | _ => .bad
def eSc (own : List Nat) (f : IM) (tg : Val → SM) (tt : M Bool) (el : EM) : M (List Int) := eGc own f tg tt (scStep el) []
/-- sorted({..}), len({..}) -/
def eSortSc (own : List Nat) (f : IM) (tg : Val → SM) (tt : M Bool) (el : EM) : EM := fun ρ => (eSc own f tg tt el ρ).bind fun ns ρ' => .ok (.fr (.lst ((sortSetI ns).map D.int))) ρ'
end DL
set_option maxHeartbeats 2000000
namespace PySem
open Sem (wp)
open AutoSeq1 (wpAny_loadPart')
end PySem
/-! DL20: enumerate, zip, what is walked in a dict. -/
namespace DL
open PySem PySem.Spec PyProof.Rows L2
variable [TabT]
/-! ### the sources -/
def keyToD : Key → D
  | .inl i => .int i
  | .inr x => .str x
section
variable {X : Cx} {W : WX} {tg e e2 : Expr} {f f2 : EM} {es : List Expr} {g : M (List Val)} {p pos : Pos}
def enumL (ds : List D) : List D := ds.zipIdx.map fun p => .tup [.int (p.2 : Nat), p.1]
def iEnu (f : EM) : IM := fun ρ => (f ρ).bind fun x ρ1 => (seqSrc x ρ1).bind fun src ρ2 => .ok (enumL src.1, src.2) ρ2
theorem enumL_len {ds : List D} : (enumL ds).length = ds.length := by unfold enumL; rw [List.length_map, List.length_zipIdx]
/-! ### a dict's keys; whatever is walked -/
def dicSrc (x : Val) (ρ : DEnv) : R Src := (x.fzA ρ).bind fun y ρ1 => match y with
  | .d (.dic ks _) => .ok (ks.map keyToD, none) ρ1
  | _ => .bad
def isDic (ρ : DEnv) (x : Val) : Bool := match x.peek ρ with
  | some (.dic _ _) => true
  | _ => false
def anySrc (x : Val) (ρ : DEnv) : R Src := if isDic ρ x = true then dicSrc x ρ else seqSrc x ρ
def iAny (f : EM) : IM := fun ρ => (f ρ).bind anySrc
end
end DL
set_option maxHeartbeats 2000000
/-! DL21: statements that are not reached; more rules to read by. -/
namespace DL
open PySem PySem.Spec PyProof.Rows L2
variable [TabT]
section
variable {X : Cx} {W : WX}
/-- a statement that must not be reached -/
def sBad : SM := fun _ => .bad
end
theorem CR_isi {X : Cx} : CallR X (.builtin "isinstance") (rIsi X.K) := call_isi
end DL
set_option maxHeartbeats 2000000
/-! DL22: reading dicts, sets, enumerate, slices, chains. -/
namespace DL
open PySem PySem.Spec PyProof.Rows L2
section
variable {ρ ρ' as : DEnv} {i : Nat} {x y : Val} {d a b : D} {c : Cont} {m : Md} {f g h : EM} {t u : M Bool} {l r : OM} {op op' : D → D → Option Val} {Q : Val → DEnv → Prop} {QB : Bool → DEnv → Prop} {QO : Option Int → DEnv → Prop} {QI : Src → DEnv → Prop} {X : Ex → DEnv → Prop} {P : Po}
/-! the slots written out anew behind a call, a comprehension -/
def PB (ρ : DEnv) (G : DEnv → Prop) : Prop := G ρ
theorem b_pb {G : DEnv → Prop} (e : ρ = ρ') (q : G ρ') : PB ρ G := by subst e; exact q
theorem b_callFP {Fm : FM} {xs : List Val} (h1 : argSlots ρ xs = some as) (h2 : lentOnce xs = true) (q : (Fm as).wp (fun x as' => PB (putBack ρ xs as') fun ρ1 => Q x ρ1) (fun x as' => X x (putBack ρ xs as'))) : (callF Fm xs ρ).wp Q X := b_callF h1 h2 q
/-! slices -/
theorem b_sl (q : (f ρ).wp (fun x ρ1 => (l ρ1).wp (fun lo ρ2 => (r ρ2).wp (fun hi ρ3 => (unV (fun d => sliceD d lo hi) x ρ3).wp Q X) X) X) X) : (eSl f l r ρ).wp Q X :=
  b_bind (R.wp_mono q (fun _ _ h => b_bind (R.wp_mono h (fun _ _ h => b_bind h) fun _ _ h => h)) fun _ _ h => h)
theorem b_oNone (q : QO none ρ) : (oNone ρ).wp QO X := q
def oV (x : Val) : OM := fun ρ1 => match x with
  | .d (.int k) => .ok (some k) ρ1
  | _ => .bad
theorem b_oSome (q : (f ρ).wp (fun x ρ1 => (oV x ρ1).wp QO X) X) : (oSome f ρ).wp QO X := b_bind (R.wp_mono q (fun x ρ1 h => by cases x <;> first | exact h | (rename_i d; cases d <;> exact h)) fun _ _ h => h)
theorem b_oV {k : Int} (q : QO (some k) ρ) : (oV (.d (.int k)) ρ).wp QO X := q
/-! is None -/
def isnV (x : Val) : EM := fun ρ1 => match x with
  | .sl _ => .bad
  | x => .ok (.d (.bl (isNonV x))) ρ1
def notnV (x : Val) : EM := fun ρ1 => match x with
  | .sl _ => .bad
  | x => .ok (.d (.bl (!isNonV x))) ρ1
theorem b_isN (q : (f ρ).wp (fun x ρ1 => (isnV x ρ1).wp Q X) X) : (eIsN f ρ).wp Q X := b_bind q
theorem b_notN (q : (f ρ).wp (fun x ρ1 => (notnV x ρ1).wp Q X) X) : (eNotN f ρ).wp Q X := b_bind q
theorem b_isnD (q : Q (.d (.bl (isNonV (.d d)))) ρ) : (isnV (.d d) ρ).wp Q X := q
theorem b_notnD (q : Q (.d (.bl !(isNonV (.d d)))) ρ) : (notnV (.d d) ρ).wp Q X := q
/-! chains -/
theorem b_chain (q : (f ρ).wp (fun x ρ1 => (g ρ1).wp (fun y ρ2 => (opV op x y ρ2).wp (fun z ρ3 => ∃ k, z = .d (.bl k) ∧ (k = true → (h ρ3).wp (fun w ρ4 => (opV op' y w ρ4).wp Q X) X) ∧ (k = false → Q (.d (.bl false)) ρ3)) X) X) X) : (eChain op op' f g h ρ).wp Q X :=
  b_bind (R.wp_mono q (fun x ρ1 h1 => b_bind (R.wp_mono h1 (fun y ρ2 h2 => b_bind (R.wp_mono h2 (fun z ρ3 h3 => by
    obtain ⟨k, rfl, h4, h5⟩ := h3
    cases k
    · exact h5 rfl
    · exact b_bind (h4 rfl)) fun _ _ h => h)) fun _ _ h => h)) fun _ _ h => h)
/-! dicts -/
def ikeys (ks : List Int) : List Key := ks.map Sum.inl
theorem dLook_map {v : Int} {g : Int → D} : ∀ {ks : List Int}, v ∈ ks → dLook (ikeys ks) (ks.map g) (.inl v) = some (g v)
  | [], hv => by simp at hv
  | k :: ks, hv => by
    show dLook (.inl k :: ikeys ks) (g k :: ks.map g) (.inl v) = _
    unfold dLook
    by_cases e : k = v
    · subst e; rw [if_pos rfl]
    · rw [if_neg (fun z => e (Sum.inl.inj z))]
      exact dLook_map (by
        rcases List.mem_cons.mp hv with z | z
        · exact absurd z.symm e
        · exact z)
theorem dLook_no {v : Int} {g : Int → D} : ∀ {ks : List Int}, v ∉ ks → dLook (ikeys ks) (ks.map g) (.inl v) = none
  | [], hv => rfl
  | k :: ks, hv => by
    show dLook (.inl k :: ikeys ks) (g k :: ks.map g) (.inl v) = _
    unfold dLook
    rw [if_neg (fun z => hv (by rw [Sum.inl.inj z]; exact List.mem_cons_self))]
    exact dLook_no fun z => hv (List.mem_cons_of_mem _ z)
theorem x_inD {v : Int} {ks : List Int} {g : Int → D} (h1 : x.peek ρ = some (.int v)) (h2 : y.peek ρ = some (.dic (ikeys ks) (ks.map g))) (q : Q (.d (.bl (decide (v ∈ ks)))) ρ) : (opV inD x y ρ).wp Q X :=
  b_opV (z := .d (.bl (decide (v ∈ ks)))) h1 h2 (by
    show some (Val.d (.bl (dLook (ikeys ks) (ks.map g) (.inl v)).isSome)) = _
    by_cases e : v ∈ ks
    · rw [dLook_map e]; simp [e]
    · rw [dLook_no e]; simp [e]) q
theorem x_ninD {v : Int} {ks : List Int} {g : Int → D} (h1 : x.peek ρ = some (.int v)) (h2 : y.peek ρ = some (.dic (ikeys ks) (ks.map g))) (q : Q (.d (.bl (!decide (v ∈ ks)))) ρ) : (opV ninD x y ρ).wp Q X :=
  b_opV (z := .d (.bl (!decide (v ∈ ks)))) h1 h2 (by
    show some (Val.d (.bl (!(dLook (ikeys ks) (ks.map g) (.inl v)).isSome))) = _
    by_cases e : v ∈ ks
    · rw [dLook_map e]; simp [e]
    · rw [dLook_no e]; simp [e]) q
/-! what is walked -/
theorem b_ienu (q : (f ρ).wp (fun x ρ1 => (seqSrc x ρ1).wp (fun src ρ2 => QI (enumL src.1, src.2) ρ2) X) X) : (iEnu f ρ).wp QI X := b_bind (R.wp_mono q (fun _ _ h => b_bind h) fun _ _ h => h)
theorem b_iany (q : (f ρ).wp (fun x ρ1 => (anySrc x ρ1).wp QI X) X) : (iAny f ρ).wp QI X := b_bind q
theorem b_anyDic {ks : List Key} {vs : List D} (e : x.peek ρ = some (.dic ks vs)) (e2 : x.fzA ρ = .ok (.d (.dic ks vs)) ρ') (q : QI (ks.map keyToD, none) ρ') : (anySrc x ρ).wp QI X := by
  unfold anySrc isDic
  rw [e]
  dsimp only
  rw [if_pos rfl]
  unfold dicSrc
  rw [e2]
  exact q
theorem b_anySeq (e : isDic ρ x = false) (q : (seqSrc x ρ).wp QI X) : (anySrc x ρ).wp QI X := by
  unfold anySrc
  rw [e, if_neg (by decide)]
  exact q
theorem keys_ints {ks : List Int} : (ikeys ks).map keyToD = ks.map D.int := by unfold ikeys; rw [List.map_map]; rfl
theorem b_seqT {ds : List D} (q : QI (ds, none) ρ) : (seqSrc (.d (.tup ds)) ρ).wp QI X := q
theorem b_seqL {ds : List D} (q : QI (ds, none) ρ) : (seqSrc (.d (.lst ds)) ρ).wp QI X := q
theorem b_seqF {ds : List D} (q : QI (ds, none) ρ) : (seqSrc (.fr (.lst ds)) ρ).wp QI X := q
theorem b_seqO {ds : List D} (e : ρ[i]? = some (.ow (.lst ds) m)) (q : QI (ds, some i) ρ) : (seqSrc (.sl i) ρ).wp QI X := by
  unfold seqSrc
  dsimp only
  rw [e]
  exact q
theorem s_gsCons {g : Val → SM} {h : List D → SM} {ds : List D} (q : (g (.d d) ρ).wp { P with nx := fun ρ1 => (h ds ρ1).wp P }) : (gsCons g h (d :: ds) ρ).wp P := by
  show ((g (.d d) ρ).thenS (h ds)).wp P
  cases e : g (.d d) ρ <;> rw [e] at q <;> exact q
theorem s_gsNil (q : P.nx ρ) : (gsNil [] ρ).wp P := q
theorem s_tupG {n : Nat} {h : List D → SM} {ds : List D} (e : x.peek ρ = some (.tup ds)) (hl : ds.length = n) (q : (h ds ρ).wp P) : (tupG n h x ρ).wp P := by
  unfold tupG
  rw [e]
  dsimp only
  rw [if_pos hl]
  exact q
/-! comprehensions, whatever they fill -/
theorem b_gc {α : Type} {own : List Nat} {fi : IM} {tg : Val → SM} {tt : M Bool} {st : α → M α} {a0 : α} {QA : α → DEnv → Prop} (q : (fi ρ).wp (fun src ρ1 => inB own ρ1 = true ∧ src.1.length < 16777216 ∧ (compA own tg tt st src.1 a0 (wipeD (lockS src.2 ρ1) own)).wp (fun ys ρ2 => QA ys (unlk src.2 ρ1 (backD (lockS src.2 ρ1) ρ2 own))) fun _ _ => False) X) : (eGc own fi tg tt st a0 ρ).wp QA X := by
  refine b_bind (R.wp_mono q (fun src ρ1 h => ?_) fun _ _ h => h)
  obtain ⟨h1, h2, h3⟩ := h
  rw [if_pos ⟨h1, h2⟩]
  cases e : compA own tg tt st src.1 a0 (wipeD (lockS src.2 ρ1) own) with
  | ok ys ρ2 => rw [e] at h3; exact h3
  | ex x ρ2 => rw [e] at h3; exact h3.elim
  | bad => rw [e] at h3; exact h3.elim
/-- {int of d for d in ds}, sorted -/
theorem b_sortSc {own : List Nat} {fi : IM} {tg : Val → SM} {tt : M Bool} {el : EM} (q : (fi ρ).wp (fun src ρ1 => inB own ρ1 = true ∧ src.1.length < 16777216 ∧ (compA own tg tt (scStep el) src.1 [] (wipeD (lockS src.2 ρ1) own)).wp (fun ns ρ2 => Q (.fr (.lst ((sortSetI ns).map D.int))) (unlk src.2 ρ1 (backD (lockS src.2 ρ1) ρ2 own))) fun _ _ => False) X) : (eSortSc own fi tg tt el ρ).wp Q X := b_bind (b_gc q)
theorem b_dc {own : List Nat} {fi : IM} {tg : Val → SM} {tt : M Bool} {kx vx : EM} (q : (fi ρ).wp (fun src ρ1 => inB own ρ1 = true ∧ src.1.length < 16777216 ∧ (compA own tg tt (dcStep kx vx) src.1 ([], []) (wipeD (lockS src.2 ρ1) own)).wp (fun a ρ2 => Q (.fr (.dic a.1 a.2)) (unlk src.2 ρ1 (backD (lockS src.2 ρ1) ρ2 own))) fun _ _ => False) X) : (eDc own fi tg tt kx vx ρ).wp Q X := b_bind (b_gc q)
theorem b_dcStep {kx vx : EM} {acc : List Key × List D} {QA : List Key × List D → DEnv → Prop} (q : (kx ρ).wp (fun y ρ1 => ∃ k, y = .d (.int k) ∧ (vx ρ1).wp (fun z ρ2 => ∃ d, z = .d d ∧ QA (if acc.1.any (fun j => decide (j = (Sum.inl k : Key))) = true then (acc.1, dSet acc.1 acc.2 (.inl k) d) else (acc.1 ++ [.inl k], acc.2 ++ [d])) ρ2) X) X) : (dcStep kx vx acc ρ).wp QA X := b_bind (R.wp_mono q (fun y ρ1 h => by
  obtain ⟨k, rfl, h⟩ := h
  refine b_bind (R.wp_mono h (fun z ρ2 h => ?_) fun _ _ h => h)
  obtain ⟨d, rfl, h⟩ := h
  show R.wp (if _ then _ else _) QA X
  split
  · rename_i e; rw [if_pos e] at h; exact h
  · rename_i e; rw [if_neg e] at h; exact h) fun _ _ h => h)
/-- .. over what a typed list stands for -/
theorem comp_map {β : Type} {own : List Nat} {tg : Val → SM} {tt : M Bool} {el : EM} {QD : List D → DEnv → Prop} {XD : Ex → DEnv → Prop} {bs : List β} {dd : β → D} (p : β → Bool) (g : β → D)
    (h : ∀ b ∈ bs, (tg (.d (dd b)) ρ).wp { nx := fun ρ1 => (tt ρ1).wp (fun k ρ2 => k = p b ∧ (k = false → wipeD ρ2 own = ρ) ∧ (k = true → (el ρ2).wp (fun y ρ3 => y = .d (g b) ∧ wipeD ρ3 own = ρ) fun _ _ => False)) fun _ _ => False, rt := fun _ _ => False })
    (q : QD ((bs.filter p).map g) ρ) : (compD own tg tt el (bs.map dd) [] ρ).wp QD XD := by
  refine comp_inv (fun k acc ρ' => ρ' = ρ ∧ acc = ((bs.take k).filter p).map g) (bs.map dd) 0 [] ρ ⟨rfl, rfl⟩ (fun j d acc ρ' hj hI => ?_) fun acc ρ' hI => ?_
  · obtain ⟨rfl, rfl⟩ := hI
    rw [List.getElem?_map] at hj
    obtain ⟨b, hb, rfl⟩ := Option.map_eq_some_iff.mp hj
    have tk : bs.take (0 + j + 1) = bs.take (0 + j) ++ [b] := by rw [Nat.zero_add, List.take_add_one, hb]; rfl
    have h1 := h b (List.mem_of_getElem? hb)
    cases e1 : tg (.d (dd b)) ρ' with
    | nx ρ1 =>
      rw [e1] at h1
      refine R.wp_mono (Q' := _) h1 (fun b ρ2 h2 => ?_) fun _ _ h => h
      obtain ⟨hb, h3, h4⟩ := h2
      refine ⟨fun hf => ⟨h3 hf, ?_⟩, fun ht => R.wp_mono (h4 ht) (fun y ρ3 h5 => ?_) fun _ _ h => h⟩
      · rw [tk, List.filter_append]
        subst hf
        simp [hb.symm]
      · obtain ⟨rfl, e⟩ := h5
        refine ⟨_, rfl, e, ?_⟩
        rw [tk, List.filter_append]
        subst ht
        simp [hb.symm]
    | rt x ρ1 => rw [e1] at h1; exact h1.elim
    | bk ρ1 => rw [e1] at h1; exact h1.elim
    | ct ρ1 => rw [e1] at h1; exact h1.elim
    | ex x ρ1 => rw [e1] at h1; exact h1.elim
    | bad => rw [e1] at h1; exact h1.elim
  · obtain ⟨rfl, rfl⟩ := hI
    rw [Nat.zero_add, List.length_map, List.take_length]
    exact q
theorem bls_map : ∀ (bs : List Bool), blsD (bs.map D.bl) = some bs
  | [] => rfl
  | b :: bs => by
    show (blsD (bs.map D.bl)).map _ = _
    rw [bls_map bs]
    rfl
theorem all_bls {bs : List Bool} : allD [.lst (bs.map D.bl)] = some (.d (.bl (bs.all id))) := by
  show (blsD _).map _ = _
  rw [bls_map]
  rfl
def SelK (idx : List Nat) (xs : List Val) (G : List Val → Prop) : Prop := ∃ zs, selL idx xs = some zs ∧ G zs
theorem b_selK {idx : List Nat} {xs zs : List Val} {G : List Val → Prop} (e : selL idx xs = some zs) (q : G zs) : SelK idx xs G := ⟨zs, e, q⟩
theorem b_callK {idx : List Nat} {Fm : FM} {gl gk : M (List Val)} (q : (gl ρ).wp (fun xs ρ1 => (gk ρ1).wp (fun ys ρ2 => SelK idx (xs ++ ys) fun zs => (callF Fm zs ρ2).wp Q X) X) X) : (eCallK idx Fm gl gk ρ).wp Q X := by
  refine b_bind (R.wp_mono q (fun xs ρ1 h => b_bind (R.wp_mono h (fun ys ρ2 h => ?_) fun _ _ h => h)) fun _ _ h => h)
  obtain ⟨zs, e, h⟩ := h
  rw [e]
  exact h
/-! truth values in the middle of something -/
def BlK (x : Val) (G : Bool → Prop) : Prop := ∃ k, x = .d (.bl k) ∧ G k
theorem b_blK {k : Bool} {G : Bool → Prop} (q : G k) : BlK (.d (.bl k)) G := ⟨k, rfl, q⟩
def DtK (x : Val) (G : D → Prop) : Prop := ∃ d, x = .d d ∧ G d
theorem b_dtK {d : D} {G : D → Prop} (q : G d) : DtK (.d d) G := ⟨d, rfl, q⟩
def IntK (x : Val) (G : Int → Prop) : Prop := ∃ k, x = .d (.int k) ∧ G k
theorem b_intK {k : Int} {G : Int → Prop} (q : G k) : IntK (.d (.int k)) G := ⟨k, rfl, q⟩
/-- the two ways of a test -/
def Way (k : Bool) (A B : Prop) : Prop := (k = true → A) ∧ (k = false → B)
theorem way_t {k : Bool} {A B : Prop} (e : k = true) (q : A) : Way k A B := ⟨fun _ => q, fun h => by rw [e] at h; cases h⟩
theorem way_f {k : Bool} {A B : Prop} (e : k = false) (q : B) : Way k A B := ⟨fun h => (by rw [e] at h; cases h), fun _ => q⟩
theorem b_eAndK (q : (f ρ).wp (fun x ρ1 => BlK x fun k => Way k ((g ρ1).wp Q X) (Q (.d (.bl false)) ρ1)) X) : (eAnd f g ρ).wp Q X := b_eAnd (R.wp_mono q (fun _ _ ⟨k, e, h⟩ => ⟨k, e, h.1, h.2⟩) fun _ _ h => h)
theorem b_eOrK (q : (f ρ).wp (fun x ρ1 => BlK x fun k => Way k (Q (.d (.bl true)) ρ1) ((g ρ1).wp Q X)) X) : (eOr f g ρ).wp Q X := b_eOr (R.wp_mono q (fun _ _ ⟨k, e, h⟩ => ⟨k, e, h.1, h.2⟩) fun _ _ h => h)
theorem b_eNotK (q : (f ρ).wp (fun x ρ1 => BlK x fun k => Q (.d (.bl !k)) ρ1) X) : (eNot f ρ).wp Q X := b_eNot q
theorem b_chainK (q : (f ρ).wp (fun x ρ1 => (g ρ1).wp (fun y ρ2 => (opV op x y ρ2).wp (fun z ρ3 => BlK z fun k => Way k ((h ρ3).wp (fun w ρ4 => (opV op' y w ρ4).wp Q X) X) (Q (.d (.bl false)) ρ3)) X) X) X) : (eChain op op' f g h ρ).wp Q X := by
  refine b_chain (R.wp_mono q (fun x ρ1 h1 => R.wp_mono h1 (fun y ρ2 h2 => R.wp_mono h2 (fun z ρ3 h3 => ?_) fun _ _ h => h) fun _ _ h => h) fun _ _ h => h)
  obtain ⟨k, e, h4⟩ := h3
  exact ⟨k, e, h4.1, h4.2⟩
theorem b_andW (q : (t ρ).wp (fun k ρ1 => Way k ((u ρ1).wp QB X) (QB false ρ1)) X) : (tAndM t u ρ).wp QB X := b_and q
theorem b_orW (q : (t ρ).wp (fun k ρ1 => Way k (QB true ρ1) ((u ρ1).wp QB X)) X) : (tOrM t u ρ).wp QB X := b_or q
theorem b_eIfW (q : (t ρ).wp (fun k ρ1 => Way k ((f ρ1).wp Q X) ((g ρ1).wp Q X)) X) : (eIf t f g ρ).wp Q X := b_eIf q
theorem s_ifW {s1 s2 : SM} (q : (t ρ).wp (fun k ρ1 => Way k ((s1 ρ1).wp P) ((s2 ρ1).wp P)) P.ex) : (sIf t s1 s2 ρ).wp P := s_if q
theorem b_dcStepK {kx vx : EM} {acc : List Key × List D} {QA : List Key × List D → DEnv → Prop} (q : (kx ρ).wp (fun y ρ1 => IntK y fun k => (vx ρ1).wp (fun z ρ2 => DtK z fun d => QA (if acc.1.any (fun j => decide (j = (Sum.inl k : Key))) = true then (acc.1, dSet acc.1 acc.2 (.inl k) d) else (acc.1 ++ [.inl k], acc.2 ++ [d])) ρ2) X) X) : (dcStep kx vx acc ρ).wp QA X := b_dcStep q
/-- what is walked by a comprehension: the slots are there, not too many items -/
def CompK (own : List Nat) (ρ : DEnv) (n : Nat) (G : Prop) : Prop := inB own ρ = true ∧ n < 16777216 ∧ G
theorem b_compK {own : List Nat} {n : Nat} {G : Prop} (h1 : inB own ρ = true) (h2 : n < 16777216) (q : G) : CompK own ρ n G := ⟨h1, h2, q⟩
theorem b_lcK {own : List Nat} {fi : IM} {tg : Val → SM} {tt : M Bool} {el : EM} (q : (fi ρ).wp (fun src ρ1 => CompK own ρ1 src.1.length ((compD own tg tt el src.1 [] (wipeD (lockS src.2 ρ1) own)).wp (fun ys ρ2 => PB (unlk src.2 ρ1 (backD (lockS src.2 ρ1) ρ2 own)) fun ρ3 => Q (.fr (.lst ys)) ρ3) fun _ _ => False)) X) : (eLc own fi tg tt el ρ).wp Q X := b_lc q
theorem b_sortScK {own : List Nat} {fi : IM} {tg : Val → SM} {tt : M Bool} {el : EM} (q : (fi ρ).wp (fun src ρ1 => CompK own ρ1 src.1.length ((compA own tg tt (scStep el) src.1 [] (wipeD (lockS src.2 ρ1) own)).wp (fun ns ρ2 => PB (unlk src.2 ρ1 (backD (lockS src.2 ρ1) ρ2 own)) fun ρ3 => Q (.fr (.lst ((sortSetI ns).map D.int))) ρ3) fun _ _ => False)) X) : (eSortSc own fi tg tt el ρ).wp Q X := b_sortSc q
theorem b_dcK {own : List Nat} {fi : IM} {tg : Val → SM} {tt : M Bool} {kx vx : EM} (q : (fi ρ).wp (fun src ρ1 => CompK own ρ1 src.1.length ((compA own tg tt (dcStep kx vx) src.1 ([], []) (wipeD (lockS src.2 ρ1) own)).wp (fun a ρ2 => PB (unlk src.2 ρ1 (backD (lockS src.2 ρ1) ρ2 own)) fun ρ3 => Q (.fr (.dic a.1 a.2)) ρ3) fun _ _ => False)) X) : (eDc own fi tg tt kx vx ρ).wp Q X := b_dc q
theorem x_lrg {i j : Int} (h1 : x.peek ρ = some (.int i)) (h2 : y.peek ρ = some (.int j)) (h : rgIn i j = true) (q : Q (.fr (.lst (rgL i j))) ρ) : (opV lrgD x y ρ).wp Q X :=
  b_opV h1 h2 (by unfold lrgD; exact if_pos h) q
end
end DL
set_option maxHeartbeats 2000000
/-! DL23: a dict comprehension put under a name; tests for None. -/
namespace DL
open PySem PySem.Spec PyProof.Rows L2
end DL
set_option maxHeartbeats 2000000
/-! DL24: repr of single values, an empty dict. -/
namespace DL
open PySem PySem.Spec PyProof.Rows L2
variable [TabT]
def reprX : List D → Option Val
  | [.bl b] => some (.d (.str (if b then "True" else "False")))
  | [.non] => some (.d (.str "None"))
  | [.str x] => if (reprText x).length ≤ sizeLine then some (.d (.str (reprText x))) else none
  | xs => reprD xs
def rReprX (K : PySem.W.Frag) : List V → Hp → VK → Prop := fun xs H Q => (∃ b, xs = [.bl b] ∧ Q (.str (if b then "True" else "False")) H) ∨ (xs = [.non] ∧ Q (.str "None") H) ∨ (∃ x, xs = [.str x] ∧ (reprText x).length ≤ sizeLine ∧ Q (.str (reprText x)) H) ∨
  (rReprD K xs H Q ∨ ∃ i, xs = [.int i] ∧ i.natAbs.log2 < 1920 ∧ Q (.str (toString i)) H)
theorem CR_reprX {X : Cx} (hG : X.A.guards = some []) (hu : X.A.units + 64 < cLine) : CallR X (.builtin "repr") (rReprX X.K) := by
  intro pins s σ H xs us Q I r h
  rcases h with ⟨b, rfl, q⟩ | ⟨rfl, q⟩ | ⟨x, rfl, hx, q⟩ | h
  · obtain ⟨u, rfl, ru⟩ := vals1 r
    cases (show u = Value.bool b from ru)
    exact PySem.P.repr_of_bool ⟨.str _, H, I.tok _, ⟨_, rfl⟩, q⟩
  · obtain ⟨u, rfl, ru⟩ := vals1 r
    cases (show u = Value.none from ru)
    exact PySem.P.repr_of_none ⟨.str _, H, I.tok _, ⟨_, rfl⟩, q⟩
  · obtain ⟨u, rfl, ru⟩ := vals1 r
    obtain ⟨t, rfl⟩ := (show ∃ t, u = Value.str x t from ru)
    exact PySem.P.repr_of_str ⟨.str _, H, I.tok _, ⟨_, rfl⟩, q⟩ hx
  · exact CR_repr hG hu pins s σ H xs us Q I r h
theorem cs_reprX {K : PySem.W.Frag} : CallS K (rReprX K) reprX := by
  intro F H vs as z Q s ra e q
  unfold reprX at e
  split at e
  · cases e
    obtain ⟨v, rfl, r⟩ := rep1 ra
    obtain rfl := r.bl
    exact .inl ⟨_, rfl, vn_str s q⟩
  · cases e
    obtain ⟨v, rfl, r⟩ := rep1 ra
    obtain rfl := r.non
    exact .inr (.inl ⟨rfl, vn_str s q⟩)
  · split at e
    · rename_i hx
      cases e
      obtain ⟨v, rfl, r⟩ := rep1 ra
      obtain rfl := r.str
      exact .inr (.inr (.inl ⟨_, rfl, hx, vn_str s q⟩))
    · cases e
  · exact .inr (.inr (.inr (cs_repr F H vs _ z Q s ra e q)))
section
variable {X : Cx} {W : WX} {pos : Pos}
def eNewD : EM := fun ρ => .ok (.fr (.dic [] [])) ρ
theorem b_newD {ρ : DEnv} {Q : Val → DEnv → Prop} {Xx : Ex → DEnv → Prop} (q : Q (.fr (.dic [] [])) ρ) : (eNewD ρ).wp Q Xx := q
end
end DL
set_option maxHeartbeats 1000000
/-! DL25: if and for within a generator's body; yield from a list. -/
namespace L2
open PySem PySem.Spec PyProof.Rows GenW
end L2
set_option maxHeartbeats 1000000
/-! DL26: yield from a list. -/
namespace L2
open PySem PySem.Spec PyProof.Rows GenW
end L2
set_option maxHeartbeats 1000000
/-! DL27: generators' bodies, read by functions of the slots and of what is out. -/
namespace DL
open PySem PySem.Spec PyProof.Rows L2
variable [TabT]
inductive GRS where
  | nx (ds : List D) (ρ : DEnv) | rt (ds : List D) (x : Val) (ρ : DEnv) | bk (ds : List D) (ρ : DEnv) | ct (ds : List D) (ρ : DEnv) | ex (x : Ex) (ρ : DEnv) | bad
abbrev GM := List D → DEnv → GRS
def R.bindG {α : Type} (r : R α) (g : α → DEnv → GRS) : GRS := match r with
  | .ok a ρ => g a ρ
  | .ex x ρ => .ex x ρ
  | .bad => .bad
def OutG (K : PySem.W.Frag) (mg : Str → Option Value) (W : WX) (σ : L2.St) (ρ : DEnv) (F H : Hp) (r : GRS) (D : GEnds) : Prop :=
  match r with
  | .nx ds ρ' => ∀ ys σ' F' H', SR K F' H' σ' ρ' → Ev σ ρ F H σ' ρ' F' H' → RepL K F' ys ds → D.nx ys σ' H'
  | .bk ds ρ' => ∀ ys σ' F' H', SR K F' H' σ' ρ' → Ev σ ρ F H σ' ρ' F' H' → RepL K F' ys ds → D.bk ys σ' H'
  | .ct ds ρ' => ∀ ys σ' F' H', SR K F' H' σ' ρ' → Ev σ ρ F H σ' ρ' F' H' → RepL K F' ys ds → D.ct ys σ' H'
  | .rt ds x ρ' => ∀ ys v σ' F' H', SR K F' H' σ' ρ' → Ev σ ρ F H σ' ρ' F' H' → RepL K F' ys ds → VR K σ' H F' H' ρ' v x → D.rt ys v H'
  | .ex x ρ' => ∀ cls dd σ' F' H', SR K F' H' σ' ρ' → Ev σ ρ F H σ' ρ' F' H' → XR K mg F' x cls dd → W cls dd σ' H'
  | .bad => False
section
variable {K : PySem.W.Frag} {mg : Str → Option Value} {W : WX} {σ σ1 : L2.St} {ρ ρ1 : DEnv} {F H F1 H1 : Hp}
theorem OutG.from {r : GRS} {D : GEnds} (h : OutG K mg W σ ρ F H r D) (ev : Ev σ ρ F H σ1 ρ1 F1 H1) : OutG K mg W σ1 ρ1 F1 H1 r D := by
  cases r with
  | nx ds ρ' => exact fun ys σ' F' H' s e => h ys σ' F' H' s (ev.trans e)
  | bk ds ρ' => exact fun ys σ' F' H' s e => h ys σ' F' H' s (ev.trans e)
  | ct ds ρ' => exact fun ys σ' F' H' s e => h ys σ' F' H' s (ev.trans e)
  | rt ds x ρ' => exact fun ys v σ' F' H' s e y r => h ys v σ' F' H' s (ev.trans e) y (r.base ev.dom)
  | ex x ρ' => exact fun c d σ' F' H' s e r => h c d σ' F' H' s (ev.trans e) r
  | bad => exact h
theorem Out.bindG {α β : Type} {rel : RelT β α} {r : R α} {g : α → DEnv → GRS} {D : GEnds} (h : OutG K mg W σ ρ F H (r.bindG g) D) :
    Out K mg (fun c d H => W c d σ H) rel σ ρ F H r (fun v H1 => ∃ x F1 ρ1, r = .ok x ρ1 ∧ SR K F1 H1 σ ρ1 ∧ Ev σ ρ F H σ ρ1 F1 H1 ∧ rel H F1 H1 ρ1 v x ∧ OutG K mg W σ ρ F H (g x ρ1) D) := by
  cases r with
  | ok x ρ' => exact fun v F' H' s e r => ⟨x, F', ρ', rfl, s, e, r, h⟩
  | ex x ρ' => exact fun c d F' H' s e r => h c d σ F' H' s e r
  | bad => exact h
end
section
variable {X : Cx} {W : WX} {e c : Expr} {f : EM} {t : M Bool} {st : Stmt} {sts sts' : List Stmt} {g h : GM} {pos yp : Pos}
/-- a statement that hands out nothing -/
def gPl (g : SM) : GM := fun ds ρ => match g ρ with
  | .nx ρ' => .nx ds ρ'
  | .rt x ρ' => .rt ds x ρ'
  | .bk ρ' => .bk ds ρ'
  | .ct ρ' => .ct ds ρ'
  | .ex x ρ' => .ex x ρ'
  | .bad => .bad
def gSkip : GM := .nx
def gSeq (g h : GM) : GM := fun ds ρ => match g ds ρ with
  | .nx ds' ρ' => h ds' ρ'
  | r => r
def gIf (t : M Bool) (g h : GM) : GM := fun ds ρ => (t ρ).bindG fun b ρ1 => if b = true then g ds ρ1 else h ds ρ1
def gYield (f : EM) : GM := fun ds ρ => if ds.length < 16777216 then (fz f ρ).bindG fun x ρ1 => match x with
  | .d d => .nx (ds ++ [d]) ρ1
  | _ => .bad else .bad
/-- yield from a list that is new -/
def gFromL (f : EM) : GM := fun ds ρ => (f ρ).bindG fun x ρ1 => match x with
  | .fr (.lst es) => if ds.length + es.length ≤ 16777216 then .nx (ds ++ es) ρ1 else .bad
  | _ => .bad
/-! ### for -/
def unlkG (lk : Option Nat) (ρ0 : DEnv) : GRS → GRS
  | .nx ds ρ => .nx ds (unlk lk ρ0 ρ)
  | .bk ds ρ => .bk ds (unlk lk ρ0 ρ)
  | .ct ds ρ => .ct ds (unlk lk ρ0 ρ)
  | .rt _ _ _ => .bad
  | .ex x ρ => .ex x (unlk lk ρ0 ρ)
  | .bad => .bad
theorem OutG.lock {K : PySem.W.Frag} {mg : Str → Option Value} {σ : L2.St} {ρ : DEnv} {F H : Hp} {lk : Option Nat} {r : GRS} {D : GEnds} (sr : SR K F H σ ρ) (h : OutG K mg W σ ρ F H (unlkG lk ρ r) D) : OutG K mg W σ (lockS lk ρ) F H r D := by
  cases r with
  | nx ds ρ' => exact fun ys σ' F' H' s e => let ⟨s2, e2⟩ := unlk_ok sr s e; h ys σ' F' H' s2 e2
  | bk ds ρ' => exact fun ys σ' F' H' s e => let ⟨s2, e2⟩ := unlk_ok sr s e; h ys σ' F' H' s2 e2
  | ct ds ρ' => exact fun ys σ' F' H' s e => let ⟨s2, e2⟩ := unlk_ok sr s e; h ys σ' F' H' s2 e2
  | ex x ρ' => exact fun c d σ' F' H' s e r => let ⟨s2, e2⟩ := unlk_ok sr s e; h c d σ' F' H' s2 e2 r
  | bad => exact h
  | rt ds x ρ' => exact h.elim
def loopG (tg : Val → SM) (body : GM) : List D → GM
  | [], ys, ρ => .nx ys ρ
  | d :: ds, ys, ρ => match tg (.d d) ρ with
    | .nx ρ1 => match body ys ρ1 with
      | .nx ys2 ρ2 => loopG tg body ds ys2 ρ2
      | .ct ys2 ρ2 => loopG tg body ds ys2 ρ2
      | .bk ys2 ρ2 => .nx ys2 ρ2
      | r => r
    | _ => .bad
def gFor (f : IM) (tg : Val → SM) (body : GM) : GM := fun ys ρ => (f ρ).bindG fun src ρ1 => unlkG src.2 ρ1 (loopG tg body src.1 ys (lockS src.2 ρ1))
end
end DL
set_option maxHeartbeats 1000000
/-! DL28: generator defs, and list(g(..)). -/
namespace DL
open PySem PySem.Spec PyProof.Rows L2
variable [TabT]
def OutL (K : PySem.W.Frag) (σ : L2.St) (as : DEnv) (F H : Hp) (r : RF) (Q : List V → Hp → Prop) : Prop := match r with
  | .ret (.fr (.lst ds)) as' => ∀ ys F' H', SR K F' H' σ as' → Ev σ as F H σ as' F' H' → RepL K F' ys ds → Q ys H'
  | _ => False
def spL (K : PySem.W.Frag) (n : Nat) (Fm : FM) : SpG := fun vs H Q _ => ∃ F as, SR K F H (vs.map some) as ∧ as.length = n ∧ OutL K (vs.map some) as F H (Fm as) Q
structure GenFn (P : Program) (w : World) (K : PySem.W.Frag) (mg : Str → Option Value) (base : Heap) (k : Nat) (f : Addr) (fd : FuncData) (ps : List Str) (Fm : FM) : Prop where
  fn : L2.GFn P w K mg base k f fd ps (spL K ps.length Fm)
  lst : ∀ as, (∃ ds as', Fm as = .ret (.fr (.lst ds)) as') ∨ Fm as = .bad
theorem GenFn.mono {P : Program} {w : World} {K : PySem.W.Frag} {mg : Str → Option Value} {base : Heap} {j k : Nat} {f : Addr} {fd : FuncData} {ps : List Str} {Fm : FM} (G : GenFn P w K mg base j f fd ps Fm) (h : j ≤ k) : GenFn P w K mg base k f fd ps Fm := by
  refine ⟨⟨G.fn.len, fun A outer s H args us vs Q E hr e0 hb r hsp => codeAny_mono (G.fn.run A outer s H args us vs Q E (hr.mono h) e0 hb r hsp) fun r s' hq => ?_⟩, G.lst⟩
  cases r with
  | error e => exact hq
  | ok fl =>
    cases fl with
    | next => exact hq
    | brk => exact hq
    | cont => exact hq
    | ret u =>
      obtain ⟨a, g, c, h1, h2, h3, h4, h5, h6, h7, h8, h9, hS⟩ := hq
      exact ⟨a, g, c, h1, h2, h3, h4, h5, h6, h7, h8, h9, fun A S s2 hr => hS A S s2 (hr.mono h)⟩
end DL
set_option maxHeartbeats 1000000
/-! DL29: d.get(k, x), d.get(k). -/
namespace DL
open PySem PySem.Spec PyProof.Rows L2
variable [TabT]
def isDicB (x : Option D) : Bool := match x with
  | some (.dic _ _) => true
  | _ => false
def getV (x y z : Val) : EM := fun ρ => match x.peek ρ, y.peek ρ, z with
  | some (.dic ks vs), some k, .d d => match keyD k with
    | some j => .ok (.d ((dLook ks vs j).getD d)) ρ
    | none => .bad
  | _, _, _ => .bad
def eGet2 (f g h : EM) : EM := fun ρ => (f ρ).bind fun x ρ1 => if isDicB (x.peek ρ1) = true then (g ρ1).bind fun y ρ2 => (fz h ρ2).bind fun z ρ3 => getV x y z ρ3 else .bad
end DL
set_option maxHeartbeats 1000000
/-! DL30: dict(pairs). -/
namespace DL
open PySem PySem.Spec PyProof.Rows L2
variable [TabT]
def stepP (acc : List Key × List D) (kd : Key × D) : List Key × List D := match dPut acc.1 acc.2 kd.1 kd.2 with
  | .dic ks ds => (ks, ds)
  | .lst _ => acc
def mergeD (acc : List Key × List D) (kds : List (Key × D)) : List Key × List D := kds.foldl stepP acc
end DL
set_option maxHeartbeats 1000000
/-! DL31: xs[a::k] of a list. -/
namespace L2
open PySem PySem.Spec PyProof.Rows
def stepIx (lo st : Option Int) (n : Nat) : List Nat := sliceRange (sliceBounds lo none st n).1 (sliceBounds lo none st n).2.1 (sliceBounds lo none st n).2.2
def stepL {α : Type} (xs : List α) (lo st : Option Int) : List α := (stepIx lo st xs.length).filterMap (xs[·]?)
end L2
namespace DL
open PySem PySem.Spec PyProof.Rows L2
variable [TabT]
theorem RepL.step {K : PySem.W.Frag} {F : Hp} {vs : List V} {ds : List D} (r : RepL K F vs ds) (lo st : Option Int) : RepL K F (stepL vs lo st) (stepL ds lo st) := by
  unfold stepL
  rw [r.length]
  generalize stepIx lo st ds.length = ix
  induction ix with
  | nil => exact .nil
  | cons i ix ih =>
    rw [List.filterMap_cons, List.filterMap_cons]
    cases h : ds[i]? with
    | none =>
      have : vs[i]? = none := by
        have := List.getElem?_eq_none_iff.mp h
        exact List.getElem?_eq_none_iff.mpr (by rw [r.length]; exact this)
      rw [this]; exact ih
    | some d =>
      obtain ⟨v, hv, rv⟩ := r.get h
      rw [hv]; exact .cons rv ih
end DL
set_option maxHeartbeats 1000000
/-! DL32: zip of two lists or two tuples. -/
namespace DL
open PySem PySem.Spec PyProof.Rows L2 RZ
variable [TabT]
def zipL (ds es : List D) : List D := (ds.zip es).map fun p => .tup [p.1, p.2]
def zpSrc (xs : List Val) : M Src := fun ρ => match xs with
  | [.d (.lst ds), .d (.lst es)] => .ok (zipL ds es, none) ρ
  | [.d (.tup ds), .d (.tup es)] => .ok (zipL ds es, none) ρ
  | _ => .bad
def iZp (f g : EM) : IM := fun ρ => ((aCons (fz f) (aCons (fz g) aNil)) ρ).bind zpSrc
end DL
set_option maxHeartbeats 1000000
/-! DL33: list(g(k=..)) of a generator def. -/
namespace DL
open PySem PySem.Spec PyProof.Rows L2
end DL
set_option maxHeartbeats 1000000
/-! DL34: is, is not between booleans. -/
namespace DL
open PySem PySem.Spec PyProof.Rows L2
variable [TabT]
def isBD : D → D → Option Val
  | .bl a, .bl b => some (.d (.bl (decide (a = b))))
  | _, _ => none
def isnotBD : D → D → Option Val
  | .bl a, .bl b => some (.d (.bl (!decide (a = b))))
  | _, _ => none
end DL
set_option maxHeartbeats 1000000
/-! DL35: {k: v, ..} of written keys and values. -/
namespace DL
open PySem PySem.Spec PyProof.Rows L2
variable [TabT]
def eDispC (kds : List (Key × D)) : EM := fun ρ => .ok (.fr (.dic (mergeD ([], []) kds).1 (mergeD ([], []) kds).2)) ρ
/-- keys and values, as they stand in the text -/
inductive KVC : List (Key × V) → List (Key × D) → Prop
  | nil : KVC [] []
  | int {k : Key} {i : Int} {a : List (Key × V)} {b : List (Key × D)} : KVC a b → KVC ((k, .int i) :: a) ((k, .int i) :: b)
  | str {k : Key} {i : Str} {a : List (Key × V)} {b : List (Key × D)} : KVC a b → KVC ((k, .str i) :: a) ((k, .str i) :: b)
theorem KVC.rep {K : PySem.W.Frag} {F : Hp} : ∀ {a : List (Key × V)} {b : List (Key × D)}, KVC a b → Paired (fun (a : Key × V) (b : Key × D) => a.1 = b.1 ∧ Rep K F a.2 b.2) a b
  | _, _, .nil => .nil
  | _, _, .int h => .cons ⟨rfl, .int _⟩ h.rep
  | _, _, .str h => .cons ⟨rfl, .str _⟩ h.rep
end DL
set_option maxHeartbeats 1000000
/-! DL36: range with a step. -/
namespace DL
open PySem PySem.Spec PyProof.Rows L2
end DL
set_option maxHeartbeats 1000000
/-! DL37: T.get(k, x), T a dict of the module with text keys and int values. -/
namespace L2
open PySem PySem.Spec PyProof.Rows
def tabGet (ks : List (Str × Int)) (z : Str) : Option Int := (ks.find? fun k => k.1 == z).map (·.2)
end L2
namespace DL
open PySem PySem.Spec PyProof.Rows L2
variable [TabT]
def tabD (ks : List (Str × Int)) (s : Str) (d : D) : D := match tabGet ks s with
  | some i => .int i
  | none => d
def getKV (ks : List (Str × Int)) (y z : Val) : EM := fun ρ => match y.peek ρ, z with
  | some (.str s), .d d => .ok (.d (tabD ks s d)) ρ
  | _, _ => .bad
def eGetK (ks : List (Str × Int)) (g h : EM) : EM := fun ρ => (g ρ).bind fun y ρ1 => (fz h ρ1).bind fun z ρ2 => getKV ks y z ρ2
end DL
set_option maxHeartbeats 1000000
/-! DL38: reading rules for generators' bodies and for DL29..DL37. -/
namespace DL
open PySem PySem.Spec PyProof.Rows L2
structure PoG where
  nx : List D → DEnv → Prop
  bk : List D → DEnv → Prop := fun _ _ => False
  ct : List D → DEnv → Prop := fun _ _ => False
def GRS.wp (r : GRS) (P : PoG) : Prop := match r with
  | .nx ds ρ => P.nx ds ρ
  | .bk ds ρ => P.bk ds ρ
  | .ct ds ρ => P.ct ds ρ
  | _ => False
def NoX : Ex → DEnv → Prop := fun _ _ => False
section
variable {P : PoG} {ρ ρ1 : DEnv} {ds : List D} {g h : GM} {f : EM} {t : M Bool} {α : Type}
theorem g_bind {r : R α} {k : α → DEnv → GRS} (q : r.wp (fun a ρ => (k a ρ).wp P) NoX) : (r.bindG k).wp P := by
  cases r with
  | ok a ρ => exact q
  | ex x ρ => exact q.elim
  | bad => exact q.elim
theorem g_seq (q : (g ds ρ).wp { P with nx := fun ds1 ρ1 => (h ds1 ρ1).wp P }) : (gSeq g h ds ρ).wp P := by
  unfold gSeq
  cases e : g ds ρ with
  | nx ds1 ρ1 => rw [e] at q; exact q
  | bk ds1 ρ1 => rw [e] at q; exact q
  | ct ds1 ρ1 => rw [e] at q; exact q
  | rt ds1 x ρ1 => rw [e] at q; exact q.elim
  | ex x ρ1 => rw [e] at q; exact q.elim
  | bad => rw [e] at q; exact q.elim
theorem g_skip (q : P.nx ds ρ) : (gSkip ds ρ).wp P := q
theorem g_pl {s : SM} (q : (s ρ).wp { nx := fun ρ1 => P.nx ds ρ1, rt := fun _ _ => False, bk := fun ρ1 => P.bk ds ρ1, ct := fun ρ1 => P.ct ds ρ1 }) : (gPl s ds ρ).wp P := by
  unfold gPl
  cases e : s ρ with
  | nx ρ1 => rw [e] at q; exact q
  | bk ρ1 => rw [e] at q; exact q
  | ct ρ1 => rw [e] at q; exact q
  | rt x ρ1 => rw [e] at q; exact q.elim
  | ex x ρ1 => rw [e] at q; exact q.elim
  | bad => rw [e] at q; exact q.elim
theorem g_if (q : (t ρ).wp (fun k ρ1 => Way k ((g ds ρ1).wp P) ((h ds ρ1).wp P)) NoX) : (gIf t g h ds ρ).wp P := g_bind (R.wp_mono q (fun k ρ1 w => by
  cases k with
  | true => exact w.1 rfl
  | false => exact w.2 rfl) fun _ _ z => z)
theorem g_yield (hl : ds.length < 16777216) (q : (fz f ρ).wp (fun x ρ1 => DtK x fun d => P.nx (ds ++ [d]) ρ1) NoX) : (gYield f ds ρ).wp P := by
  unfold gYield
  rw [if_pos hl]
  exact g_bind (R.wp_mono q (fun x ρ1 ⟨d, e, z⟩ => by subst e; exact z) fun _ _ z => z)
theorem g_fromL (q : (f ρ).wp (fun x ρ1 => ∃ es, x = .fr (.lst es) ∧ ds.length + es.length ≤ 16777216 ∧ P.nx (ds ++ es) ρ1) NoX) : (gFromL f ds ρ).wp P :=
  g_bind (R.wp_mono q (fun x ρ1 ⟨es, e, hl, z⟩ => by subst e; dsimp only; rw [if_pos hl]; exact z) fun _ _ z => z)
theorem g_for {fi : IM} {tg : Val → SM} {body : GM} (q : (fi ρ).wp (fun src ρ1 => (unlkG src.2 ρ1 (loopG tg body src.1 ds (lockS src.2 ρ1))).wp P) NoX) : (gFor fi tg body ds ρ).wp P := g_bind q
end
section
variable {ρ : DEnv} {x y z : Val} {d : D} {f g h : EM} {Q : Val → DEnv → Prop} {QI : Src → DEnv → Prop} {X : Ex → DEnv → Prop}
theorem b_get2 (q : (f ρ).wp (fun x ρ1 => isDicB (x.peek ρ1) = true ∧ (g ρ1).wp (fun y ρ2 => (fz h ρ2).wp (fun z ρ3 => (getV x y z ρ3).wp Q X) X) X) X) : (eGet2 f g h ρ).wp Q X :=
  b_bind (R.wp_mono q (fun x ρ1 ⟨e, k⟩ => by rw [if_pos e]; exact b_bind (R.wp_mono k (fun _ _ k => b_bind k) fun _ _ z => z)) fun _ _ z => z)
theorem x_getV {v : Int} {ks : List Int} {r : Int → D} (h1 : x.peek ρ = some (.dic (ikeys ks) (ks.map r))) (h2 : y.peek ρ = some (.int v)) (q : Q (.d (if v ∈ ks then r v else d)) ρ) : (getV x y (.d d) ρ).wp Q X := by
  unfold getV
  rw [h1, h2]
  show (R.ok (Val.d ((dLook (ikeys ks) (ks.map r) (.inl v)).getD d)) ρ).wp Q X
  by_cases e : v ∈ ks
  · rw [dLook_map e]; rw [if_pos e] at q; exact q
  · rw [dLook_no e]; rw [if_neg e] at q; exact q
theorem b_getK {ks : List (Str × Int)} (q : (g ρ).wp (fun y ρ2 => (fz h ρ2).wp (fun z ρ3 => (getKV ks y z ρ3).wp Q X) X) X) : (eGetK ks g h ρ).wp Q X := b_bind (R.wp_mono q (fun _ _ k => b_bind k) fun _ _ z => z)
theorem b_dispC {kds : List (Key × D)} (q : Q (.fr (.dic (mergeD ([], []) kds).1 (mergeD ([], []) kds).2)) ρ) : (eDispC kds ρ).wp Q X := q
theorem b_zp (q : ((aCons (fz f) (aCons (fz g) aNil)) ρ).wp (fun xs ρ1 => (zpSrc xs ρ1).wp QI X) X) : (iZp f g ρ).wp QI X := b_bind q
theorem b_zpL {ds es : List D} (q : QI (zipL ds es, none) ρ) : (zpSrc [.d (.lst ds), .d (.lst es)] ρ).wp QI X := q
theorem b_zpT {ds es : List D} (q : QI (zipL ds es, none) ρ) : (zpSrc [.d (.tup ds), .d (.tup es)] ρ).wp QI X := q
end
end DL
set_option maxHeartbeats 1000000
/-! DL39: reading without a split; literal loops; loops over typed lists. -/
namespace DL
open PySem PySem.Spec PyProof.Rows L2
section
variable {ρ ρ' : DEnv} {i : Nat} {x y : Val} {d : D} {f g h : EM} {t u : M Bool} {op op' : D → D → Option Val} {Q : Val → DEnv → Prop} {QB : Bool → DEnv → Prop} {QI : Src → DEnv → Prop} {X : Ex → DEnv → Prop} {P : Po}
def AndV (Q : Val → DEnv → Prop) (k : Bool) (ρ1 : DEnv) : Val → DEnv → Prop := fun y ρ2 => BlK y fun k2 => ρ2 = ρ1 ∧ Q (.d (.bl (k && k2))) ρ1
def OrV (Q : Val → DEnv → Prop) (k : Bool) (ρ1 : DEnv) : Val → DEnv → Prop := fun y ρ2 => BlK y fun k2 => ρ2 = ρ1 ∧ Q (.d (.bl (k || k2))) ρ1
theorem b_andV {k k2 : Bool} (q : Q (.d (.bl (k && k2))) ρ) : AndV Q k ρ (.d (.bl k2)) ρ := ⟨k2, rfl, rfl, q⟩
theorem b_orV {k k2 : Bool} (q : Q (.d (.bl (k || k2))) ρ) : OrV Q k ρ (.d (.bl k2)) ρ := ⟨k2, rfl, rfl, q⟩
theorem b_eAnd2 (q : (f ρ).wp (fun x ρ1 => BlK x fun k => (g ρ1).wp (AndV Q k ρ1) fun _ _ => False) X) : (eAnd f g ρ).wp Q X := by
  refine b_eAnd (R.wp_mono q (fun x ρ1 h => ?_) fun _ _ h => h)
  obtain ⟨k, rfl, h⟩ := h
  refine ⟨k, rfl, fun hk => ?_, fun hk => ?_⟩
  · subst hk
    refine R.wp_mono h (fun y ρ2 h2 => ?_) fun _ _ z => z.elim
    obtain ⟨k2, rfl, rfl, h3⟩ := h2
    exact h3
  · subst hk
    cases e : g ρ1 with
    | ok y ρ2 =>
      rw [e] at h
      obtain ⟨k2, rfl, rfl, h3⟩ := h
      exact h3
    | ex y ρ2 => rw [e] at h; exact h.elim
    | bad => rw [e] at h; exact h.elim
theorem b_eOr2 (q : (f ρ).wp (fun x ρ1 => BlK x fun k => (g ρ1).wp (OrV Q k ρ1) fun _ _ => False) X) : (eOr f g ρ).wp Q X := by
  refine b_eOr (R.wp_mono q (fun x ρ1 h => ?_) fun _ _ h => h)
  obtain ⟨k, rfl, h⟩ := h
  refine ⟨k, rfl, fun hk => ?_, fun hk => ?_⟩
  · subst hk
    cases e : g ρ1 with
    | ok y ρ2 =>
      rw [e] at h
      obtain ⟨k2, rfl, rfl, h3⟩ := h
      exact h3
    | ex y ρ2 => rw [e] at h; exact h.elim
    | bad => rw [e] at h; exact h.elim
  · subst hk
    refine R.wp_mono h (fun y ρ2 h2 => ?_) fun _ _ z => z.elim
    obtain ⟨k2, rfl, rfl, h3⟩ := h2
    exact h3
theorem b_chain2 (q : (f ρ).wp (fun x ρ1 => (g ρ1).wp (fun y ρ2 => (opV op x y ρ2).wp (fun z ρ3 => BlK z fun k => (h ρ3).wp (fun w ρ4 => (opV op' y w ρ4).wp (AndV Q k ρ3) fun _ _ => False) fun _ _ => False) X) X) X) : (eChain op op' f g h ρ).wp Q X := by
  refine b_chain (R.wp_mono q (fun x ρ1 h1 => R.wp_mono h1 (fun y ρ2 h2 => R.wp_mono h2 (fun z ρ3 h3 => ?_) fun _ _ h => h) fun _ _ h => h) fun _ _ h => h)
  obtain ⟨k, rfl, h4⟩ := h3
  refine ⟨k, rfl, fun hk => ?_, fun hk => ?_⟩
  · subst hk
    refine R.wp_mono h4 (fun w ρ4 h5 => R.wp_mono h5 (fun v ρ5 h6 => ?_) fun _ _ z => z.elim) fun _ _ z => z.elim
    obtain ⟨k2, rfl, rfl, h7⟩ := h6
    exact h7
  · subst hk
    cases e : h ρ3 with
    | ok w ρ4 =>
      rw [e] at h4
      have h4 : (opV op' y w ρ4).wp _ _ := h4
      cases e2 : opV op' y w ρ4 with
      | ok v ρ5 =>
        rw [e2] at h4
        obtain ⟨k2, rfl, rfl, h7⟩ := h4
        exact h7
      | ex y ρ2 => rw [e2] at h4; exact h4.elim
      | bad => rw [e2] at h4; exact h4.elim
    | ex y ρ2 => rw [e] at h4; exact h4.elim
    | bad => rw [e] at h4; exact h4.elim
/-- loops over a written list -/
theorem loop_nil {tg : Val → SM} {body : SM} (q : P.nx ρ) : (loopD tg body [] ρ).wp P := q
theorem loop_cons {tg : Val → SM} {body : SM} {ds : List D} (q : (tg (.d d) ρ).wp { nx := fun ρ1 => (body ρ1).wp { P with nx := fun ρ2 => (loopD tg body ds ρ2).wp P, ct := fun ρ2 => (loopD tg body ds ρ2).wp P, bk := P.nx }, rt := fun _ _ => False }) : (loopD tg body (d :: ds) ρ).wp P := by
  unfold loopD
  cases e1 : tg (.d d) ρ with
  | nx ρ1 =>
    rw [e1] at q
    have q : (body ρ1).wp _ := q
    dsimp only
    cases e2 : body ρ1 <;> rw [e2] at q <;> first | exact q | exact q.elim
  | rt x ρ1 => rw [e1] at q; exact q.elim
  | bk ρ1 => rw [e1] at q; exact q.elim
  | ct ρ1 => rw [e1] at q; exact q.elim
  | ex x ρ1 => rw [e1] at q; exact q.elim
  | bad => rw [e1] at q; exact q.elim
/-- comprehensions over a written list -/
theorem comp_nil {own : List Nat} {tg : Val → SM} {tt : M Bool} {el : EM} {acc : List D} {QD : List D → DEnv → Prop} {XD : Ex → DEnv → Prop} (q : QD acc ρ) : (compD own tg tt el [] acc ρ).wp QD XD := q
theorem comp_cons {own : List Nat} {tg : Val → SM} {tt : M Bool} {el : EM} {acc ds : List D} {QD : List D → DEnv → Prop} {XD : Ex → DEnv → Prop}
    (q : (tg (.d d) ρ).wp { nx := fun ρ1 => (tt ρ1).wp (fun b ρ2 => Way b ((el ρ2).wp (fun y ρ3 => DtK y fun yd => PB (wipeD ρ3 own) fun ρ4 => (compD own tg tt el ds (acc ++ [yd]) ρ4).wp QD XD) fun _ _ => False) (PB (wipeD ρ2 own) fun ρ4 => (compD own tg tt el ds acc ρ4).wp QD XD)) fun _ _ => False, rt := fun _ _ => False }) : (compD own tg tt el (d :: ds) acc ρ).wp QD XD := by
  unfold compD
  cases e1 : tg (.d d) ρ with
  | nx ρ1 =>
    rw [e1] at q
    have q : (tt ρ1).wp _ _ := q
    dsimp only
    cases e2 : tt ρ1 with
    | ok b ρ2 =>
      rw [e2] at q
      have q : Way b _ _ := q
      dsimp only
      cases b with
      | false => rw [if_neg (by decide)]; exact q.2 rfl
      | true =>
        rw [if_pos rfl]
        have h2 := q.1 rfl
        cases e3 : el ρ2 with
        | ok y ρ3 =>
          rw [e3] at h2
          obtain ⟨yd, rfl, h3⟩ := h2
          exact h3
        | ex x ρ3 => rw [e3] at h2; exact h2.elim
        | bad => rw [e3] at h2; exact h2.elim
    | ex x ρ2 => rw [e2] at q; exact q.elim
    | bad => rw [e2] at q; exact q.elim
  | rt x ρ1 => rw [e1] at q; exact q.elim
  | bk ρ1 => rw [e1] at q; exact q.elim
  | ct ρ1 => rw [e1] at q; exact q.elim
  | ex x ρ1 => rw [e1] at q; exact q.elim
  | bad => rw [e1] at q; exact q.elim
theorem compN {own : List Nat} {tg : Val → SM} {tt : M Bool} {el : EM} {acc ds : List D} {QD : List D → DEnv → Prop} {XD : Ex → DEnv → Prop} (e : ρ = ρ') (q : (compD own tg tt el ds acc ρ').wp QD XD) : (compD own tg tt el ds acc ρ).wp QD XD := by subst e; exact q
theorem loopN {tg : Val → SM} {body : SM} {ds : List D} (e : ρ = ρ') (q : (loopD tg body ds ρ').wp P) : (loopD tg body ds ρ).wp P := by subst e; exact q
/-- what one item of a comprehension gives -/
structure ItK (k0 : Bool) (g0 : D) (own : List Nat) (ρ : DEnv) (el : EM) (k : Bool) (ρ2 : DEnv) : Prop where
  t : k = k0
  w : k = false → wipeD ρ2 own = ρ
  e : k = true → (el ρ2).wp (fun y ρ3 => y = .d g0 ∧ wipeD ρ3 own = ρ) fun _ _ => False
theorem b_itK {k : Bool} {g0 : D} {own : List Nat} {ρ ρ2 : DEnv} {el : EM} (hw : wipeD ρ2 own = ρ) (q : k = true → (el ρ2).wp (fun y ρ3 => y = .d g0 ∧ wipeD ρ3 own = ρ) fun _ _ => False) : ItK k g0 own ρ el k ρ2 := ⟨rfl, fun _ => hw, q⟩
theorem comp_mapK {β : Type} {own : List Nat} {tg : Val → SM} {tt : M Bool} {el : EM} {QD : List D → DEnv → Prop} {XD : Ex → DEnv → Prop} {bs : List β} {dd : β → D} {p : β → Bool} {g : β → D}
    (h : ∀ b ∈ bs, (tg (.d (dd b)) ρ).wp { nx := fun ρ1 => (tt ρ1).wp (ItK (p b) (g b) own ρ el) fun _ _ => False, rt := fun _ _ => False })
    (q : QD ((bs.filter p).map g) ρ) : (compD own tg tt el (bs.map dd) [] ρ).wp QD XD := by
  refine comp_map p g (fun b hb => ?_) q
  have h1 := h b hb
  cases e : tg (.d (dd b)) ρ with
  | nx ρ1 =>
    rw [e] at h1
    exact R.wp_mono (Q' := _) h1 (fun k ρ2 h2 => ⟨h2.t, h2.w, h2.e⟩) fun _ _ z => z
  | rt x ρ1 => rw [e] at h1; exact h1.elim
  | bk ρ1 => rw [e] at h1; exact h1.elim
  | ct ρ1 => rw [e] at h1; exact h1.elim
  | ex x ρ1 => rw [e] at h1; exact h1.elim
  | bad => rw [e] at h1; exact h1.elim
/-- without a test -/
theorem comp_all {β : Type} {own : List Nat} {tg : Val → SM} {el : EM} {QD : List D → DEnv → Prop} {XD : Ex → DEnv → Prop} {bs : List β} {dd : β → D} {g : β → D}
    (h : ∀ b ∈ bs, (tg (.d (dd b)) ρ).wp { nx := fun ρ1 => (el ρ1).wp (fun y ρ3 => y = .d (g b) ∧ wipeD ρ3 own = ρ) fun _ _ => False, rt := fun _ _ => False })
    (q : QD (bs.map g) ρ) : (compD own tg tYesD el (bs.map dd) [] ρ).wp QD XD := by
  refine comp_inv (fun k acc ρ' => ρ' = ρ ∧ acc = (bs.take k).map g) (bs.map dd) 0 [] ρ ⟨rfl, rfl⟩ (fun j d acc ρ' hj hI => ?_) fun acc ρ' hI => ?_
  · obtain ⟨rfl, rfl⟩ := hI
    rw [List.getElem?_map] at hj
    obtain ⟨b, hb, rfl⟩ := Option.map_eq_some_iff.mp hj
    have tk : bs.take (0 + j + 1) = bs.take (0 + j) ++ [b] := by rw [Nat.zero_add, List.take_add_one, hb]; rfl
    have h1 := h b (List.mem_of_getElem? hb)
    cases e1 : tg (.d (dd b)) ρ' with
    | nx ρ1 =>
      rw [e1] at h1
      refine ⟨fun z => (by cases z), fun _ => R.wp_mono (Q' := _) h1 (fun y ρ2 h2 => ?_) fun _ _ h => h⟩
      obtain ⟨rfl, e⟩ := h2
      exact ⟨_, rfl, e, by rw [tk, List.map_append]; rfl⟩
    | rt x ρ1 => rw [e1] at h1; exact h1.elim
    | bk ρ1 => rw [e1] at h1; exact h1.elim
    | ct ρ1 => rw [e1] at h1; exact h1.elim
    | ex x ρ1 => rw [e1] at h1; exact h1.elim
    | bad => rw [e1] at h1; exact h1.elim
  · obtain ⟨rfl, rfl⟩ := hI
    rw [Nat.zero_add, List.length_map, List.take_length]
    exact q
theorem b_itV {d : D} {own : List Nat} {ρ3 : DEnv} (hw : wipeD ρ3 own = ρ) : (Val.d d = .d d ∧ wipeD ρ3 own = ρ) := ⟨rfl, hw⟩
/-- what one item of a dict comprehension gives -/
structure DiK (k0 : Bool) (i0 : Int) (g0 : D) (own : List Nat) (ρ : DEnv) (kx vx : EM) (k : Bool) (ρ2 : DEnv) : Prop where
  t : k = k0
  w : k = false → wipeD ρ2 own = ρ
  e : k = true → (kx ρ2).wp (fun x ρ3 => x = .d (.int i0) ∧ (vx ρ3).wp (fun y ρ4 => y = .d g0 ∧ wipeD ρ4 own = ρ) fun _ _ => False) fun _ _ => False
theorem b_diK {k : Bool} {i0 : Int} {g0 : D} {own : List Nat} {ρ ρ2 : DEnv} {kx vx : EM} (hw : wipeD ρ2 own = ρ) (q : k = true → (kx ρ2).wp (fun x ρ3 => x = .d (.int i0) ∧ (vx ρ3).wp (fun y ρ4 => y = .d g0 ∧ wipeD ρ4 own = ρ) fun _ _ => False) fun _ _ => False) : DiK k i0 g0 own ρ kx vx k ρ2 := ⟨rfl, fun _ => hw, q⟩
theorem b_diV {i0 : Int} {G : Prop} (q : G) : (Val.d (.int i0) = .d (.int i0) ∧ G) := ⟨rfl, q⟩
end
end DL
set_option maxHeartbeats 1000000
/-! DL40: more rules of reading. -/
namespace DL
open PySem PySem.Spec PyProof.Rows L2
section
variable {ρ ρ' : DEnv} {i : Nat} {x y : Val} {d : D} {f g h : EM} {t u : M Bool} {op op' : D → D → Option Val} {Q : Val → DEnv → Prop} {QB : Bool → DEnv → Prop} {QI : Src → DEnv → Prop} {X : Ex → DEnv → Prop} {P : Po}
def IsDK (x : Val) (ρ1 : DEnv) (G : Prop) : Prop := isDicB (x.peek ρ1) = true ∧ G
theorem b_isDK {G : Prop} (e : isDicB (x.peek ρ) = true) (q : G) : IsDK x ρ G := ⟨e, q⟩
theorem b_get2K (q : (f ρ).wp (fun x ρ1 => IsDK x ρ1 ((g ρ1).wp (fun y ρ2 => (fz h ρ2).wp (fun z ρ3 => (getV x y z ρ3).wp Q X) X) X)) X) : (eGet2 f g h ρ).wp Q X := b_get2 q
def SameK (ρ1 ρ2 : DEnv) (G : Prop) : Prop := ρ2 = ρ1 ∧ G
theorem b_same {G : Prop} (q : G) : SameK ρ ρ G := ⟨rfl, q⟩
theorem s_tupGL {n : Nat} {h : List D → SM} {ds : List D} (e : x.peek ρ = some (.lst ds)) (hl : ds.length = n) (q : (h ds ρ).wp P) : (tupG n h x ρ).wp P := by
  unfold tupG
  rw [e]
  dsimp only
  rw [if_pos hl]
  exact q
def FrLK (x : Val) (n : Nat) (G : List D → Prop) : Prop := ∃ es, x = .fr (.lst es) ∧ n + es.length ≤ 16777216 ∧ G es
theorem g_fromLK {P : PoG} {ds : List D} (q : (f ρ).wp (fun x ρ1 => FrLK x ds.length fun es => P.nx (ds ++ es) ρ1) NoX) : (gFromL f ds ρ).wp P := g_fromL q
theorem compD_app {own : List Nat} {tg : Val → SM} {tt : M Bool} {el : EM} : ∀ (ds acc : List D) (ρ : DEnv), compD own tg tt el ds acc ρ = (match compD own tg tt el ds [] ρ with | .ok ys ρ' => .ok (acc ++ ys) ρ' | .ex x ρ' => .ex x ρ' | .bad => .bad)
  | [], acc, ρ => by
    show R.ok acc ρ = R.ok (acc ++ []) ρ
    rw [List.append_nil]
  | d :: ds, acc, ρ => by
    simp only [compD]
    cases tg (.d d) ρ with
    | nx ρ1 =>
      dsimp only
      cases tt ρ1 with
      | ok b ρ2 =>
        dsimp only
        cases b with
        | false => rw [if_neg (by decide), if_neg (by decide)]; exact compD_app ds acc _
        | true =>
          rw [if_pos rfl, if_pos rfl]
          cases el ρ2 with
          | ok y ρ3 =>
            cases y with
            | d yd =>
              dsimp only
              rw [compD_app ds (acc ++ [yd]), compD_app ds ([] ++ [yd])]
              cases compD own tg tt el ds [] (wipeD ρ3 own) <;> simp
            | fr c => rfl
            | sl i => rfl
          | ex x ρ3 => rfl
          | bad => rfl
      | ex x ρ2 => rfl
      | bad => rfl
    | rt x ρ1 => rfl
    | bk ρ1 => rfl
    | ct ρ1 => rfl
    | ex x ρ1 => rfl
    | bad => rfl
theorem comp_cons0 {own : List Nat} {tg : Val → SM} {tt : M Bool} {el : EM} {ds : List D} {QD : List D → DEnv → Prop} {XD : Ex → DEnv → Prop}
    (q : (tg (.d d) ρ).wp { nx := fun ρ1 => (tt ρ1).wp (fun b ρ2 => Way b ((el ρ2).wp (fun y ρ3 => DtK y fun yd => PB (wipeD ρ3 own) fun ρ4 => (compD own tg tt el ds [] ρ4).wp (fun ys ρ5 => QD (yd :: ys) ρ5) XD) fun _ _ => False) (PB (wipeD ρ2 own) fun ρ4 => (compD own tg tt el ds [] ρ4).wp QD XD)) fun _ _ => False, rt := fun _ _ => False }) : (compD own tg tt el (d :: ds) [] ρ).wp QD XD := by
  refine comp_cons ?_
  cases e1 : tg (.d d) ρ with
  | nx ρ1 =>
    rw [e1] at q
    have q : (tt ρ1).wp _ _ := q
    refine R.wp_mono (Q' := _) q (fun b ρ2 w => ⟨fun hb => R.wp_mono (w.1 hb) (fun y ρ3 ⟨yd, e, h⟩ => ⟨yd, e, ?_⟩) fun _ _ z => z, w.2⟩) fun _ _ z => z
    have h : (compD own tg tt el ds [] (wipeD ρ3 own)).wp (fun ys ρ5 => QD (yd :: ys) ρ5) XD := h
    show (compD own tg tt el ds ([] ++ [yd]) (wipeD ρ3 own)).wp QD XD
    rw [compD_app]
    cases e : compD own tg tt el ds [] (wipeD ρ3 own) with
    | ok ys ρ' => rw [e] at h; exact h
    | ex x ρ' => rw [e] at h; exact h
    | bad => rw [e] at h; exact h
  | rt x ρ1 => rw [e1] at q; exact q.elim
  | bk ρ1 => rw [e1] at q; exact q.elim
  | ct ρ1 => rw [e1] at q; exact q.elim
  | ex x ρ1 => rw [e1] at q; exact q.elim
  | bad => rw [e1] at q; exact q.elim
theorem b_mkT1 {a0 : D} (q : Q (.d (.tup [a0])) ρ) : (mkTup [.d a0] ρ).wp Q X := b_mkTup rfl (Nat.le_of_ble_eq_true rfl) q
theorem b_mkL1 {a0 : D} (q : Q (.fr (.lst [a0])) ρ) : (mkLst [.d a0] ρ).wp Q X := b_mkLst rfl (Nat.le_of_ble_eq_true rfl) q
theorem b_mkT2 {a0 a1 : D} (q : Q (.d (.tup [a0, a1])) ρ) : (mkTup [.d a0, .d a1] ρ).wp Q X := b_mkTup rfl (Nat.le_of_ble_eq_true rfl) q
theorem b_mkL2 {a0 a1 : D} (q : Q (.fr (.lst [a0, a1])) ρ) : (mkLst [.d a0, .d a1] ρ).wp Q X := b_mkLst rfl (Nat.le_of_ble_eq_true rfl) q
theorem b_mkT3 {a0 a1 a2 : D} (q : Q (.d (.tup [a0, a1, a2])) ρ) : (mkTup [.d a0, .d a1, .d a2] ρ).wp Q X := b_mkTup rfl (Nat.le_of_ble_eq_true rfl) q
theorem b_mkL3 {a0 a1 a2 : D} (q : Q (.fr (.lst [a0, a1, a2])) ρ) : (mkLst [.d a0, .d a1, .d a2] ρ).wp Q X := b_mkLst rfl (Nat.le_of_ble_eq_true rfl) q
theorem b_mkT4 {a0 a1 a2 a3 : D} (q : Q (.d (.tup [a0, a1, a2, a3])) ρ) : (mkTup [.d a0, .d a1, .d a2, .d a3] ρ).wp Q X := b_mkTup rfl (Nat.le_of_ble_eq_true rfl) q
theorem b_mkL4 {a0 a1 a2 a3 : D} (q : Q (.fr (.lst [a0, a1, a2, a3])) ρ) : (mkLst [.d a0, .d a1, .d a2, .d a3] ρ).wp Q X := b_mkLst rfl (Nat.le_of_ble_eq_true rfl) q
theorem b_mkT5 {a0 a1 a2 a3 a4 : D} (q : Q (.d (.tup [a0, a1, a2, a3, a4])) ρ) : (mkTup [.d a0, .d a1, .d a2, .d a3, .d a4] ρ).wp Q X := b_mkTup rfl (Nat.le_of_ble_eq_true rfl) q
theorem b_mkL5 {a0 a1 a2 a3 a4 : D} (q : Q (.fr (.lst [a0, a1, a2, a3, a4])) ρ) : (mkLst [.d a0, .d a1, .d a2, .d a3, .d a4] ρ).wp Q X := b_mkLst rfl (Nat.le_of_ble_eq_true rfl) q
theorem b_mkT6 {a0 a1 a2 a3 a4 a5 : D} (q : Q (.d (.tup [a0, a1, a2, a3, a4, a5])) ρ) : (mkTup [.d a0, .d a1, .d a2, .d a3, .d a4, .d a5] ρ).wp Q X := b_mkTup rfl (Nat.le_of_ble_eq_true rfl) q
theorem b_mkL6 {a0 a1 a2 a3 a4 a5 : D} (q : Q (.fr (.lst [a0, a1, a2, a3, a4, a5])) ρ) : (mkLst [.d a0, .d a1, .d a2, .d a3, .d a4, .d a5] ρ).wp Q X := b_mkLst rfl (Nat.le_of_ble_eq_true rfl) q
/-! the words of what follows, kept short -/
@[reducible] def Po.wnx (P : Po) (n : DEnv → Prop) : Po := { P with nx := n }
@[reducible] def Po.wlp (P : Po) (n : DEnv → Prop) : Po := { P with nx := n, ct := n, bk := P.nx }
@[reducible] def Po.tgt (n : DEnv → Prop) : Po := { nx := n, rt := fun _ _ => False }
@[reducible] def Po.fn (Q : Val → DEnv → Prop) (X : Ex → DEnv → Prop) (as : DEnv) : Po := { nx := fun ρ => (DL.finish (.d .non) as ρ).wp Q X, rt := fun x ρ => (DL.finish x as ρ).wp Q X, ex := fun x ρ => X x (argsBack as ρ) }
@[reducible] def PoG.wnx (P : PoG) (n : List D → DEnv → Prop) : PoG := { P with nx := n }
@[reducible] def PoG.pl (P : PoG) (ds : List D) : Po := { nx := fun ρ1 => P.nx ds ρ1, rt := fun _ _ => False, bk := fun ρ1 => P.bk ds ρ1, ct := fun ρ1 => P.ct ds ρ1 }
theorem s_seqNW {s1 s2 : SM} (e : ρ = ρ') (q : (s1 ρ').wp (P.wnx fun ρ1 => (s2 ρ1).wp P)) : (sSeq s1 s2 ρ).wp P := s_seqN e q
theorem s_gsConsW {g : Val → SM} {h : List D → SM} {ds : List D} (q : (g (.d d) ρ).wp (P.wnx fun ρ1 => (h ds ρ1).wp P)) : (gsCons g h (d :: ds) ρ).wp P := s_gsCons q
theorem loop_consW {tg : Val → SM} {body : SM} {ds : List D} (q : (tg (.d d) ρ).wp (Po.tgt fun ρ1 => (body ρ1).wp (P.wlp fun ρ2 => (loopD tg body ds ρ2).wp P))) : (loopD tg body (d :: ds) ρ).wp P := loop_cons q
theorem f_fnW {np nl : Nat} {body : SM} {as : DEnv} (hl : as.length = np) (q : (body (as ++ List.replicate nl .un)).wp (Po.fn Q X as)) : (fnD np nl body as).wp Q X := f_fn hl q
theorem g_seqW {P : PoG} {g h : GM} {ds : List D} (q : (g ds ρ).wp (P.wnx fun ds1 ρ1 => (h ds1 ρ1).wp P)) : (gSeq g h ds ρ).wp P := g_seq q
theorem g_plW {P : PoG} {ds : List D} {s : SM} (q : (s ρ).wp (P.pl ds)) : (gPl s ds ρ).wp P := g_pl q
end
end DL
/-! DL41: the rules of reading with one premise, as instances. -/
namespace DL
open PySem PySem.Spec PyProof.Rows L2
class St (g : Prop) (n : outParam Prop) : Prop where
  ap : n → g
section
variable {α β : Type} {ρ ρ' ρ1 as : DEnv} {i : Nat} {x y z : Val} {d a b : D} {c : Cont} {m : Md} {f g h : EM} {t u : M Bool} {l r : OM} {op op' : D → D → Option Val} {Q : Val → DEnv → Prop} {QB : Bool → DEnv → Prop} {QL : List Val → DEnv → Prop} {QO : Option Int → DEnv → Prop} {QI : Src → DEnv → Prop} {X : Ex → DEnv → Prop} {P : Po} {s : SM} {gl : M (List Val)}
instance st_b_op  : St ((eOp op f g ρ).wp Q X) ((f ρ).wp (fun x ρ1 => (g ρ1).wp (fun y ρ2 => (opV op x y ρ2).wp Q X) X) X) := ⟨b_op⟩
instance st_b_cb {op : List D → Option Val} : St ((eCallB op gl ρ).wp Q X) ((gl ρ).wp (fun x ρ1 => (callV op x ρ1).wp Q X) X) := ⟨b_cb⟩
instance st_b_un {op : D → Option Val} : St ((eUn op f ρ).wp Q X) ((f ρ).wp (fun x ρ1 => (unV op x ρ1).wp Q X) X) := ⟨b_un⟩
instance st_b_call {Fm : FM} : St ((eCall Fm gl ρ).wp Q X) ((gl ρ).wp (fun x ρ1 => (callF Fm x ρ1).wp Q X) X) := ⟨b_call⟩
instance st_b_cons  : St ((aCons f gl ρ).wp QL X) ((f ρ).wp (fun x ρ1 => (gl ρ1).wp (fun xs ρ2 => QL (x :: xs) ρ2) X) X) := ⟨b_cons⟩
instance st_b_nil  : St ((aNil ρ).wp QL X) (QL [] ρ) := ⟨b_nil⟩
instance st_b_C  : St ((eC d ρ).wp Q X) (Q (.d d) ρ) := ⟨b_C⟩
instance st_b_tup  : St ((eTup gl ρ).wp Q X) ((gl ρ).wp (fun x ρ1 => (mkTup x ρ1).wp Q X) X) := ⟨b_tup⟩
instance st_b_lst  : St ((eLst gl ρ).wp Q X) ((gl ρ).wp (fun x ρ1 => (mkLst x ρ1).wp Q X) X) := ⟨b_lst⟩
instance st_b_fz  : St ((DL.fz f ρ).wp Q X) ((f ρ).wp (fun x ρ1 => (x.fzA ρ1).wp Q X) X) := ⟨b_fz⟩
instance st_b_nsl  : St ((DL.nsl f ρ).wp Q X) ((f ρ).wp (fun x ρ1 => (nslV x ρ1).wp Q X) X) := ⟨b_nsl⟩
instance st_b_nslD  : St ((nslV (.d d) ρ).wp Q X) (Q (.d d) ρ) := ⟨b_nslD⟩
instance st_b_nslF  : St ((nslV (.fr c) ρ).wp Q X) (Q (.fr c) ρ) := ⟨b_nslF⟩
instance st_b_nslS  : St ((nslV (.sl i) ρ).wp Q X) (((Val.sl i).fz ρ).wp Q X) := ⟨b_nslS⟩
instance st_b_tst  : St ((tst f ρ).wp QB X) ((f ρ).wp (fun x ρ1 => (bT x ρ1).wp QB X) X) := ⟨b_tst⟩
instance st_b_bT {k : Bool} : St ((bT (.d (.bl k)) ρ).wp QB X) (QB k ρ) := ⟨b_bT⟩
instance st_b_not  : St ((tNotM t ρ).wp QB X) ((t ρ).wp (fun k ρ1 => QB (!k) ρ1) X) := ⟨b_not⟩
instance st_b_rng {QI : Src → DEnv → Prop} : St ((iRng gl ρ).wp QI X) ((gl ρ).wp (fun xs ρ1 => (rngV xs ρ1).wp QI X) X) := ⟨b_rng⟩
instance st_b_iseq {QI : Src → DEnv → Prop} : St ((iSeq f ρ).wp QI X) ((f ρ).wp (fun x ρ1 => (seqSrc x ρ1).wp QI X) X) := ⟨b_iseq⟩
instance st_b_yes  : St ((tYesD ρ).wp QB X) (QB true ρ) := ⟨b_yes⟩
instance st_s_skip  : St ((sSkip ρ).wp P) (P.nx ρ) := ⟨s_skip⟩
instance st_s_drop  : St ((sDrop f ρ).wp P) ((f ρ).wp (fun _ ρ1 => P.nx ρ1) P.ex) := ⟨s_drop⟩
instance st_s_ret  : St ((sRet f ρ).wp P) ((f ρ).wp (fun x ρ1 => P.rt x ρ1) P.ex) := ⟨s_ret⟩
instance st_s_retN  : St ((sRetN ρ).wp P) (P.rt (.d .non) ρ) := ⟨s_retN⟩
instance st_s_break  : St ((sBreak ρ).wp P) (P.bk ρ) := ⟨s_break⟩
instance st_s_cont  : St ((sCont ρ).wp P) (P.ct ρ) := ⟨s_cont⟩
instance st_s_asg  : St ((sAsg i f ρ).wp P) ((f ρ).wp (fun x ρ1 => (asgV i x ρ1).wp P) P.ex) := ⟨s_asg⟩
instance st_s_par {is : List Nat} : St ((sPar is gl ρ).wp P) ((gl ρ).wp (fun xs ρ1 => (asgs is xs ρ1).wp P) P.ex) := ⟨s_par⟩
instance st_s_tgt {G : Val → SM} : St ((sTgt f G ρ).wp P) ((f ρ).wp (fun x ρ1 => (G x ρ1).wp P) P.ex) := ⟨s_tgt⟩
instance st_s_for {fi : IM} {tg : Val → SM} {body : SM} : St ((sFor fi tg body ρ).wp P) ((fi ρ).wp (fun src ρ1 => (unlkS src.2 ρ1 (loopD tg body src.1 (lockS src.2 ρ1))).wp P) P.ex) := ⟨s_for⟩
instance st_s_loop {tg : Val → SM} {body : SM} {ds : List D} : St ((unlkS none ρ' (loopD tg body ds ρ)).wp P) ((loopD tg body ds ρ).wp P) := ⟨s_loop⟩
instance st_s_store {k : EM} : St ((sStore i k f ρ).wp P) ((f ρ).wp (StoreK i k P) P.ex) := ⟨s_store⟩
instance st_s_asgsN  : St ((asgs [] [] ρ).wp P) (P.nx ρ) := ⟨s_asgsN⟩
instance st_f_d  : St ((finish (.d d) as ρ).wp Q X) (Q (.d d) (argsBack as ρ)) := ⟨f_d⟩
instance st_f_fr  : St ((finish (.fr c) as ρ).wp Q X) (Q (.fr c) (argsBack as ρ)) := ⟨f_fr⟩
instance st_b_sl  : St ((eSl f l r ρ).wp Q X) ((f ρ).wp (fun x ρ1 => (l ρ1).wp (fun lo ρ2 => (r ρ2).wp (fun hi ρ3 => (unV (fun d => sliceD d lo hi) x ρ3).wp Q X) X) X) X) := ⟨b_sl⟩
instance st_b_oNone  : St ((oNone ρ).wp QO X) (QO none ρ) := ⟨b_oNone⟩
instance st_b_oSome  : St ((oSome f ρ).wp QO X) ((f ρ).wp (fun x ρ1 => (oV x ρ1).wp QO X) X) := ⟨b_oSome⟩
instance st_b_oV {k : Int} : St ((oV (.d (.int k)) ρ).wp QO X) (QO (some k) ρ) := ⟨b_oV⟩
instance st_b_isN  : St ((eIsN f ρ).wp Q X) ((f ρ).wp (fun x ρ1 => (isnV x ρ1).wp Q X) X) := ⟨b_isN⟩
instance st_b_notN  : St ((eNotN f ρ).wp Q X) ((f ρ).wp (fun x ρ1 => (notnV x ρ1).wp Q X) X) := ⟨b_notN⟩
instance st_b_isnD  : St ((isnV (.d d) ρ).wp Q X) (Q (.d (.bl (isNonV (.d d)))) ρ) := ⟨b_isnD⟩
instance st_b_notnD  : St ((notnV (.d d) ρ).wp Q X) (Q (.d (.bl !(isNonV (.d d)))) ρ) := ⟨b_notnD⟩
instance st_b_ienu  : St ((iEnu f ρ).wp QI X) ((f ρ).wp (fun x ρ1 => (seqSrc x ρ1).wp (fun src ρ2 => QI (enumL src.1, src.2) ρ2) X) X) := ⟨b_ienu⟩
instance st_b_newD {ρ : DEnv} {Q : Val → DEnv → Prop} {Xx : Ex → DEnv → Prop} : St ((eNewD ρ).wp Q Xx) (Q (.fr (.dic [] [])) ρ) := ⟨b_newD⟩
instance st_b_iany  : St ((iAny f ρ).wp QI X) ((f ρ).wp (fun x ρ1 => (anySrc x ρ1).wp QI X) X) := ⟨b_iany⟩
instance st_b_seqT {ds : List D} : St ((seqSrc (.d (.tup ds)) ρ).wp QI X) (QI (ds, none) ρ) := ⟨b_seqT⟩
instance st_s_gsCons {g : Val → SM} {h : List D → SM} {ds : List D} : St ((gsCons g h (d :: ds) ρ).wp P) ((g (.d d) ρ).wp { P with nx := fun ρ1 => (h ds ρ1).wp P }) := ⟨s_gsCons⟩
instance st_s_gsNil  : St ((gsNil [] ρ).wp P) (P.nx ρ) := ⟨s_gsNil⟩
instance st_b_seqL {ds : List D} : St ((seqSrc (.d (.lst ds)) ρ).wp QI X) (QI (ds, none) ρ) := ⟨b_seqL⟩
instance st_b_seqF {ds : List D} : St ((seqSrc (.fr (.lst ds)) ρ).wp QI X) (QI (ds, none) ρ) := ⟨b_seqF⟩
instance st_b_callK {idx : List Nat} {Fm : FM} {gl gk : M (List Val)} : St ((eCallK idx Fm gl gk ρ).wp Q X) ((gl ρ).wp (fun xs ρ1 => (gk ρ1).wp (fun ys ρ2 => SelK idx (xs ++ ys) fun zs => (callF Fm zs ρ2).wp Q X) X) X) := ⟨b_callK⟩
instance st_b_blK {k : Bool} {G : Bool → Prop} : St (BlK (.d (.bl k)) G) (G k) := ⟨b_blK⟩
instance st_b_dtK {d : D} {G : D → Prop} : St (DtK (.d d) G) (G d) := ⟨b_dtK⟩
instance st_b_intK {k : Int} {G : Int → Prop} : St (IntK (.d (.int k)) G) (G k) := ⟨b_intK⟩
instance st_b_eAnd2  : St ((eAnd f g ρ).wp Q X) ((f ρ).wp (fun x ρ1 => BlK x fun k => (g ρ1).wp (AndV Q k ρ1) fun _ _ => False) X) := ⟨b_eAnd2⟩
instance st_b_eOr2  : St ((eOr f g ρ).wp Q X) ((f ρ).wp (fun x ρ1 => BlK x fun k => (g ρ1).wp (OrV Q k ρ1) fun _ _ => False) X) := ⟨b_eOr2⟩
instance st_b_eNotK  : St ((eNot f ρ).wp Q X) ((f ρ).wp (fun x ρ1 => BlK x fun k => Q (.d (.bl !k)) ρ1) X) := ⟨b_eNotK⟩
instance st_b_chain2  : St ((eChain op op' f g h ρ).wp Q X) ((f ρ).wp (fun x ρ1 => (g ρ1).wp (fun y ρ2 => (opV op x y ρ2).wp (fun z ρ3 => BlK z fun k => (h ρ3).wp (fun w ρ4 => (opV op' y w ρ4).wp (AndV Q k ρ3) fun _ _ => False) fun _ _ => False) X) X) X) := ⟨b_chain2⟩
instance st_b_and2  : St ((tAndM t u ρ).wp QB X) ((t ρ).wp (fun k ρ1 => (u ρ1).wp (AndK QB k ρ1) fun _ _ => False) X) := ⟨b_and2⟩
instance st_b_or2  : St ((tOrM t u ρ).wp QB X) ((t ρ).wp (fun k ρ1 => (u ρ1).wp (OrK QB k ρ1) fun _ _ => False) X) := ⟨b_or2⟩
instance st_b_eIfW  : St ((eIf t f g ρ).wp Q X) ((t ρ).wp (fun k ρ1 => Way k ((f ρ1).wp Q X) ((g ρ1).wp Q X)) X) := ⟨b_eIfW⟩
instance st_s_ifW {s1 s2 : SM} : St ((sIf t s1 s2 ρ).wp P) ((t ρ).wp (fun k ρ1 => Way k ((s1 ρ1).wp P) ((s2 ρ1).wp P)) P.ex) := ⟨s_ifW⟩
instance st_b_lcK {own : List Nat} {fi : IM} {tg : Val → SM} {tt : M Bool} {el : EM} : St ((eLc own fi tg tt el ρ).wp Q X) ((fi ρ).wp (fun src ρ1 => CompK own ρ1 src.1.length ((compD own tg tt el src.1 [] (wipeD (lockS src.2 ρ1) own)).wp (fun ys ρ2 => PB (unlk src.2 ρ1 (backD (lockS src.2 ρ1) ρ2 own)) fun ρ3 => Q (.fr (.lst ys)) ρ3) fun _ _ => False)) X) := ⟨b_lcK⟩
instance st_b_sortScK {own : List Nat} {fi : IM} {tg : Val → SM} {tt : M Bool} {el : EM} : St ((eSortSc own fi tg tt el ρ).wp Q X) ((fi ρ).wp (fun src ρ1 => CompK own ρ1 src.1.length ((compA own tg tt (scStep el) src.1 [] (wipeD (lockS src.2 ρ1) own)).wp (fun ns ρ2 => PB (unlk src.2 ρ1 (backD (lockS src.2 ρ1) ρ2 own)) fun ρ3 => Q (.fr (.lst ((sortSetI ns).map D.int))) ρ3) fun _ _ => False)) X) := ⟨b_sortScK⟩
instance st_b_dcK {own : List Nat} {fi : IM} {tg : Val → SM} {tt : M Bool} {kx vx : EM} : St ((eDc own fi tg tt kx vx ρ).wp Q X) ((fi ρ).wp (fun src ρ1 => CompK own ρ1 src.1.length ((compA own tg tt (dcStep kx vx) src.1 ([], []) (wipeD (lockS src.2 ρ1) own)).wp (fun a ρ2 => PB (unlk src.2 ρ1 (backD (lockS src.2 ρ1) ρ2 own)) fun ρ3 => Q (.fr (.dic a.1 a.2)) ρ3) fun _ _ => False)) X) := ⟨b_dcK⟩
instance st_b_dcStepK {kx vx : EM} {acc : List Key × List D} {QA : List Key × List D → DEnv → Prop} : St ((dcStep kx vx acc ρ).wp QA X) ((kx ρ).wp (fun y ρ1 => IntK y fun k => (vx ρ1).wp (fun z ρ2 => DtK z fun d => QA (if acc.1.any (fun j => decide (j = (Sum.inl k : Key))) = true then (acc.1, dSet acc.1 acc.2 (.inl k) d) else (acc.1 ++ [.inl k], acc.2 ++ [d])) ρ2) X) X) := ⟨b_dcStepK⟩
instance st_b_andK {k k2 : Bool} : St (AndK QB k ρ k2 ρ) (QB (k && k2) ρ) := ⟨b_andK⟩
instance st_b_orK {k k2 : Bool} : St (OrK QB k ρ k2 ρ) (QB (k || k2) ρ) := ⟨b_orK⟩
instance st_b_andV {k k2 : Bool} : St (AndV Q k ρ (.d (.bl k2)) ρ) (Q (.d (.bl (k && k2))) ρ) := ⟨b_andV⟩
instance st_b_orV {k k2 : Bool} : St (OrV Q k ρ (.d (.bl k2)) ρ) (Q (.d (.bl (k || k2))) ρ) := ⟨b_orV⟩
instance st_b_get2K  : St ((eGet2 f g h ρ).wp Q X) ((f ρ).wp (fun x ρ1 => IsDK x ρ1 ((g ρ1).wp (fun y ρ2 => (fz h ρ2).wp (fun z ρ3 => (getV x y z ρ3).wp Q X) X) X)) X) := ⟨b_get2K⟩
instance st_b_same {G : Prop} : St (SameK ρ ρ G) (G) := ⟨b_same⟩
instance st_b_mkT1 {a0 : D} : St ((mkTup [.d a0] ρ).wp Q X) (Q (.d (.tup [a0])) ρ) := ⟨b_mkT1⟩
instance st_b_mkT2 {a0 a1 : D} : St ((mkTup [.d a0, .d a1] ρ).wp Q X) (Q (.d (.tup [a0, a1])) ρ) := ⟨b_mkT2⟩
instance st_b_mkT3 {a0 a1 a2 : D} : St ((mkTup [.d a0, .d a1, .d a2] ρ).wp Q X) (Q (.d (.tup [a0, a1, a2])) ρ) := ⟨b_mkT3⟩
instance st_b_mkT4 {a0 a1 a2 a3 : D} : St ((mkTup [.d a0, .d a1, .d a2, .d a3] ρ).wp Q X) (Q (.d (.tup [a0, a1, a2, a3])) ρ) := ⟨b_mkT4⟩
instance st_b_mkT5 {a0 a1 a2 a3 a4 : D} : St ((mkTup [.d a0, .d a1, .d a2, .d a3, .d a4] ρ).wp Q X) (Q (.d (.tup [a0, a1, a2, a3, a4])) ρ) := ⟨b_mkT5⟩
instance st_b_mkT6 {a0 a1 a2 a3 a4 a5 : D} : St ((mkTup [.d a0, .d a1, .d a2, .d a3, .d a4, .d a5] ρ).wp Q X) (Q (.d (.tup [a0, a1, a2, a3, a4, a5])) ρ) := ⟨b_mkT6⟩
instance st_b_mkL1 {a0 : D} : St ((mkLst [.d a0] ρ).wp Q X) (Q (.fr (.lst [a0])) ρ) := ⟨b_mkL1⟩
instance st_b_mkL2 {a0 a1 : D} : St ((mkLst [.d a0, .d a1] ρ).wp Q X) (Q (.fr (.lst [a0, a1])) ρ) := ⟨b_mkL2⟩
instance st_b_mkL3 {a0 a1 a2 : D} : St ((mkLst [.d a0, .d a1, .d a2] ρ).wp Q X) (Q (.fr (.lst [a0, a1, a2])) ρ) := ⟨b_mkL3⟩
instance st_b_mkL4 {a0 a1 a2 a3 : D} : St ((mkLst [.d a0, .d a1, .d a2, .d a3] ρ).wp Q X) (Q (.fr (.lst [a0, a1, a2, a3])) ρ) := ⟨b_mkL4⟩
instance st_b_mkL5 {a0 a1 a2 a3 a4 : D} : St ((mkLst [.d a0, .d a1, .d a2, .d a3, .d a4] ρ).wp Q X) (Q (.fr (.lst [a0, a1, a2, a3, a4])) ρ) := ⟨b_mkL5⟩
instance st_b_mkL6 {a0 a1 a2 a3 a4 a5 : D} : St ((mkLst [.d a0, .d a1, .d a2, .d a3, .d a4, .d a5] ρ).wp Q X) (Q (.fr (.lst [a0, a1, a2, a3, a4, a5])) ρ) := ⟨b_mkL6⟩
instance st_g_seqW {P : PoG} {g h : GM} {ds : List D} : St ((gSeq g h ds ρ).wp P) ((g ds ρ).wp (P.wnx fun ds1 ρ1 => (h ds1 ρ1).wp P)) := ⟨g_seqW⟩
instance st_s_gsConsW {g : Val → SM} {h : List D → SM} {ds : List D} : St ((gsCons g h (d :: ds) ρ).wp P) ((g (.d d) ρ).wp (P.wnx fun ρ1 => (h ds ρ1).wp P)) := ⟨s_gsConsW⟩
instance st_g_fromLK {P : PoG} {ds : List D} : St ((gFromL f ds ρ).wp P) ((f ρ).wp (fun x ρ1 => FrLK x ds.length fun es => P.nx (ds ++ es) ρ1) NoX) := ⟨g_fromLK⟩
instance st_g_skip {P : PoG} {ds : List D} : St ((gSkip ds ρ).wp P) (P.nx ds ρ) := ⟨g_skip⟩
instance st_g_plW {P : PoG} {ds : List D} {s : SM} : St ((gPl s ds ρ).wp P) ((s ρ).wp (P.pl ds)) := ⟨g_plW⟩
instance st_g_if {P : PoG} {ds : List D} {g h : GM} : St ((gIf t g h ds ρ).wp P) ((t ρ).wp (fun k ρ1 => Way k ((g ds ρ1).wp P) ((h ds ρ1).wp P)) NoX) := ⟨g_if⟩
instance st_g_for {P : PoG} {ds : List D} {fi : IM} {tg : Val → SM} {body : GM} : St ((gFor fi tg body ds ρ).wp P) ((fi ρ).wp (fun src ρ1 => (unlkG src.2 ρ1 (loopG tg body src.1 ds (lockS src.2 ρ1))).wp P) NoX) := ⟨g_for⟩
instance st_b_zp  : St ((iZp f g ρ).wp QI X) (((aCons (fz f) (aCons (fz g) aNil)) ρ).wp (fun xs ρ1 => (zpSrc xs ρ1).wp QI X) X) := ⟨b_zp⟩
instance st_b_zpL {ds es : List D} : St ((zpSrc [.d (.lst ds), .d (.lst es)] ρ).wp QI X) (QI (zipL ds es, none) ρ) := ⟨b_zpL⟩
instance st_b_zpT {ds es : List D} : St ((zpSrc [.d (.tup ds), .d (.tup es)] ρ).wp QI X) (QI (zipL ds es, none) ρ) := ⟨b_zpT⟩
instance st_loop_nil {tg : Val → SM} {body : SM} : St ((loopD tg body [] ρ).wp P) (P.nx ρ) := ⟨loop_nil⟩
instance st_loop_consW {tg : Val → SM} {body : SM} {ds : List D} : St ((loopD tg body (d :: ds) ρ).wp P) ((tg (.d d) ρ).wp (Po.tgt fun ρ1 => (body ρ1).wp (P.wlp fun ρ2 => (loopD tg body ds ρ2).wp P))) := ⟨loop_consW⟩
instance st_b_getK {ks : List (Str × Int)} : St ((eGetK ks g h ρ).wp Q X) ((g ρ).wp (fun y ρ2 => (fz h ρ2).wp (fun z ρ3 => (getKV ks y z ρ3).wp Q X) X) X) := ⟨b_getK⟩
instance st_b_dispC {kds : List (Key × D)} : St ((eDispC kds ρ).wp Q X) (Q (.fr (.dic (mergeD ([], []) kds).1 (mergeD ([], []) kds).2)) ρ) := ⟨b_dispC⟩
instance st_b_ok {a : α} {QA : α → DEnv → Prop} : St ((R.ok a ρ).wp QA X) (QA a ρ) := ⟨b_ok⟩
instance st_int_addD {i j : Int} : St ((opV addD (.d (.int i)) (.d (.int j)) ρ).wp Q X) (Q (.d (.int (i + j))) ρ) := ⟨fun q => b_opV rfl rfl rfl q⟩
instance st_int_subD {i j : Int} : St ((opV subD (.d (.int i)) (.d (.int j)) ρ).wp Q X) (Q (.d (.int (i - j))) ρ) := ⟨fun q => b_opV rfl rfl rfl q⟩
instance st_int_ltD {i j : Int} : St ((opV ltD (.d (.int i)) (.d (.int j)) ρ).wp Q X) (Q (.d (.bl (decide (i < j)))) ρ) := ⟨fun q => b_opV rfl rfl rfl q⟩
instance st_int_leD {i j : Int} : St ((opV leD (.d (.int i)) (.d (.int j)) ρ).wp Q X) (Q (.d (.bl (decide (i ≤ j)))) ρ) := ⟨fun q => b_opV rfl rfl rfl q⟩
instance st_int_gtD {i j : Int} : St ((opV gtD (.d (.int i)) (.d (.int j)) ρ).wp Q X) (Q (.d (.bl (decide (j < i)))) ρ) := ⟨fun q => b_opV rfl rfl rfl q⟩
instance st_int_geD {i j : Int} : St ((opV geD (.d (.int i)) (.d (.int j)) ρ).wp Q X) (Q (.d (.bl (decide (j ≤ i)))) ρ) := ⟨fun q => b_opV rfl rfl rfl q⟩
instance st_int_eqV {i j : Int} : St ((opV eqV' (.d (.int i)) (.d (.int j)) ρ).wp Q X) (Q (.d (.bl (decide (i = j)))) ρ) := ⟨fun q => b_opV rfl rfl rfl q⟩
instance st_int_neV {i j : Int} : St ((opV neV' (.d (.int i)) (.d (.int j)) ρ).wp Q X) (Q (.d (.bl (!decide (i = j)))) ρ) := ⟨fun q => b_opV rfl rfl rfl q⟩
instance (priority := low) st_str_eqV {i j : Str} : St ((opV eqV' (.d (.str i)) (.d (.str j)) ρ).wp Q X) (Q (.d (.bl (decide (i = j)))) ρ) := ⟨fun q => b_opV rfl rfl rfl q⟩
instance (priority := low) st_str_neV {i j : Str} : St ((opV neV' (.d (.str i)) (.d (.str j)) ρ).wp Q X) (Q (.d (.bl (!decide (i = j)))) ρ) := ⟨fun q => b_opV rfl rfl rfl q⟩
end
end DL
set_option maxHeartbeats 1000000
/-! DL42: whether data of any depth stands in a list or a tuple. -/
namespace DL
open PySem PySem.Spec PyProof.Rows L2
/-! on data -/
end DL
set_option maxHeartbeats 1000000
/-! DL43: four names at once. -/
namespace DL
open PySem PySem.Spec PyProof.Rows L2
end DL
set_option maxHeartbeats 1000000
/-! DL44: sorted() of ints, in a list or a tuple. -/
namespace DL
open PySem PySem.Spec PyProof.Rows L2
end DL
set_option maxHeartbeats 1000000
/-! DL45: xs.count(x) of an own list. -/
namespace DL
open PySem PySem.Spec PyProof.Rows L2
end DL
set_option maxHeartbeats 1000000
/-! DL46: a == b == c. -/
namespace DL
open PySem PySem.Spec PyProof.Rows L2
end DL
set_option maxHeartbeats 1000000
/-! DL47: repr of great data of small parts: at most 100 signs a part. -/
namespace DL
open PySem PySem.Spec PyProof.Rows L2
mutual
def D.tiny : D → Bool
  | .int i => decide (i.natAbs < 10 ^ 64)
  | .str x => decide (x.length ≤ 9)
  | .tup xs => tinyL xs
  | .lst xs => tinyL xs
  | .non => true
  | .bl _ => true
  | _ => false
def tinyL : List D → Bool
  | [] => true
  | x :: xs => x.tiny && tinyL xs
end
theorem int_tiny {i : Int} (h : i.natAbs < 10 ^ 64) : (PyData.int i).shown.length ≤ 65 := by
  unfold PyData.shown
  have h2 := int_text_length_le10 (a := i) (k := 64) (by omega) h
  rw [PySem.ofString_length]
  exact h2
mutual
theorem tiny_py : ∀ (d : D), d.good = true → d.tiny = true → ∃ p, d.toPy = some p ∧ p.shown.length + 2 ≤ 100 * d.cnt
  | .non, _, _ => ⟨.none, rfl, by simp only [PyData.shown]; decide⟩
  | .bl b, _, _ => ⟨.bool b, rfl, by simp only [PyData.shown]; cases b <;> decide⟩
  | .int i, _, h => ⟨.int i, rfl, by
      have := int_tiny (i := i) (by simpa [D.tiny] using h)
      simp only [D.cnt]; omega⟩
  | .str x, h, hs => ⟨.str x, rfl, by
      simp only [PyData.shown]
      have h1 := StrLaws.reprText_len x (strOk_lt (by simpa [D.good] using h))
      have h2 : x.length ≤ 9 := by simpa [D.tiny] using hs
      simp only [D.cnt]
      omega⟩
  | .tup xs, h, hs => by
    obtain ⟨ps, h1, h5, g2⟩ := tinyL_py xs (by simpa [D.good] using h) (by simpa [D.tiny] using hs)
    refine ⟨.tuple ps, by simp [D.toPy, h1], ?_⟩
    have := tupleText_len_le (PyData.shownAll ps)
    simp only [PyData.shown, D.cnt]
    rw [h5] at this
    omega
  | .lst xs, h, hs => by
    obtain ⟨ps, h1, h5, g2⟩ := tinyL_py xs (by simpa [D.good] using h) (by simpa [D.tiny] using hs)
    refine ⟨.list ps, by simp [D.toPy, h1], ?_⟩
    have := listText_len_le (PyData.shownAll ps)
    simp only [PyData.shown, D.cnt]
    rw [h5] at this
    omega
  | .dic _ _, h, _ => by simp [D.good] at h
  | .set _, h, _ => by simp [D.good] at h
  | .scr _, h, _ => by simp [D.good] at h
  | .ty _, h, _ => by simp [D.good] at h
  | .obj _ _ _, h, _ => by simp [D.good] at h
  | .ins _ _ _, h, _ => by simp [D.good] at h
theorem tinyL_py : ∀ (ds : List D), goodL ds = true → tinyL ds = true → ∃ ps, toPyL ds = some ps ∧ (PyData.shownAll ps).length = ds.length ∧ ((PyData.shownAll ps).map (·.length)).sum + 2 * ds.length ≤ 100 * cntL ds
  | [], _, _ => ⟨[], rfl, by simp [PyData.shownAll], by simp [PyData.shownAll, cntL]⟩
  | d :: ds, h, hs => by
    have h : d.good = true ∧ goodL ds = true := by simpa [goodL] using h
    have hs : d.tiny = true ∧ tinyL ds = true := by simpa [tinyL] using hs
    obtain ⟨p, a1, a2⟩ := tiny_py d h.1 hs.1
    obtain ⟨ps, b1, b2, b3⟩ := tinyL_py ds h.2 hs.2
    refine ⟨p :: ps, by simp [toPyL, a1, b1], by simp [PyData.shownAll, b2], ?_⟩
    simp only [PyData.shownAll, List.map_cons, List.sum_cons, List.length_cons, cntL]
    omega
end
theorem Gd.repr1T {a : D} {k n : Nat} (h : Gd k n a) (ht : a.tiny = true) (hk : k ≤ 60) (hn : n ≤ 160000) : reprD1 a = some (.d (.str (shownD a))) := by
  obtain ⟨p, h1, h2, h3, h4, h5⟩ := good_py a h.good
  obtain ⟨g1, g2⟩ := h5 h.short
  obtain ⟨p', h1', g3⟩ := tiny_py a h.good ht
  rw [h1] at h1'
  cases h1'
  unfold reprD1 shownD
  rw [h1]
  dsimp only
  have := h.cnt
  have := h.dep
  rw [if_pos ⟨g1, h4, by omega, by unfold sizeLine; omega⟩]
end DL
set_option maxHeartbeats 1000000
/-! DL48: d.items() walked. -/
namespace DL
open PySem PySem.Spec PyProof.Rows L2
variable [TabT]
def itemsL (ks : List Key) (ds : List D) : List D := (ks.zip ds).map fun p => .tup [keyToD p.1, p.2]
def itmSrc (x : Val) (ρ : DEnv) : R Src := (x.fzA ρ).bind fun y ρ1 => match y with
  | .d (.dic ks ds) => .ok (itemsL ks ds, none) ρ1
  | _ => .bad
def iItm (f : EM) : IM := fun ρ => (f ρ).bind itmSrc
/-! ### its reading -/
section
variable {ρ : DEnv} {QI : Src → DEnv → Prop} {X : Ex → DEnv → Prop}
theorem b_iitm {f : EM} (q : (f ρ).wp (fun x ρ1 => (itmSrc x ρ1).wp QI X) X) : (iItm f ρ).wp QI X := b_bind q
theorem b_itmD {ks : List Key} {ds : List D} (q : QI (itemsL ks ds, none) ρ) : (itmSrc (.d (.dic ks ds)) ρ).wp QI X := q
instance st_iitm {f : EM} : St ((iItm f ρ).wp QI X) ((f ρ).wp (fun x ρ1 => (itmSrc x ρ1).wp QI X) X) := ⟨b_iitm⟩
instance st_itmD {ks : List Key} {ds : List D} : St ((itmSrc (.d (.dic ks ds)) ρ).wp QI X) (QI (itemsL ks ds, none) ρ) := ⟨b_itmD⟩
end
end DL
set_option maxHeartbeats 1000000
/-! DL49: methods of a list that any expression gives: count, index; remove of an own list of ints. -/
namespace DL
open PySem PySem.Spec PyProof.Rows L2
/-! ### remove -/
end DL
/-! GN1: what sleeps is left alone by what does not wake it: a run that would end, were each sleeper's next step a dead end, ends alike beside the sleepers. -/
namespace SW
open PySem PyProof.Rows
def stump (F : Frame) : Frame := .ret (fun _ => .unsupported "dud") none false [] F.where_.1 F.where_.2 []
def dud : GenState → GenState
  | .suspended _ _ c p fs cl => .suspended (fun _ => .unsupported "dud") [] c p (fs.map stump) cl
  | .fresh c => .fresh c
  | .running => .running
  | .finished => .finished
def slp : GenState → Bool
  | .suspended .. => true
  | _ => false
theorem dud_id {x : GenState} (h : slp x = false) : dud x = x := by cases x <;> first | rfl | cases h
/-- g sleeps in G -/
def Slps (G : Array GenState) (g : Nat) : Prop := ∃ x, G[g]? = some x ∧ slp x = true
/-- no frame of a sleeper -/
def Fine (G : Array GenState) (fs : List Frame) : Prop := ∀ g k l c p, Frame.gen g k l c p ∈ fs → ¬ Slps G g
/-- a: the sleepers are duds; b: they are themselves -/
structure Sw (G a b : Array GenState) : Prop where
  size : b.size = a.size
  le : G.size ≤ a.size
  at_ : ∀ (g : Nat) (x : GenState), G[g]? = some x → slp x = true → a[g]? = some (dud x) ∧ b[g]? = some x
  same : ∀ g : Nat, ¬ Slps G g → b[g]? = a[g]?
  fine : ∀ (g : Nat) k l c p fs cl, a[g]? = some (.suspended k l c p fs cl) → Fine G fs
theorem Fine.nil {G : Array GenState} : Fine G [] := fun _ _ _ _ _ h => by simp at h
theorem Fine.app {G : Array GenState} {fs gs : List Frame} (h : Fine G fs) (h2 : Fine G gs) : Fine G (fs ++ gs) := fun g k l c p m => by
  rcases List.mem_append.mp m with z | z
  · exact h g k l c p z
  · exact h2 g k l c p z
theorem Fine.ret {G : Array GenState} {k : Result → Sem PySem.Fin} {h : Option Value} {g : Bool} {l kp : List Value} {c : Code} {p : Pos} : Fine G [.ret k h g l c p kp] := fun _ _ _ _ _ m => by
  have := List.mem_singleton.mp m
  cases this
theorem Sw.start (G : Array GenState) : Sw G (G.map dud) G := by
  refine ⟨by simp, by simp, fun g x e hx => ⟨by simp [e], e⟩, fun g hg => ?_, fun g k l c p fs cl e => ?_⟩
  · rw [Array.getElem?_map]
    cases e : G[g]? with
    | none => rfl
    | some x =>
      have : slp x = false := by
        cases h : slp x with
        | false => rfl
        | true => exact absurd ⟨x, e, h⟩ hg
      rw [Option.map_some, dud_id this]
  · rw [Array.getElem?_map, Option.map_eq_some_iff] at e
    obtain ⟨x, _, hx⟩ := e
    cases x with
    | suspended k0 l0 c0 p0 fs0 cl0 =>
      cases hx
      intro g' k' l' c' p' hm
      obtain ⟨F, _, hF⟩ := List.mem_map.mp hm
      cases hF
    | fresh c0 => cases hx
    | running => cases hx
    | finished => cases hx
theorem Sw.set {G a b : Array GenState} (h : Sw G a b) {g : Nat} (hg : ¬ Slps G g) {x : GenState} (hx : ∀ k l c p fs cl, x = .suspended k l c p fs cl → Fine G fs) : Sw G (a.setIfInBounds g x) (b.setIfInBounds g x) := by
  refine ⟨by simp [h.size], by simp [h.le], fun g' y e hy => ?_, fun g' hg' => ?_, fun g' k l c p fs cl e => ?_⟩
  · have ne : g ≠ g' := fun z => hg ⟨y, by rw [z]; exact e, hy⟩
    rw [Array.getElem?_setIfInBounds_ne ne, Array.getElem?_setIfInBounds_ne ne]
    exact h.at_ g' y e hy
  · rw [Array.getElem?_setIfInBounds, Array.getElem?_setIfInBounds, h.size, h.same g' hg']
  · rw [Array.getElem?_setIfInBounds] at e
    split at e
    · split at e
      · exact hx k l c p fs cl (by simpa using e)
      · cases e
    · exact h.fine g' k l c p fs cl e
theorem Sw.push {G a b : Array GenState} (h : Sw G a b) {c : Code} : Sw G (a.push (.fresh c)) (b.push (.fresh c)) := by
  refine ⟨by simp [h.size], by simp; have := h.le; omega, fun g' y e hy => ?_, fun g' hg' => ?_, fun g' k l c' p fs cl e => ?_⟩
  · obtain ⟨h1, h2⟩ := h.at_ g' y e hy
    have l1 : g' < a.size := (Array.getElem?_eq_some_iff.mp h1).1
    rw [Array.getElem?_push, Array.getElem?_push, h.size, if_neg (by omega), if_neg (by omega)]
    exact ⟨h1, h2⟩
  · rw [Array.getElem?_push, Array.getElem?_push, h.size, h.same g' hg']
  · rw [Array.getElem?_push] at e
    split at e
    · cases e
    · exact h.fine g' k l c' p fs cl e
/-- two states that differ in the sleepers alone -/
structure SwS (G : Array GenState) (s u : Shared) : Prop where
  heap : u.heap = s.heap
  drawn : u.drawn = s.drawn
  toks : u.toks = s.toks
  os : u.os = s.os
  sw : Sw G s.gens u.gens
theorem SwS.set {G : Array GenState} {s u : Shared} (h : SwS G s u) {g : Nat} (hg : ¬ Slps G g) {x : GenState} (hx : ∀ k l c p fs cl, x = .suspended k l c p fs cl → Fine G fs) : SwS G (s.setGen g x) (u.setGen g x) :=
  ⟨h.heap, h.drawn, h.toks, h.os, h.sw.set hg hx⟩
end SW
/-! GN2: the same, for pieces of code. -/
set_option maxHeartbeats 1000000
/-! GN3: a generator's body, run turn by turn beside its consumer. -/
namespace DL
open PySem PySem.Spec PyProof.Rows L2 GenW
variable [TabT]
/-- what a generator's run does, seen by its consumer: what is not its own stays -/
structure EvW (σ : L2.St) (ρ : DEnv) (F H : Hp) (σ' : L2.St) (ρ' : DEnv) (F' H' : Hp) : Prop where
  ext : Same F F'
  keep : ∀ a o, H a = some o → ¬ Ow σ ρ a → NT o → H' a = some o
  newF : ∀ a, F a = none → F' a ≠ none → H a = none ∨ Ow σ ρ a
  dom : ∀ a, H a ≠ none → H' a ≠ none
  own' : ∀ a, Ow σ' ρ' a → H a = none ∨ Ow σ ρ a
theorem EvW.refl {σ : L2.St} {ρ : DEnv} {F H : Hp} : EvW σ ρ F H σ ρ F H := ⟨Same.refl _, fun _ _ e _ _ => e, fun _ e n => absurd e n, fun _ h => h, fun _ h => .inr h⟩
theorem EvW.trans {σ σ1 σ2 : L2.St} {ρ ρ1 ρ2 : DEnv} {F F1 F2 H H1 H2 : Hp} (a : EvW σ ρ F H σ1 ρ1 F1 H1) (b : EvW σ1 ρ1 F1 H1 σ2 ρ2 F2 H2) : EvW σ ρ F H σ2 ρ2 F2 H2 where
  ext := a.ext.trans b.ext
  keep := fun x o e n nt => by
    refine b.keep x o (a.keep x o e n nt) (fun m => ?_) nt
    rcases a.own' x m with z | z
    · rw [e] at z; cases z
    · exact n z
  newF := fun x e n => by
    by_cases q : F1 x = none
    · rcases b.newF x q n with z | z
      · cases hx : H x with
        | none => exact .inl rfl
        | some o => exact absurd z (a.dom x (by rw [hx]; simp))
      · exact a.own' x z
    · exact a.newF x e q
  dom := fun x h => b.dom x (a.dom x h)
  own' := fun x h => by
    rcases b.own' x h with z | z
    · cases hx : H x with
      | none => exact .inl rfl
      | some o => exact absurd z (a.dom x (by rw [hx]; simp))
    · exact a.own' x z
theorem EvW.of {σ σ1 : L2.St} {ρ ρ1 : DEnv} {F F1 H H1 : Hp} (e : Ev σ ρ F H σ1 ρ1 F1 H1) : EvW σ ρ F H σ1 ρ1 F1 H1 := ⟨e.ext, fun a o h n nt => e.keep a o h (fun m => n m.ow) nt, e.newF, e.dom, e.own'⟩
/-- another word for a slot's mode -/
theorem EvW.mode {σ σ1 : L2.St} {ρ ρ1 : DEnv} {F F1 H H1 : Hp} (e : EvW σ ρ F H σ1 ρ1 F1 H1) {i : Nat} {c : Cont} {m m' : Md} (h : ρ1[i]? = some (.ow c m)) : EvW σ ρ F H σ1 (ρ1.set i (.ow c m')) F1 H1 := by
  refine ⟨e.ext, e.keep, e.newF, e.dom, fun a z => e.own' a (ow_mode (fun j c1 m1 q => ?_) z)⟩
  by_cases hj : i = j
  · subst hj; rw [List.getElem?_set_self (List.getElem?_eq_some_iff.mp h).1] at q; cases q; exact ⟨_, h⟩
  · rw [List.getElem?_set_ne hj] at q; exact ⟨m1, q⟩
/-- a consumer of a generator: the contexts in which the generator's frame may be seen (they differ in their roots alone), what is wanted of a wake, what is handed out in all -/
structure Cons where
  prog : Program
  w : World
  K : PySem.W.Frag
  mg : Str → Option Value
  env : Env
  A : Around
  XX : Cx → Prop
  Pay : Cx → L2.St → DEnv → Hp → List D → Prop
  Ds : List D
  L : Nat
  eL : ∀ X, XX X → X.s_0.heap.objs.size = L
  eex : ∀ X, XX X → X.ex = []
  pa : List Addr
  epa : ∀ X, XX X → X.pn.map (·.1) = pa
  eprog : ∀ X, XX X → X.prog = prog
  ew : ∀ X, XX X → X.w = w
  eK : ∀ X, XX X → X.K = K
  emg : ∀ X, XX X → X.mg = mg
  eenv : ∀ X, XX X → X.env = env
  eA : ∀ X, XX X → X.A = A
/-- what stays true of a generator's run, beside its slots: lists that loops hold locked, frozen parts of before -/
structure Hst where
  hs : List (Nat × Cont × Addr × HO) := []
  Fs : List Hp := []
structure Hst.At (Z : Hst) (σ : L2.St) (ρ : DEnv) (F H : Hp) : Prop where
  lk : ∀ i c a o, (i, c, a, o) ∈ Z.hs → ρ[i]? = some (.ow c .lck) ∧ σ[i]? = some (some (.ref a)) ∧ H a = some o
  fs : ∀ F0 ∈ Z.Fs, Same F0 F
theorem Hst.At.ev {Z : Hst} {K : PySem.W.Frag} {σ σ' : L2.St} {ρ ρ' : DEnv} {F H F' H' : Hp} (h : Z.At σ ρ F H) (sr : SR K F H σ ρ) (ev : Ev σ ρ F H σ' ρ' F' H') : Z.At σ' ρ' F' H' := by
  refine ⟨fun i c a o hm => ?_, fun F0 hF => (h.fs F0 hF).trans ev.ext⟩
  obtain ⟨h1, h2, h3⟩ := h.lk i c a o hm
  obtain ⟨b1, c', b2, b3⟩ := ev.bor i c .lck h1 (by decide)
  obtain rfl := b3 rfl
  obtain ⟨ov, w1, a', w2, w3, w4⟩ := sr.slot i _ h1
  rw [h2] at w1
  cases w1
  cases w2
  refine ⟨b2, by rw [b1]; exact h2, ev.keep a o h3 (fun ⟨j, c1, m1, z1, z2, z3⟩ => ?_) (CRep.nt h3 w4)⟩
  have := sr.dist i j _ _ _ _ a h1 z1 h2 z3
  subst this
  rw [h1] at z1; cases z1; exact z2 rfl
/-- how matters stand while the generator runs; w: at the last wake -/
structure Sit (C : Cons) (ip : List (Addr × Obj)) (X : Cx) (σw : L2.St) (ρw : DEnv) (Fw : Hp) (σ : L2.St) (ρ : DEnv) (F H : Hp) (ds : List D) (n : Nat) (s : Shared) : Prop where
  fam : C.XX X
  pay : C.Pay X σw ρw Fw ds
  fuel : n + ds.length = sizeLine
  inv : Inv X ip σ H s
  sr : SR C.K F H σ ρ
  ev : EvW σw ρw Fw X.H_0 σ ρ F H
  ap : ∀ p ∈ ip, p.1 ∉ C.pa
def LY (C : Cons) : Protocol := fun n s₀ v s kap => ∃ ip X σw ρw Fw σ ρ F H x d ds, Sit C ip X σw ρw Fw σ ρ F H ds (n + 1) s ∧ RelV x v ∧ Rep C.K F x d ∧ (ds ++ [d]) <+: C.Ds ∧
  ∀ X' F' s', Sit C ip X' σ ρ F' σ ρ F' X'.H_0 (ds ++ [d]) n s' → Same F F' → (∀ a o, Ow σ ρ a → H a = some o → X'.H_0 a = some o) → kap (.send .none) s'
def LR (C : Cons) : GenEnd := fun n s₀ r s => (r = .ok (.ret .none) ∨ r = .ok .next) ∧ ∃ X σw ρw Fw σ ρ F H, Sit C [] X σw ρw Fw σ ρ F H C.Ds n s
def Grows (ds : List D) : GRS → Prop
  | .nx es _ => ds <+: es
  | .bk es _ => ds <+: es
  | .ct es _ => ds <+: es
  | .rt es _ _ => ds <+: es
  | _ => True
section
variable {C : Cons} {X : Cx} {ip : List (Addr × Obj)} {σw σ σ' : L2.St} {ρw ρ ρ' : DEnv} {Fw F F' H H' : Hp} {ds : List D} {n : Nat} {s s' : Shared}
theorem Sit.on (h : Sit C ip X σw ρw Fw σ ρ F H ds n s) (I : Inv X ip σ' H' s') (sr : SR C.K F' H' σ' ρ') (ev : Ev σ ρ F H σ' ρ' F' H') : Sit C ip X σw ρw Fw σ' ρ' F' H' ds n s' := ⟨h.fam, h.pay, h.fuel, I, sr, h.ev.trans (.of ev), h.ap⟩
theorem Cons.pt (C : Cons) {e : Expr} {t : TT} (hX : C.XX X) (h : PT X e t) {Q : Bool → Hp → Prop} (I : Inv X ip σ H s) (q : t σ H Q) : wpAny (model C.prog C.w) C.A (isTrue e C.env (eval e C.env)) (TP X ip σ Q) X.xe s := by
  rw [← C.eprog X hX, ← C.ew X hX, ← C.eA X hX, ← C.eenv X hX]
  exact h.run ip s σ H Q I q
end
end DL
set_option maxHeartbeats 1000000
/-! GN4: the statements of a generator's body, turn by turn. -/
namespace DL
open PySem PySem.Spec PyProof.Rows L2 GenW
variable [TabT]
section
variable {C : Cons} {st : Stmt} {rest : List Stmt}
theorem Grows.le {ds es : List D} (h : ds <+: es) {r : GRS} (g : Grows es r) : Grows ds r := by
  cases r with
  | nx a b => exact h.trans g
  | bk a b => exact h.trans g
  | ct a b => exact h.trans g
  | rt a x b => exact h.trans g
  | ex a b => trivial
  | bad => trivial
end
end DL
set_option maxHeartbeats 1000000
/-! GN5: for, in a generator's body that is run turn by turn. -/
namespace DL
open PySem PySem.Spec PyProof.Rows L2 GenW
variable [TabT]
section
variable {C : Cons}
/-- what a loop adds to the story -/
def Hst.lock (Z : Hst) (lk : Option (Nat × Cont × Addr × HO)) (F : Hp) : Hst := { hs := (match lk with | some x => x :: Z.hs | none => Z.hs), Fs := F :: Z.Fs }
/-- the story goes on under the loop's lock -/
theorem Hst.At.on {Z : Hst} {K : PySem.W.Frag} {σ : L2.St} {ρ : DEnv} {F H : Hp} {lk : Option Nat} (h : Z.At σ ρ F H) (sr : SR K F H σ ρ) (hk : ∀ i, lk = some i → ∃ c m, ρ[i]? = some (.ow c m)) :
    ∃ l, (Z.lock l F).At σ (lockS lk ρ) F H ∧ (∀ i, lk = some i → ∃ c m a o, l = some (i, c, a, o) ∧ ρ[i]? = some (.ow c m) ∧ σ[i]? = some (some (.ref a)) ∧ H a = some o) ∧ (lk = none → l = none) := by
  cases lk with
  | none => exact ⟨none, ⟨h.lk, fun F1 h1 => (List.mem_cons.mp h1).elim (fun e => by rw [e]; exact Same.refl _) (h.fs F1)⟩, (fun i e => nomatch e), fun _ => rfl⟩
  | some i =>
    obtain ⟨c, m, q⟩ := hk i rfl
    obtain ⟨ov, g1, a, g2, _, g4⟩ := sr.slot i _ q
    subst g2
    obtain ⟨o, ho⟩ := g4.some
    have hl : i < ρ.length := (List.getElem?_eq_some_iff.mp q).1
    have eL : lockS (some i) ρ = ρ.set i (.ow c .lck) := by unfold lockS; dsimp only; rw [q]
    refine ⟨some (i, c, a, o), ⟨fun j c1 a1 o1 hm => ?_, fun F1 h1 => (List.mem_cons.mp h1).elim (fun e => by rw [e]; exact Same.refl _) (h.fs F1)⟩, fun j e => by cases e; exact ⟨c, m, a, o, rfl, q, g1, ho⟩, fun e => by cases e⟩
    rw [eL]
    rcases List.mem_cons.mp hm with e | hm
    · cases e
      exact ⟨List.getElem?_set_self hl, g1, ho⟩
    · obtain ⟨h1, h2, h3⟩ := h.lk j c1 a1 o1 hm
      refine ⟨?_, h2, h3⟩
      by_cases hj : i = j
      · subst hj; rw [q] at h1; cases h1; exact List.getElem?_set_self hl
      · rw [List.getElem?_set_ne hj]; exact h1
theorem EvW.lock {σ σ1 : L2.St} {ρ ρ1 : DEnv} {F F1 H H1 : Hp} {lk : Option Nat} (e : EvW σ ρ F H σ1 ρ1 F1 H1) : EvW σ ρ F H σ1 (lockS lk ρ1) F1 H1 := by
  unfold lockS
  split
  · exact e
  · split
    · rename_i q; exact e.mode q
    · exact e
end
end DL
set_option maxHeartbeats 1000000
/-! GN6: yield from a new list, turn by turn. -/
namespace DL
open PySem PySem.Spec PyProof.Rows L2 GenW
end DL
set_option maxHeartbeats 1000000
/-! GN17 (ahead of GN7): a sleeping generator's cells, kept by its consumer as things that are known to the object. -/
namespace DL
open PySem PySem.Spec PyProof.Rows L2 GenW
variable [TabT]
/-- the cells of a generator's frame -/
def GCell (qual : Str) (scope : Scope) (L : Nat) (f : Addr) (cd : Value) (c : Addr) : Prop := ∃ x, (envOfC qual scope L f cd).cells.lookup x = some c
open Classical in
noncomputable def nC (C : Addr → Prop) (H : Hp) : Hp := fun b => if C b then none else H b
end DL
set_option maxHeartbeats 1000000
/-! GN7: a generator def, run turn by turn beside its consumer. -/
namespace DL
open PySem PySem.Spec PyProof.Rows L2 GenW
/-! ### the heap of before -/
def cutH (h : Heap) (L : Nat) : Heap := { h with objs := h.objs.extract 0 L }
def cutS (s : Shared) (L : Nat) : Shared := { s with heap := cutH s.heap L }
section
variable {P : Program} {w : World} {K : PySem.W.Frag} {mg : Str → Option Value} {base : Heap} {N : List Str} {qual : Str} {scope : Scope} {f : Addr} {cd : Value} {A : Around} {outer : List Env} {L : Nat} {pn : List (Addr × Obj)}
abbrev XK0 : XK := fun _ _ _ => False
/-- the consumer of a generator def's call -/
def consOf (P : Program) (w : World) (K : PySem.W.Frag) (mg : Str → Option Value) (base : Heap) (N : List Str) (qual : Str) (scope : Scope) (f : Addr) (cd : Value) (A : Around) (outer : List Env) (L : Nat) (pa : List Addr) (Pay : Cx → L2.St → DEnv → Hp → List D → Prop) (Ds : List D) : Cons where
  prog := P
  w := w
  K := K
  mg := mg
  env := envOfC qual scope L f cd
  A := A.deeper (envOfC qual scope L f cd)
  XX := fun X => ∃ sR HR pnR, pnR.map (·.1) = pa ∧ sR.heap.objs.size = L ∧ X = gcxOf P w K mg base N qual scope f cd A outer sR HR XK0 pnR
  Pay := Pay
  Ds := Ds
  L := L
  eL := by rintro X ⟨sR, HR, pnR, hp, h, rfl⟩; exact h
  eex := by rintro X ⟨sR, HR, pnR, hp, h, rfl⟩; rfl
  pa := pa
  epa := by rintro X ⟨sR, HR, pnR, hp, h, rfl⟩; exact hp
  eprog := by rintro X ⟨sR, HR, pnR, hp, h, rfl⟩; rfl
  ew := by rintro X ⟨sR, HR, pnR, hp, h, rfl⟩; rfl
  eK := by rintro X ⟨sR, HR, pnR, hp, h, rfl⟩; rfl
  emg := by rintro X ⟨sR, HR, pnR, hp, h, rfl⟩; rfl
  eenv := by rintro X ⟨sR, HR, pnR, hp, h, rfl⟩; rw [← h]; rfl
  eA := by rintro X ⟨sR, HR, pnR, hp, h, rfl⟩; rw [← h]; rfl
end
end DL
set_option maxHeartbeats 1000000
/-! GN8: the rule for a generator def that is consumed item by item. -/
namespace DL
open PySem PySem.Spec PyProof.Rows L2 GenW
variable [TabT]
/-- no slot owns anything -/
def AllD (ρ : DEnv) : Prop := ∀ (i : Nat) (c : Cont) (m : Md), ρ[i]? ≠ some (Slot.ow c m)
/-- what the call of a generator def gives: a generator that has not begun, and how it goes at its first wake -/
def LMade (P : Program) (w : World) (K : PySem.W.Frag) (mg : Str → Option Value) (base : Heap) (N : List Str) (qual : Str) (scope : Scope) (f : Addr) (cd : Value) (k : Nat) (outer : List Env) (F : Hp) (s : Shared) (σ0 : L2.St) (ρ0 : DEnv) (Ds : List D) (u : Value) (s' : Shared) : Prop :=
  ∃ (a : Addr) (g : Nat) (c : Code) (go fo : Obj) (nm qn : Value), u = .ref a ∧ s.heap.objs.size < a ∧ go.cls = .type "generator" ∧ go.data = .fields #[.int g 0, nm, qn] ∧ go.slots = #[] ∧ s'.heap.get? a = some go ∧ s'.heap.get? s.heap.objs.size = some fo ∧ (∀ v, fo.data ≠ .cell v) ∧ s'.gens[g]? = some (.fresh c) ∧ s'.os = s.os ∧ AllBare s'.gens ∧ s'.heap.NoLimit ∧ (∀ b o, s.heap.get? b = some o → s'.heap.get? b = some o) ∧ (∀ c, GCell qual scope s.heap.objs.size f cd c → s.heap.objs.size < c ∧ c < a ∧ ∃ v, s'.heap.IsCell c v) ∧
    ∀ (Aw : Around) (Pay : Cx → L2.St → DEnv → Hp → List D → Prop) (s2 : Shared) (H2 F2 : Hp) (ex : List (Addr × Obj)), Room k Aw → Env0 P w K mg base Aw outer s2 H2 → s2.heap.get? s.heap.objs.size = some fo → s2.heap.get? a = some go → H2 s.heap.objs.size = none → H2 a = none → (∀ c, GCell qual scope s.heap.objs.size f cd c → s2.heap.get? c = s'.heap.get? c ∧ H2 c = none) → Same F F2 → Same F2 H2 → TabOk F2 H2 →
      (∀ p ∈ ex, s2.heap.get? p.1 = some p.2 ∧ H2 p.1 = none ∧ p.1 ≠ s.heap.objs.size ∧ p.1 ∉ frs outer ∧ ∀ v, p.2.data ≠ .cell v) →
      Pay (gcxOf P w K mg base N qual scope f cd Aw outer (cutS s2 s.heap.objs.size) H2 XK0 ((a, go) :: ex)) σ0 ρ0 F2 [] →
      Seg (model P w) Aw (LR (consOf P w K mg base N qual scope f cd Aw outer s.heap.objs.size (a :: ex.map (·.1)) Pay Ds)) (LY (consOf P w K mg base N qual scope f cd Aw outer s.heap.objs.size (a :: ex.map (·.1)) Pay Ds)) sizeLine s2 c ((model P w).den c) [] s2
structure LGen (P : Program) (w : World) (K : PySem.W.Frag) (mg : Str → Option Value) (base : Heap) (k : Nat) (f : Addr) (fd : FuncData) (ps : List Str) (nl : Nat) (g : GM) : Prop where
  run : ∀ (A : Around) (outer : List Env) (s : Shared) (H F : Hp) (args : Args) (us : List Value) (vs : List V) (as : DEnv) (Ds : List D) (ρ' : DEnv), Room k A → Env0 P w K mg base A outer s H → BindsTo s fd args (ps.zip us) → Vals vs us → vs.length = ps.length → SR K F H (vs.map some) as → AllD as → (∀ b ∈ frs outer, b < s.heap.objs.size) →
    g [] (as ++ List.replicate nl .un) = .nx Ds ρ' →
    codeAny (model P w) A (.call (.ref f) args) (fun r s' => match r with | .ok (.ret u) => ∃ N qual scope cd, LMade P w K mg base N qual scope f cd k outer F s (start N vs) (as ++ List.replicate nl .un) Ds u s' | _ => False) s
end DL
set_option maxHeartbeats 1000000
/-! GN9: the consumer's side of a turn. -/
namespace DL
open PySem PySem.Spec PyProof.Rows L2 GenW
variable [TabT]
/-- what the consumer does between two turns, seen by the generator -/
structure EvK (Ke : Addr → Prop) (σ : L2.St) (ρ : DEnv) (F H : Hp) (σ' : L2.St) (ρ' : DEnv) (F' H' : Hp) : Prop where
  ext : Same F F'
  keep : ∀ a o, H a = some o → ¬ Ow σ ρ a → ¬ Ke a → NT o → H' a = some o
  newF : ∀ a, F a = none → F' a ≠ none → H a = none ∨ Ow σ ρ a ∨ Ke a
  own' : ∀ a, Ow σ' ρ' a → H a = none ∨ Ow σ ρ a ∨ Ke a
theorem EvK.of {Ke : Addr → Prop} {σ σ1 : L2.St} {ρ ρ1 : DEnv} {F F1 H H1 : Hp} (e : Ev σ ρ F H σ1 ρ1 F1 H1) : EvK Ke σ ρ F H σ1 ρ1 F1 H1 := ⟨e.ext, fun a o h n _ nt => e.keep a o h (fun m => n m.ow) nt, fun a h n => (e.newF a h n).imp id .inl, fun a z => (e.own' a z).imp id .inl⟩
end DL
set_option maxHeartbeats 1000000
/-! GN10: from turn to turn. -/
namespace DL
open PySem PySem.Spec PyProof.Rows L2 GenW
end DL
set_option maxHeartbeats 1000000
/-! GN11: next(g), seen by the consumer. -/
namespace DL
open PySem PySem.Spec PyProof.Rows L2 GenW
end DL
set_option maxHeartbeats 1000000
/-! GN12: what is run while a generator sleeps; its arguments. -/
namespace DL
open PySem PySem.Spec PyProof.Rows L2 GenW
variable [TabT]
/-! ### the arguments: data alone -/
def dSlots : List Val → Option DEnv
  | [] => some []
  | .d x :: xs => match dSlots xs with
    | some as => some (.d x :: as)
    | none => none
  | _ => none
end DL
set_option maxHeartbeats 1000000
/-! GN13: for x in g(..). -/
namespace DL
open PySem PySem.Spec PyProof.Rows L2 GenW
end DL
set_option maxHeartbeats 1000000
/-! GN14: [.. for x in g(..)]: its reading. -/
namespace DL
open PySem PySem.Spec PyProof.Rows L2 GenW
end DL
set_option maxHeartbeats 1000000
/-! GN15: [.. for x in g(..)]. -/
namespace DL
open PySem PySem.Spec PyProof.Rows L2 GenW
end DL
set_option maxHeartbeats 1000000
/-! GN16: a generator def as a source of items, by its reading as a list. -/
namespace DL
open PySem PySem.Spec PyProof.Rows L2 GenW
variable [TabT]
/-! ### levels, cells -/
theorem LMade.mono {P : Program} {w : World} {K : PySem.W.Frag} {mg : Str → Option Value} {base : Heap} {N : List Str} {qual : Str} {scope : Scope} {f : Addr} {cd : Value} {j k : Nat} {outer : List Env} {F : Hp} {s : Shared} {σ0 : L2.St} {ρ0 : DEnv} {Ds : List D} {u : Value} {s' : Shared} (h : j ≤ k) (m : LMade P w K mg base N qual scope f cd j outer F s σ0 ρ0 Ds u s') : LMade P w K mg base N qual scope f cd k outer F s σ0 ρ0 Ds u s' := by
  obtain ⟨a, g, c, go, fo, nm, qn, h1, h2, h3, h4, h5, h6, h7, h8, h9, h10, h11, h12, h13, h14, hS⟩ := m
  exact ⟨a, g, c, go, fo, nm, qn, h1, h2, h3, h4, h5, h6, h7, h8, h9, h10, h11, h12, h13, h14, fun Aw Pay s2 H2 F2 ex hr => hS Aw Pay s2 H2 F2 ex (hr.mono h)⟩
theorem LGen.mono {P : Program} {w : World} {K : PySem.W.Frag} {mg : Str → Option Value} {base : Heap} {j k : Nat} {f : Addr} {fd : FuncData} {ps : List Str} {nl : Nat} {g : GM} (G : LGen P w K mg base j f fd ps nl g) (h : j ≤ k) : LGen P w K mg base k f fd ps nl g := by
  refine ⟨fun A outer s H F args us vs as Ds ρ' hr e0 hb r hl sr ha hf hg => codeAny_mono (G.run A outer s H F args us vs as Ds ρ' (hr.mono h) e0 hb r hl sr ha hf hg) fun r s' hq => ?_⟩
  cases r with
  | error e => exact hq
  | ok fl =>
    cases fl with
    | next => exact hq
    | brk => exact hq
    | cont => exact hq
    | ret u =>
      obtain ⟨N, qual, scope, cd, m⟩ := hq
      exact ⟨N, qual, scope, cd, m.mono h⟩
def iGenF (Fm : FM) (ga : M (List Val)) : IM := fun ρ => (ga ρ).bind fun xs ρ1 => match dSlots xs with
  | some as => (match Fm as with
    | .ret (.fr (.lst ds)) _ => .ok (ds, none) ρ1
    | _ => .bad)
  | none => .bad
/-! ### its reading -/
def LstK (x : Val) (G : List D → Prop) : Prop := ∃ ds, x = .fr (.lst ds) ∧ G ds
theorem b_lstK {ds : List D} {G : List D → Prop} (q : G ds) : LstK (.fr (.lst ds)) G := ⟨ds, rfl, q⟩
def iGenV (Fm : FM) (xs : List Val) : IM := fun ρ1 => match dSlots xs with
  | some as => (match Fm as with
    | .ret (.fr (.lst ds)) _ => .ok (ds, none) ρ1
    | _ => .bad)
  | none => .bad
theorem b_igen {Fm : FM} {ga : M (List Val)} {ρ : DEnv} {QI : Src → DEnv → Prop} {X : Ex → DEnv → Prop} (q : (ga ρ).wp (fun xs ρ1 => (iGenV Fm xs ρ1).wp QI X) X) : (iGenF Fm ga ρ).wp QI X := b_bind q
theorem b_igenV {Fm : FM} {xs : List Val} {as : DEnv} {ρ : DEnv} {QI : Src → DEnv → Prop} {X : Ex → DEnv → Prop} (e : dSlots xs = some as) (q : (Fm as).wp (fun x _ => LstK x fun ds => QI (ds, none) ρ) fun _ _ => False) : (iGenV Fm xs ρ).wp QI X := by
  unfold iGenV
  rw [e]
  dsimp only
  cases hF : Fm as with
  | ret x as2 =>
    rw [hF] at q
    obtain ⟨ds, rfl, q⟩ := q
    exact q
  | ex x as2 => rw [hF] at q; exact q.elim
  | bad => rw [hF] at q; exact q.elim
instance st_igen {Fm : FM} {ga : M (List Val)} {ρ : DEnv} {QI : Src → DEnv → Prop} {X : Ex → DEnv → Prop} : St ((iGenF Fm ga ρ).wp QI X) ((ga ρ).wp (fun xs ρ1 => (iGenV Fm xs ρ1).wp QI X) X) := ⟨b_igen⟩
instance st_lstK {ds : List D} {G : List D → Prop} : St (LstK (.fr (.lst ds)) G) (G ds) := ⟨b_lstK⟩
end DL
/-! DL50: a lambda of one parameter: made, called. -/
namespace DL
open PySem PySem.Spec PyProof.Rows L2 LamX
/-- one parameter, p; the other names captured or global -/
structure LamP (sc scope : Scope) (p : Str) : Prop where
  kind : scope.kind = .function
  co : scope.isCoroutine = false
  gen : scope.isGenerator = false
  own : ∀ y ∈ scope.names, y.2 ≠ .cell ∧ (y.2 = .local → y.1 = p)
  par : scope.names.lookup p = some .local
  free : ∀ y ∈ scope.names, y.2 = .free → sc.names.lookup y.1 = some .cell ∨ sc.names.lookup y.1 = some .free
  noE : scope.names.lookup ("" : Str) = none
theorem LamP.has {X : Cx} {scope : Scope} {p : Str} (L : LamP X.env.scope scope p) (ok : X.Ok) : ∀ y ∈ scope.names, y.2 = .free → ∃ c, X.env.cells.lookup y.1 = some c := fun y hy e => by
  rcases L.free y hy e with k | k
  · exact ok.has _ (.inl k)
  · exact ok.has _ (.inr k)
end DL
/-! DL51: sorted(xs, key=f): whatever f's calls keep (J). -/
namespace DL
open PySem PySem.Spec PyProof.Rows L2 LamX PySem.W
end DL
/-! DL52: sorted(xs, key=lambda p: body). -/
namespace DL
open PySem PySem.Spec PyProof.Rows L2 LamX
end DL
/-! DL53: sorted(xs, key=lambda p: body), read. -/
namespace DL
open PySem PySem.Spec PyProof.Rows L2 LamX
end DL
/-! DL54: the rule for sorted(e, key=lambda p: body). -/
namespace DL
open PySem PySem.Spec PyProof.Rows L2 LamX
variable [TabT]
theorem tab_ne {F H : Hp} {P b : Addr} {q : Str} {o : HO} (t : TabOk F H) (hm : (P, q) ∈ TabT.T) (e : H b = some o) (n : NT o) : b ≠ P := fun z => by
  obtain ⟨ps, h1, _⟩ := t.tabs _ hm
  rw [z] at e
  have h1 : H P = some (.tbl ps) := h1
  rw [h1] at e
  exact n ps (Option.some.inj e).symm
theorem sr_made {K : PySem.W.Frag} {σ : L2.St} {ρ : DEnv} {F H H2 : Hp} {P : Addr} {q : Str} (sr : SR K F H σ ρ) (hm : (P, q) ∈ TabT.T) (k : ∀ b o, b ≠ P → H b = some o → H2 b = some o) (d : ∀ b, H b ≠ none → H2 b ≠ none) (T2 : Tabs TabT.T H2) :
    SR K F H2 σ ρ ∧ Ev σ ρ F H σ ρ F H2 := by
  have hF : ∀ b o, F b = some o → b ≠ P := fun b o e z => by
    have := sr.tab.out _ hm
    rw [z] at e
    have this : F P = none := this
    rw [this] at e
    cases e
  refine ⟨⟨sr.len, fun b o e => k b o (hF b o e) (sr.sub _ _ e), fun i s e => ?_, sr.dist, ⟨T2, sr.tab.out, sr.tab.base⟩⟩, ⟨.refl _, fun a o e _ nt => k a o (tab_ne sr.tab hm e nt) e, fun _ e n => absurd e n, d, fun i c m e _ => ⟨rfl, c, e, fun _ => rfl⟩, fun _ h => .inr h, fun _ h => .inr h⟩⟩
  obtain ⟨ov, h1, h2⟩ := sr.slot i s e
  refine ⟨ov, h1, ?_⟩
  cases s with
  | un => trivial
  | d x => exact h2
  | ow c m =>
    obtain ⟨a, e1, fa, cr⟩ := h2
    obtain ⟨o, ho⟩ := cr.some
    exact ⟨a, e1, fa, cr.mono (.of (.refl _)) ((k a o (tab_ne sr.tab hm ho (CRep.nt ho cr)) ho).trans ho.symm)⟩
end DL
/-! DL55: a def whose code object is known; list.remove; the law's end with tables of code objects. -/
namespace DL
open PySem PySem.Spec PyProof.Rows L2 LamX
section
variable [TabT]
theorem gfn_ofC {Γ : Around → Prop} {P : Program} {w : World} {K : PySem.W.Frag} {mg : Str → Option Value} {base : Heap} {k : Nat} {x qual : Str} {st : Stmt} {f : Addr} {fd : FuncData} {N ps : List Str} {g : SM} (Fu : Fun K x qual st f fd) (S : FnScope N ps (defScope st)) (nl : Nat) (hNl : N.length = ps.length + nl)
    (hbody : ∀ (cdv : Value) (A : Around) (outer : List Env) (s : Shared) (H : Hp) (E : XK), fd.code = cdv → Room k (A.deeper (envOfC qual (defScope st) s.heap.objs.size f cdv)) → Γ (A.deeper (envOfC qual (defScope st) s.heap.objs.size f cdv)) →
      DSs (cxOf (L2.CX P w) P w K mg base N qual (defScope st) f cdv A outer s H E) (fun c d _ H' => E c d H') (defBody st) g) (hΓ : ∀ A env, Γ A → Γ (A.deeper env) := by intro A env h; exact h) : GFnG Γ P w K mg base (k + 1) f fd ps (fnD ps.length nl g) := by
  obtain ⟨oc, od, kV, doc, pm, an, cdv, ct, osl, rfl, lk, hcd⟩ := Fu.ex
  refine ⟨fun A outer s H args us vs Q E hr hG e0 hb r hsp => ?_⟩
  have hl : vs.length = ps.length := sp_len hsp
  obtain ⟨F, as, sr, hla, out⟩ := hsp
  have KX : K.In s.heap := e0.mod.kin.keeps fun b o e => (e0.bs b o e).1
  have lim : s.heap.NoLimit := e0.mod.nolimit.keeps fun b o e => (e0.bs b o e).1
  have hkind : ∀ y ∈ ps.zip us, (defScope st).names.lookup y.1 = some .local ∨ ((defScope st).names.lookup y.1 = some .cell ∧ ((cellsFrom (s.heap.objs.size + 1) (defScope st).names []).lookup y.1).isSome = true) := fun ⟨n, v⟩ hy => (S.par n (List.of_mem_zip hy).1).imp id fun q => ⟨q, PySem.W.cellsFrom_some _ _ _ (.inl q)⟩
  refine codeAny_call_function hr.depth (KX _ _ lk) rfl S.co S.gen rfl (PySem.W.codeRec_of KX hcd) (hb _ _ _ _ (wpAny_newFunctionEnv_cells S.kind hkind fun env he s1 y => ?_))
  subst he
  refine ⟨lim.keeps y.toInCall.keep, codeAny_func ?_⟩
  have I : Inv (cxOf (L2.CX P w) P w K mg base N qual (defScope st) f cdv A outer s H E) [] (L2.start N vs) H s1 := inv_start S hr.hd e0 hl r y
  have hN' : N.length = vs.length + nl := by rw [hl]; exact hNl
  have sr' : SR K F H (L2.start N vs) (as ++ List.replicate nl .un) := sr_start sr hN'
  have reading : tS K mg (fun c d _ H' => E c d H') g { nx := fun _ H' => Q .non H', rt := Q } (L2.start N vs) H := by
    refine ⟨F, _, sr', ?_⟩
    unfold fnD at out
    rw [if_pos hla] at out
    cases hg : g (as ++ List.replicate nl .un) with
    | nx ρ' => rw [hg] at out; exact fun σ' F' H' s' ev => leave_ok sr s' ev (x := .d .non) (v := .non) Rep.non out
    | rt x ρ' => rw [hg] at out; exact fun v σ' F' H' s' ev rv => leave_ok sr s' ev rv out
    | ex x ρ' =>
      rw [hg] at out
      exact fun c d σ' F' H' s' ev rv => let ⟨s2, ev2⟩ := finish_ok sr s' ev; out c d F' H' s2 ev2 rv
    | bk ρ' => rw [hg] at out; exact out.elim
    | ct ρ' => rw [hg] at out; exact out.elim
    | bad => rw [hg] at out; exact out.elim
  refine wpAny_mono ((hbody cdv A outer s H E rfl (hr.deeper _) (hΓ _ _ hG)).run [] s1 _ H _ I reading) (fun fl s' hs => ?_) fun e s' hs => hs
  have fin : ∀ {σ' : L2.St} {H' : Hp} {v : V} {u : Value}, Inv (cxOf (L2.CX P w) P w K mg base N qual (defScope st) f cdv A outer s H E) [] σ' H' s' → RelV v u → Q v H' → CE outer P w H s Q u s' := fun {σ' H' v u} J rv q => ⟨v, H', J.os, J.bare, J.base, J.hok, rv, q⟩
  cases fl with
  | ret u => obtain ⟨v, σ', H', J, rv, q⟩ := hs; exact fin J rv q
  | next => obtain ⟨σ', H', J, q⟩ := hs; exact fin (v := V.non) (u := Value.none) J rfl q
  | brk => obtain ⟨_, _, _, q⟩ := hs; exact q.elim
  | cont => obtain ⟨_, _, _, q⟩ := hs; exact q.elim
end
section
variable {P : Program} {w : World} {K : PySem.W.Frag} {mg mb : Str → Option Value} {k : Nat} {fa a : Addr} {fd : FuncData} {x : Str} {Fm : FM} {s1 : Shared} {vs : List Value} {ns : List Int}
/-- cs: the code objects, their tables, the names of the lambdas -/
abbrev tabsF (cs : List (Addr × Addr × Str)) (mg : Str → Option Value) (FB : Hp) : TabT := { mg := mg, T := cs.map fun p => p.2, FB := FB }
abbrev tabsOf (cs : List (Addr × Addr × Str)) (mg : Str → Option Value) : TabT := tabsF cs mg fun _ => none
theorem law_coreT {H : Hp} {cs : List (Addr × Addr × Str)} (KX : K.In s1.heap) (hns : s1.heap.Ns mainGlobals mg) (hb : s1.heap.Ns builtinsNs mb) (hbb : ∀ x : Str, x ≠ "__name__" → mb x = bootBuiltins x) (hlim : s1.heap.NoLimit) (hg : s1.gens = #[])
    (hT : ∀ p ∈ cs, s1.heap.get? p.2.1 = some { cls := .none, data := .fields #[] }) (nT : ∀ p ∈ cs, K.lookup p.2.1 = none) (C : ∀ p ∈ cs, PySem.W.CodeHd s1.heap p.1 p.2.1)
    (hbm : ∃ (bm : Addr) (ob : Obj), mg "__builtins__" = some (.ref bm) ∧ bm ≠ builtinsNs ∧ s1.heap.get? bm = some ob ∧ ob.cls = .type "module" ∧ ob.dict = some builtinsNs ∧ ob.data = .plain)
    (ha : s1.heap.get? a = some { cls := .type "list", data := .seq vs.toArray }) (hr : Room k callerA)
    (G : ∀ base : Heap, K.In base → base.Ns mainGlobals mg → (∀ p ∈ cs, TabB base mg p.1 p.2.1) → (letI : TabT := tabsOf cs mg; GFn P w K mg base k fa fd [x] Fm)) (hbind : ∀ (s : Shared) (u : Value), BindsTo s fd ⟨[u], []⟩ [(x, u)])
    (aT : ∀ p ∈ cs, p.2.1 ≠ a) (hS : SqL K H a (ns.map V.int)) (hok : HOk P w H s1.heap) (hA : ∀ b, H b ≠ none → b = a ∨ ∃ p ∈ cs, b = p.2.1) (hH : ∀ p ∈ cs, H p.2.1 = some (.tbl #[])) (hfz : ∀ u, H a = some u → ∃ ob xs, u = .frz ob (.lst xs)) (hK : H a ≠ none → K.lookup a = none)
    (sem : ∃ as', Fm [.d (.scr ns)] = .ret (.d (.bl true)) as') :
    codeAny (model P w) callerA (.call (.ref fa) ⟨[.ref a], []⟩) (fun r s' => r = .ok (.ret (.bool true)) ∧ OldK s1.heap s'.heap ∧ s'.os = s1.os ∧ AllBare s'.gens) s1 := by
  letI : TabT := tabsOf cs mg
  have nd : ∀ {b : Addr} {o : Obj}, s1.heap.get? b = some o → (∀ vs n, o.data ≠ .seq vs n) → o.data ≠ .fields #[] → H b = none := fun {b o} e h1 h2 => by
    cases q : H b with
    | none => rfl
    | some u =>
      rcases hA b (by rw [q]; simp) with z | ⟨p, hp, z⟩
      · rw [z, ha] at e
        cases e
        exact (h1 _ _ rfl).elim
      · rw [z, hT p hp] at e
        cases e
        exact (h2 rfl).elim
  have base_of : ∀ {b : Addr} {o : Obj}, s1.heap.get? b = some o → H b = none → (hidT s1.heap H).get? b = some o := fun e n => hidT_get e n
  have nsT : ∀ {b : Addr} {m : Str → Option Value}, s1.heap.Ns b m → (hidT s1.heap H).Ns b m := fun {b m} ⟨o, es, ep, e, d, r⟩ => ⟨o, es, ep, base_of e (nd e (fun vs n z => by rw [d] at z; cases z) fun z => by rw [d] at z; cases z), d, r⟩
  have kT : K.In (hidT s1.heap H) := fun b o e => base_of (KX b o e) (by
    cases q : H b with
    | none => rfl
    | some u =>
      rcases hA b (by rw [q]; simp) with z | ⟨p, hp, z⟩
      · subst z
        rw [hK (by rw [q]; simp)] at e
        cases e
      · rw [z, nT p hp] at e
        cases e)
  obtain ⟨mc, h1, h2⟩ := hlim
  have M : L2.Mod K mg (hidT s1.heap H) := ⟨kT, nsT hns, ⟨mb, nsT hb, hbb⟩, ⟨mc, nsT h1, h2⟩⟩
  have TB : ∀ p ∈ cs, TabB (hidT s1.heap H) mg p.1 p.2.1 := fun p hp => by
    have hTp := hT p hp
    refine ⟨?_, ?_, fun z => ?_⟩
    · obtain ⟨o, us, file, tf, flags, tg, inF, text, tt, e1, r1, r2, r3, r4, r5, r6, r7, r8, hne⟩ := C p hp
      refine ⟨o, us, file, tf, flags, tg, inF, text, tt, base_of e1 (nd e1 (fun vs n z => ?_) fun z => ?_), r1, r2, r3, r4, r5, r6, r7, r8, hne⟩
      · rw [r2] at z
        cases z
      · rw [r2] at z
        cases z
        simp at r3
    · obtain ⟨bm, ob, b1, b2, b3, b4, b5, b6⟩ := hbm
      refine ⟨bm, ob, b1, b2, fun q => ?_, fun q => ?_, base_of b3 (nd b3 (fun vs n z => ?_) fun z => ?_), b4, b5, b6⟩
      · obtain ⟨o, es, ep, e, hd, _⟩ := hns
        rw [q, e] at b3
        cases b3
        rw [hd] at b6
        cases b6
      · rw [q, hTp] at b3
        cases b3
        cases b6
      · rw [b6] at z
        cases z
      · rw [b6] at z
        cases z
    · obtain ⟨o, es, ep, e, hd, _⟩ := hns
      rw [z, hTp] at e
      cases e
      cases hd
  have E0 : Env0 P w K mg (hidT s1.heap H) callerA [] s1 H := ⟨rfl, M, fun b o e => of_hidT e, Nat.le_of_eq (hidT_size _ _), trivial, (fun b z => nomatch (show b ∈ ([] : List Addr) from z)), hok, .of_eq hg⟩
  have sp : spD K mg 1 Fm [.ref a] H (fun v _ => v = .bl true) (fun _ _ _ => False) := by
    obtain ⟨as', e⟩ := sem
    let F : Hp := fun b => if b = a then H b else none
    have Fa : F a = H a := if_pos rfl
    have Fs : Same F H := fun b u q => by
      by_cases z : b = a
      · rw [z] at q ⊢; rw [← Fa]; exact q
      · have q' : (none : Option HO) = some u := (if_neg z).symm.trans q
        cases q'
    refine ⟨F, [.d (.scr ns)], ⟨rfl, Fs, fun i s q => ?_, fun i j c m c' m' b q => ?_, ⟨fun p hp => ?_, fun p hp => ?_, fun _ _ e => nomatch e⟩⟩, rfl, ?_⟩
    · cases i with
      | zero =>
        cases q
        refine ⟨some (.ref a), rfl, .ref a, rfl, .scr ?_⟩
        rcases hS with (z | ⟨o, z⟩) | z
        · exact .inl (.inl (Fa.trans z))
        · exact .inl (.inr ⟨o, Fa.trans z⟩)
        · exact .inr z
      | succ i => simp at q
    · cases i with
      | zero => cases q
      | succ i => simp at q
    · obtain ⟨q, hq, rfl⟩ := List.mem_map.mp hp
      exact TabS.nil (hH q hq)
    · obtain ⟨q, hq, rfl⟩ := List.mem_map.mp hp
      exact if_neg (aT q hq)
    · rw [e]
      intro v F' H' _ _ r
      have r : Rep K F' v (.bl true) := r
      cases r
      rfl
  refine codeAny_mono ((G _ kT (nsT hns) TB).run callerA [] s1 H ⟨[.ref a], []⟩ [.ref a] [.ref a] _ _ hr rfl E0 (hbind s1 (.ref a)) (.cons rfl .nil) sp) fun r s' h => ?_
  cases r with
  | error e =>
    obtain ⟨_, _, _, _, _, _, _, _, _, _, _, _, z⟩ := h
    exact z.elim
  | ok fl =>
    cases fl with
    | next => exact h.elim
    | brk => exact h.elim
    | cont => exact h.elim
    | ret u =>
      obtain ⟨v, H', os, bare, un, hok', rv, q⟩ := h
      have q : v = .bl true := q
      subst q
      have rv : u = Value.bool true := rv
      subst rv
      have key : ∀ b o, (∀ p ∈ cs, b ≠ p.2.1) → s1.heap.get? b = some o → s'.heap.get? b = some o := fun b o nb e => by
        cases q : H b with
        | none => exact un.keep b o e q (by exact fun z => nomatch (show b ∈ ([] : List Addr) from z)) (by simp)
        | some u =>
          rcases hA b (by rw [q]; simp) with z | ⟨p, hp, z⟩
          · subst z
            obtain ⟨ob, xs, rfl⟩ := hfz u q
            obtain ⟨e1, _⟩ := hok _ _ q
            obtain ⟨e2, _⟩ := hok' _ _ (un.frzs _ ob _ q)
            rw [e] at e1; cases e1
            exact e2
          · exact absurd z (nb p hp)
      have grown : ∀ p ∈ cs, ∃ more : Array Value, s'.heap.get? p.2.1 = some { cls := .none, data := .fields more } := fun p hp => by
        obtain ⟨more, z⟩ := un.tbls p.2.1 #[] (hH p hp)
        exact ⟨_, hok' p.2.1 _ z⟩
      refine ⟨rfl, ⟨fun b o e => ?_, fun b o e => ?_⟩, os, bare⟩
      · by_cases hb : ∃ p ∈ cs, b = p.2.1
        · obtain ⟨p, hp, ep⟩ := hb
          obtain ⟨more, hm⟩ := grown p hp
          rw [ep] at e ⊢
          rw [hT p hp] at e
          cases e
          exact .inr (.inl ⟨((C p hp).tab (hT p hp)).isCodeTable, rfl, #[], more, rfl, by rw [Array.empty_append]; exact hm⟩)
        · exact .inl (key b o (fun p hp z => hb ⟨p, hp, z⟩) e)
      · by_cases hb : ∃ p ∈ cs, b = p.2.1
        · obtain ⟨p, hp, ep⟩ := hb
          obtain ⟨more, hm⟩ := grown p hp
          rw [ep]
          exact ⟨_, hm⟩
        · exact ⟨o, key b o (fun p hp z => hb ⟨p, hp, z⟩) e⟩
theorem law_endT {cs : List (Addr × Addr × Str)} (KX : K.In s1.heap) (hns : s1.heap.Ns mainGlobals mg) (hb : s1.heap.Ns builtinsNs mb) (hbb : ∀ x : Str, x ≠ "__name__" → mb x = bootBuiltins x) (hlim : s1.heap.NoLimit) (hg : s1.gens = #[])
    (hT : ∀ p ∈ cs, s1.heap.get? p.2.1 = some { cls := .none, data := .fields #[] }) (nT : ∀ p ∈ cs, K.lookup p.2.1 = none) (C : ∀ p ∈ cs, PySem.W.CodeHd s1.heap p.1 p.2.1)
    (hbm : ∃ (bm : Addr) (ob : Obj), mg "__builtins__" = some (.ref bm) ∧ bm ≠ builtinsNs ∧ s1.heap.get? bm = some ob ∧ ob.cls = .type "module" ∧ ob.dict = some builtinsNs ∧ ob.data = .plain)
    (ha : s1.heap.get? a = some { cls := .type "list", data := .seq vs.toArray }) (hi : IntsAre vs ns) (hl : ns.length ≤ sizeLine) (hr : Room k callerA)
    (G : ∀ base : Heap, K.In base → base.Ns mainGlobals mg → (∀ p ∈ cs, TabB base mg p.1 p.2.1) → (letI : TabT := tabsOf cs mg; GFn P w K mg base k fa fd [x] Fm)) (hbind : ∀ (s : Shared) (u : Value), BindsTo s fd ⟨[u], []⟩ [(x, u)])
    (sem : ∃ as', Fm [.d (.scr ns)] = .ret (.d (.bl true)) as') :
    codeAny (model P w) callerA (.call (.ref fa) ⟨[.ref a], []⟩) (fun r s' => r = .ok (.ret (.bool true)) ∧ OldK s1.heap s'.heap ∧ s'.os = s1.os ∧ AllBare s'.gens) s1 := by
  have rv := vals_ints hi
  have lenV := hi.length
  have aT : ∀ p ∈ cs, p.2.1 ≠ a := fun p hp z => by
    have q := hT p hp
    rw [z, ha] at q
    have z' : Data.seq vs.toArray _ = Data.fields #[] := congrArg Obj.data (Option.some.inj q)
    cases z'
  have memT : ∀ p ∈ cs, p.2.1 ∈ cs.map (fun p => p.2.1) := fun p hp => List.mem_map.mpr ⟨p, hp, rfl⟩
  have aM : a ∉ cs.map (fun p => p.2.1) := fun z => by
    obtain ⟨p, hp, e⟩ := List.mem_map.mp z
    exact aT p hp e
  cases hk : K.lookup a with
  | some o =>
    have e := KX a o hk
    rw [ha] at e
    cases e
    refine law_coreT (H := fun b => if b ∈ cs.map (fun p => p.2.1) then some (.tbl #[]) else none) KX hns hb hbb hlim hg hT nT C hbm ha hr G hbind aT (.inr ⟨_, vs.toArray, _, hk, rfl, rfl, rfl, by rw [List.size_toArray, lenV]; exact hl, by simpa using rv⟩) (fun b u z => ?_) (fun b z => ?_) (fun p hp => if_pos (memT p hp)) (fun u z => ?_) (fun z => absurd (if_neg aM) z) sem
    · by_cases h1 : b ∈ cs.map (fun p => p.2.1)
      · have z' := (if_pos h1).symm.trans z
        cases z'
        obtain ⟨p, hp, e⟩ := List.mem_map.mp h1
        rw [← e]
        exact hT p hp
      · have z' := (if_neg h1).symm.trans z
        cases z'
    · by_cases h1 : b ∈ cs.map (fun p => p.2.1)
      · obtain ⟨p, hp, e⟩ := List.mem_map.mp h1
        exact .inr ⟨p, hp, e.symm⟩
      · exact absurd (if_neg h1) z
    · have z' := (if_neg aM).symm.trans z
      cases z'
  | none =>
    refine law_coreT (H := fun b => if b = a then some (.frz { cls := .type "list", data := .seq vs.toArray } (.lst (ns.map V.int))) else if b ∈ cs.map (fun p => p.2.1) then some (.tbl #[]) else none) KX hns hb hbb hlim hg hT nT C hbm ha hr G hbind aT (.inl (.inr ⟨{ cls := .type "list", data := .seq vs.toArray }, if_pos rfl⟩)) (fun b u z => ?_) (fun b z => ?_)
      (fun p hp => (if_neg (aT p hp)).trans (if_pos (memT p hp))) (fun u z => ?_) (fun _ => hk) sem
    · by_cases h0 : b = a
      · have z' := (if_pos h0).symm.trans z
        cases z'
        rw [h0]
        exact ⟨ha, by rw [List.length_map]; exact hl, vs, _, rv, ha⟩
      · have z1 := (if_neg h0).symm.trans z
        by_cases h1 : b ∈ cs.map (fun p => p.2.1)
        · have z' := (if_pos h1).symm.trans z1
          cases z'
          obtain ⟨p, hp, e⟩ := List.mem_map.mp h1
          rw [← e]
          exact hT p hp
        · have z' := (if_neg h1).symm.trans z1
          cases z'
    · by_cases h0 : b = a
      · exact .inl h0
      · by_cases h1 : b ∈ cs.map (fun p => p.2.1)
        · obtain ⟨p, hp, e⟩ := List.mem_map.mp h1
          exact .inr ⟨p, hp, e.symm⟩
        · exact absurd ((if_neg h0).trans (if_neg h1)) z
    · have z' := (if_pos rfl).symm.trans z
      cases z'
      exact ⟨_, _, rfl⟩
end
/-- the goal that k_head leaves, from the law's promise; the lambdas' code objects and tables are cs -/
theorem walk_gfnT {l : PySem.W.OpenLaw} {n k : Nat} {q : Program} {loose : List Str} {XP : (Str → Option Value) → Heap → Prop} {YP : World → Heap → Prop} {d : DefRec} {K : Params → PySem.W.Frag} {x : Str} {Fm : FM} (cs : List (Addr × Addr × Str)) (hn : l.most = some n) (hn2 : n ≤ sizeLine) (hdf : d.params.defaults = []) (hr : Room k callerA)
    (hY : ∀ (w : World) (h : Heap), YP w h → (K w.params).In h) (hT : ∀ (w : World) (h : Heap), YP w h → ∀ p ∈ cs, h.get? p.2.1 = some { cls := .none, data := .fields #[] }) (nT : ∀ w : World, ∀ p ∈ cs, (K w.params).lookup p.2.1 = none) (C : ∀ (w : World) (h : Heap), (K w.params).In h → ∀ p ∈ cs, PySem.W.CodeHd h p.1 p.2.1)
    (G : ∀ (w : World) (mg : Str → Option Value) (fa : Addr) (h : Heap), (K w.params).In h → h.Ns mainGlobals mg → mg d.name = some (.ref fa) → ∃ fd : FuncData, (∀ (s : Shared) (u : Value), BindsTo s fd ⟨[u], []⟩ [(x, u)]) ∧ ∀ base : Heap, (K w.params).In base → base.Ns mainGlobals mg → (∀ p ∈ cs, TabB base mg p.1 p.2.1) → (letI : TabT := tabsOf cs mg; GFn l.prog w (K w.params) mg base k fa fd [x] Fm))
    (sem : ∀ ns : List Int, ns.length ≤ n → ∃ as', Fm [.d (.scr ns)] = .ret (.d (.bl true)) as') :
    PySem.W.WalkO q loose XP YP l.row.toRowW d [] (fun f vs => PySem.call f vs) := by
  refine Att.attach_call hn hdf fun w s0 s1 mg mb fa o pm cd doc a vs ns Gr Y ho hd hcd hmg hobj hints hlen hg => ?_
  have KX := hY w _ Y
  obtain ⟨fd, hb, hF⟩ := G w mg fa _ KX Gr.T.g hmg
  exact law_endT KX Gr.T.g Gr.T.b Gr.T.builtins Gr.T.nolimit hg (hT w _ Y) (nT w) (C w _ KX) Gr.T.bmain hobj hints (Nat.le_trans hlen hn2) hr hF hb (sem ns hlen)
end DL
/-! DL56: list(d), d a dict that the slot owns. -/
namespace DL
open PySem PySem.Spec PyProof.Rows L2
/-! reading rules -/
end DL
/-! DL57: reading sorted(e, key=..). -/
namespace DL
open PySem PySem.Spec PyProof.Rows L2
end DL
/-! DL58: sorted of a list of tuples of any data. -/
namespace DL
open PySem PySem.Spec PyProof.Rows L2
end DL
set_option maxHeartbeats 1000000
/-! DL59: a caught exception stands in the abstract heap; try with except clauses, with names and without. -/
namespace DL
open PySem PySem.Spec PyProof.Rows L2
theorem xoO_ok {P : Program} {w : World} {H : Hp} {h : Heap} {a : Addr} {cls : Value} {d : Addr} {oe : Obj} {vs : Array Value} (e : h.get? a = some oe) (h1 : oe.cls = cls) (h2 : oe.dict = some d) (h3 : oe.data = .fields vs) : ObjOk P w H h a (xoO a cls d) :=
  ⟨⟨oe, vs, e, h1, h2, h3⟩, ⟨_, e⟩, fun h1 h2 z k => by
    obtain ⟨o, v, q, r⟩ := z
    exact ⟨o, v, k _ q, r⟩⟩
theorem xoO_at {P : Program} {w : World} {H : Hp} {h : Heap} {a : Addr} {cls : Value} {d : Addr} (hok : HOk P w H h) (he : H a = some (xoO a cls d)) : ∃ (oe : Obj) (vs : Array Value), h.get? a = some oe ∧ oe.cls = cls ∧ oe.dict = some d ∧ oe.data = .fields vs := by
  have x : ObjOk P w H h a (.ext fun h => ∃ (oe : Obj) (vs : Array Value), h.get? a = some oe ∧ oe.cls = cls ∧ oe.dict = some d ∧ oe.data = .fields vs) := hok a _ he
  exact x.1
section
variable {X : Cx} {pins : List (Addr × Obj)} {σ : L2.St} {H : Hp} {s : Shared}
/-- an object of the heap that nothing tells of yet -/
theorem inv_adopt {a : Addr} {o : HO} (I : Inv X pins σ H s) (ho : ∀ H', ObjOk X.prog X.w H' s.heap a o) (na : H a = none) (nL : a ≠ X.env.locals) (nB : X.s_0.heap.get? a = none) (nC : ∀ x c, X.env.cells.lookup x = some c → c ≠ a) (nP : ∀ p ∈ X.pn ++ pins, p.1 ≠ a) : Inv X pins σ (upd H a o) s := by
  have ne : ∀ {b : Addr} {u : HO}, H b = some u → b ≠ a := fun {b u} e z => by rw [z, na] at e; cases e
  refine ⟨I.ok, I.os, I.bare, ⟨I.base.keep, I.base.slot, fun b u e n hx => ?_, I.base.there, fun b xs e => ?_, fun b u v e => ?_, fun b ps e => ?_⟩, I.loc, I.cell, by rw [upd_ne (Ne.symm nL)]; exact I.free, fun x c e => by rw [upd_ne (nC x c e)]; exact I.freeC x c e, fun p hp => ?_, fun b u e => ?_, I.len⟩
  · rw [upd_ne fun z => by rw [z, nB] at e; cases e]
    exact I.base.free b u e n hx
  · have := I.base.tups b xs e
    rw [upd_ne (ne this)]; exact this
  · have := I.base.frzs b u v e
    rw [upd_ne (ne this)]; exact this
  · obtain ⟨m, q⟩ := I.base.tbls b ps e
    exact ⟨m, by rw [upd_ne (ne q)]; exact q⟩
  · obtain ⟨e, n, n1, n2, n3⟩ := I.pin p hp
    exact ⟨e, by rw [upd_ne (nP p hp)]; exact n, n1, n2, n3⟩
  · by_cases z : b = a
    · subst z
      rw [upd_same] at e
      cases e
      exact ho _
    · rw [upd_ne z] at e
      exact (I.hok b u e).stay (fun _ _ _ q => q) (fun c hc => by rw [upd_ne (ne hc)]; exact hc) fun c xs hc => by rw [upd_ne (ne hc)]; exact hc
theorem inv_suite (I : Inv X pins σ H s) (a : Addr) : Inv (X.suite a (X.pn ++ pins)) [] σ H s :=
  ⟨I.ok.suite _ _, I.os, I.bare, I.base, I.loc, I.cell, I.free, I.freeC, fun p hp => I.pin p (by rw [List.append_nil] at hp; exact hp), I.hok, I.len⟩
theorem inv_unsuite {a : Addr} {pn' : List (Addr × Obj)} (I : Inv (X.suite a (X.pn ++ pins)) pn' σ H s) (ok : X.Ok) : Inv X pins σ H s :=
  ⟨ok, I.os, I.bare, I.base, I.loc, I.cell, I.free, I.freeC, fun p hp => I.pin p (List.mem_append_left _ hp), I.hok, I.len⟩
end
/-- the end of a clause 'as n', n's slot being i -/
def endAs (i : Nat) (D : Ends) : Ends := { nx := fun σ' H' => D.nx (σ'.set i none) H', rt := D.rt, bk := fun σ' H' => D.bk (σ'.set i none) H', ct := fun σ' H' => D.ct (σ'.set i none) H' }
/-- what the clauses wish of an exception of the body -/
def wCl (K : PySem.W.Frag) (Wout : WX) (D : Ends) : List (Value × Option Nat × TS) → WX
  | [] => Wout
  | (c, none, ts) :: r => fun cls d σ H => ∃ b, PySem.W.exmOne K cls c = some b ∧ (b = true → ts D σ H) ∧ (b = false → wCl K Wout D r cls d σ H)
  | (c, some i, ts) :: r => fun cls d σ H => ∃ b, PySem.W.exmOne K cls c = some b ∧ (b = true → ∃ dd, d = some dd ∧ ∀ a, H a = none → ts (endAs i D) (σ.set i (some (.ref a))) (upd H a (xoO a cls dd))) ∧ (b = false → wCl K Wout D r cls d σ H)
inductive ClOk (X : Cx) : List ExceptHandler → List (Value × Option Nat × TS) → Prop
  | nil : ClOk X [] []
  | only {x : Str} {c : Value} {ts : TS} {b₀ : Stmt} {suite : List Stmt} {np pos' : Pos} {hds : List ExceptHandler} {l : List (Value × Option Nat × TS)} (hc : Names X x c)
      (hsu : ∀ (a : Addr) (pn : List (Addr × Obj)), PSs (X.suite a pn) (b₀ :: suite) ts) (r : ClOk X hds l) : ClOk X (.ExceptHandler (some (.Name x np)) none (b₀ :: suite) pos' :: hds) ((c, none, ts) :: l)
  | named {x n : Str} {i : Nat} {c : Value} {ts : TS} {b₀ : Stmt} {suite : List Stmt} {np pos' : Pos} {hds : List ExceptHandler} {l : List (Value × Option Nat × TS)} (hc : Names X x c) (hN : X.N.Nodup) (hi : X.N[i]? = some n) (hln : X.env.kindOf n = some .local)
      (hsu : ∀ (a : Addr) (pn : List (Addr × Obj)), PSs (X.suite a pn) (b₀ :: suite) ts) (r : ClOk X hds l) : ClOk X (.ExceptHandler (some (.Name x np)) (some n) (b₀ :: suite) pos' :: hds) ((c, some i, ts) :: l)
section
variable {X : Cx} {body : List Stmt} {h₀ : ExceptHandler} {hds : List ExceptHandler} {l : List (Value × Option Nat × TS)} {pos : Pos} {tb : WX → TS} {Wout : WX}
theorem ps_try_cl (hs : X.stack = X.env :: X.outer) (hf : X.env.frame = some X.env.locals) (hex : X.ex = []) (tk : Takes X Wout)
    (hb : ∀ (W : WX) (pn : List (Addr × Obj)) (xe : Value → Shared → Prop), Takes (X.tr pn xe) W → PassesOwn (model X.prog X.w) X.A X.env xe → PSs (X.tr pn xe) body (tb W))
    (hh : ClOk X (h₀ :: hds) l) : PS X (.Try body (h₀ :: hds) [] [] pos) (fun D σ H => tb (wCl X.K Wout D l) D σ H) := by
  refine ⟨fun pins s σ H D I h => ?_⟩
  have ok := I.ok
  have hfr : X.A.frames = some (X.env :: X.outer) := by rw [ok.frames, hs]
  refine wpAny_Try_except ?_
  refine wpAny_mono ((hb (wCl X.K Wout D l) (X.pn ++ pins) (fun e s₁ => wpAny (model X.prog X.w) X.A (noteFrame e X.env) (fun _ s₂ => wpAny (model X.prog X.w) X.A (setFlight e none) (fun _ s₃ =>
    wpAny (model X.prog X.w) X.A (handleBy e X.env (h₀ :: hds)) (SP X pins D) X.xe s₃) X.xe s₂) X.xe s₁) (fun u s' xx => ?_) PassesOwn.looking).run [] s σ H D (I.toTry _) h) (fun f s1 hsp => ?_) (fun e s1 he => he)
  · -- the catch
    obtain ⟨a, B, sI, pins', σ', H', cls, d, rfl, J', nb, up, sky, na, os, ag, w⟩ := xx
    have J : Inv X pins σ' H' sI := J'.ofTry ok
    have sky' : Sky B (X.env :: X.outer) a (Zc cls d) X.env.locals s'.heap := by rw [← hs]; exact sky
    show wpAny (model X.prog X.w) X.A (noteFrame (.ref a) X.env) _ _ _
    refine Sky.land Zc.steady hfr hf sky' fun h3 fl3 up3 => ?_
    have J3 : Inv X pins σ' H' { s' with heap := h3 } := J.landed nb fl3.1 (up.trans up3) os ag
    obtain ⟨oe3, vs3, he3, hz3, hd3⟩ := fl3.there
    have notFr : ∀ {h : Heap} {o : Obj} {vs : Array Value}, h.FunFrames B (X.env :: X.outer) → h.get? a = some o → o.data = .fields vs → a ∉ frs (X.env :: X.outer) := fun {h o vs} ff e dd hm => by
      obtain ⟨_, o', e', hnf⟩ := ff.mem hm
      rw [e] at e'; cases e'
      exact hnf _ dd
    have nfr := notFr fl3.2.2.1 he3 hd3
    have nL : a ≠ X.env.locals := fun z => nfr (List.mem_filterMap.mpr ⟨X.env, List.mem_cons_self, by rw [hf, z]⟩)
    have nF : a ∉ X.fs := fun hm => by
      obtain ⟨e, he, q⟩ := List.mem_filterMap.mp hm
      exact nfr (List.mem_filterMap.mpr ⟨e, List.mem_cons_of_mem _ he, q⟩)
    have Ba : B.get? a = none := fl3.2.1
    have nI : sI.heap.get? a = none := by
      cases e : sI.heap.get? a with
      | none => rfl
      | some o =>
        have := nb a o e (by rw [hs]; exact nfr)
        rw [Ba] at this
        cases this
    have nB : X.s_0.heap.get? a = none := by
      cases e : X.s_0.heap.get? a with
      | none => rfl
      | some o =>
        obtain ⟨o', q⟩ := J.base.there a o e (by rw [hex]; simp)
        rw [nI] at q
        cases q
    have nC : ∀ x c, X.env.cells.lookup x = some c → c ≠ a := fun x c e z => by
      obtain ⟨v, o, q, _⟩ := J.cell x c e
      rw [z, nI] at q
      cases q
    have nP : ∀ p ∈ X.pn ++ pins, p.1 ≠ a := fun p hp z => by
      have := (J.pin p hp).1
      rw [z, nI] at this
      cases this
    have S3 := J3.suite he3 hd3 na nL nF
    have go : ∀ {hds' : List ExceptHandler} {l' : List (Value × Option Nat × TS)}, ClOk X hds' l' → wCl X.K Wout D l' cls d σ' H' →
        wpAny (model X.prog X.w) X.A (handleBy (.ref a) X.env hds') (SP X pins D) X.xe { s' with heap := h3 } := by
      intro hds' l' hk
      induction hk with
      | nil =>
        intro w
        refine wpAny_handleBy_nil ?_
        obtain ⟨k1, k2, k3, oe, vs, T, oT, ts', he, hz, hd, h1, hr⟩ := id fl3
        unfold PySem.passOn
        refine wpAny_bind (wpAny_field he hd h1 ?_)
        rw [if_neg (show ¬ ((Value.ref T == Value.none) = true) from by simp)]
        have fin : wpAny (model X.prog X.w) X.A (setFlight (.ref a) X.env.frame) (fun _ s4 => wpAny (model X.prog X.w) X.A (throw (.ref a) : Sem Flow) (SP X pins D) X.xe s4) X.xe { s' with heap := h3 } := by
          rw [hf]
          refine HandSPX.setFlight_upZ fl3 fun h4 hh4 up4 => wpAny_throw (tk _ _ ?_)
          exact ⟨a, B, sI, pins, σ', H', cls, d, rfl, J, nb, (up.trans up3).trans up4, .inr (.inr (by rw [hs]; exact hh4)), na, os, ag, w⟩
        first
          | exact wpAny_bind (wpAny_pure (wpAny_bind fin))
          | exact wpAny_bind fin
      | @only x c ts b₀ suite np pos' hds2 l2 hc hsu r ih =>
        intro w
        obtain ⟨b, hb1, hyes, hno⟩ := w
        refine wpAny_handleBy_cons (codeAny_handlers_test ?_) (by intro q; cases q)
        have LT : PySem.W.Looks (model X.prog X.w) h3 (typeOf (.ref a)) cls := fun A Q E s k q => wpAny_typeOf_ref (k _ _ he3) (by rw [hz3.1]; exact q)
        have LM := PySem.W.exm_one (M := model X.prog X.w) (J3.kIn) LT hb1
        have test : ∀ {Q : Value → Shared → Prop} {E : Value → Shared → Prop}, Q c { s' with heap := h3 } → wpAny (model X.prog X.w) (X.A.mark (some (.ref a))) (eval (.Name x np) X.env) Q E { s' with heap := h3 } := fun {Q E} q => by
          obtain ⟨hg, hdbg, hm | ⟨hm, hv, hnn⟩⟩ := hc
          · exact ld_glob (X := X.suite a ((a, oe3) :: (X.pn ++ pins))) S3 hg hm q hdbg
          · exact ld_blt (X := X.suite a ((a, oe3) :: (X.pn ++ pins))) S3 hg hm hv q hnn hdbg
        refine test (LM.here ?_)
        cases b with
        | true =>
          refine codeAny_handlers_suite ?_
          refine HandSPX.lands_againZ fl3 fun h4 fl4 up4 => ?_
          have J4 : Inv X pins σ' H' { s' with heap := h4 } := J.landed nb fl4.1 ((up.trans up3).trans up4) os ag
          have S4 := inv_suite J4 a
          refine wpAny_mono ((hsu a (X.pn ++ pins)).run [] _ _ H' _ S4 (hyes rfl)) (fun f s6 hsp => ?_) (fun _ _ z => False.elim z)
          cases f with
          | next =>
            obtain ⟨σ6, H6, S6, q6⟩ := hsp
            exact ⟨_, _, inv_unsuite S6 ok, q6⟩
          | brk =>
            obtain ⟨σ6, H6, S6, q6⟩ := hsp
            exact ⟨_, _, inv_unsuite S6 ok, q6⟩
          | cont =>
            obtain ⟨σ6, H6, S6, q6⟩ := hsp
            exact ⟨_, _, inv_unsuite S6 ok, q6⟩
          | ret u =>
            obtain ⟨v6, σ6, H6, S6, r6, q6⟩ := hsp
            exact ⟨_, _, _, inv_unsuite S6 ok, r6, q6⟩
        | false =>
          show wpAny _ X.A (handleBy (.ref a) X.env hds2) _ _ _
          exact ih (hno rfl)
      | @named x n i c ts b₀ suite np pos' hds2 l2 hc hN hi hln hsu r ih =>
        intro w
        have hloc : Loc X.env.scope n := .inl hln
        obtain ⟨b, hb1, hyes, hno⟩ := w
        refine wpAny_handleBy_cons (codeAny_handlers_test ?_) (by intro q; cases q)
        have LT : PySem.W.Looks (model X.prog X.w) h3 (typeOf (.ref a)) cls := fun A Q E s k q => wpAny_typeOf_ref (k _ _ he3) (by rw [hz3.1]; exact q)
        have LM := PySem.W.exm_one (M := model X.prog X.w) (J3.kIn) LT hb1
        have test : ∀ {Q : Value → Shared → Prop} {E : Value → Shared → Prop}, Q c { s' with heap := h3 } → wpAny (model X.prog X.w) (X.A.mark (some (.ref a))) (eval (.Name x np) X.env) Q E { s' with heap := h3 } := fun {Q E} q => by
          obtain ⟨hg, hdbg, hm | ⟨hm, hv, hnn⟩⟩ := hc
          · exact ld_glob (X := X.suite a ((a, oe3) :: (X.pn ++ pins))) S3 hg hm q hdbg
          · exact ld_blt (X := X.suite a ((a, oe3) :: (X.pn ++ pins))) S3 hg hm hv q hnn hdbg
        refine test (LM.here ?_)
        cases b with
        | true =>
          obtain ⟨dd, rfl, hy⟩ := hyes rfl
          refine codeAny_handlers_suite_as ?_
          refine HandSPX.lands_againZ fl3 fun h4 fl4 up4 => ?_
          have J4 : Inv X pins σ' H' { s' with heap := h4 } := J.landed nb fl4.1 ((up.trans up3).trans up4) os ag
          obtain ⟨oe4, vs4, he4, hz4, hd4⟩ := fl4.there
          have J5 : Inv X pins σ' (upd H' a (xoO a cls dd)) { s' with heap := h4 } := inv_adopt J4 (fun _ => xoO_ok he4 hz4.1 hz4.2 hd4) na nL nB nC nP
          have S4 := inv_suite J5 a
          refine L2.store_ok (X := X.suite a (X.pn ++ pins)) (v := .ref a) S4 hN hi hloc rfl (fun s5 S5 => ?_) (.inr hln)
          refine wpAny_mono ((hsu a (X.pn ++ pins)).run [] s5 _ _ _ S5 (hy a na)) (fun f s6 hsp => ?_) (fun _ _ z => False.elim z)
          have end_ : ∀ {σ6 : L2.St} {H6 : Hp} {Q : Shared → Prop}, Inv (X.suite a (X.pn ++ pins)) [] σ6 H6 s6 → (∀ s7, Inv X pins (σ6.set i none) H6 s7 → Q s7) →
              wpAny (model X.prog X.w) X.A (do bindName X.env n .none; unbindBehindTheSuite X.env n pos') (fun _ s7 => Q s7) X.xe s6 := fun {σ6 H6 Q} S6 hq => gone_ok (inv_unsuite S6 ok) hN hi hln hq
          cases f with
          | next =>
            obtain ⟨σ6, H6, S6, q6⟩ := hsp
            exact end_ S6 fun s7 J7 => ⟨_, _, J7, q6⟩
          | brk =>
            obtain ⟨σ6, H6, S6, q6⟩ := hsp
            exact end_ S6 fun s7 J7 => ⟨_, _, J7, q6⟩
          | cont =>
            obtain ⟨σ6, H6, S6, q6⟩ := hsp
            exact end_ S6 fun s7 J7 => ⟨_, _, J7, q6⟩
          | ret u =>
            obtain ⟨v6, σ6, H6, S6, r6, q6⟩ := hsp
            exact end_ S6 fun s7 J7 => ⟨_, _, _, J7, r6, q6⟩
        | false =>
          show wpAny _ X.A (handleBy (.ref a) X.env hds2) _ _ _
          exact ih (hno rfl)
    exact go hh w
  · cases f with
    | next =>
      obtain ⟨σ', H', J', q⟩ := hsp
      exact wpAny_execs_nil ⟨σ', H', J'.ofTry ok, q⟩
    | brk =>
      obtain ⟨σ', H', J', q⟩ := hsp
      exact ⟨σ', H', J'.ofTry ok, q⟩
    | cont =>
      obtain ⟨σ', H', J', q⟩ := hsp
      exact ⟨σ', H', J'.ofTry ok, q⟩
    | ret u =>
      obtain ⟨v, σ', H', J', r, q⟩ := hsp
      exact ⟨v, σ', H', J'.ofTry ok, r, q⟩
end
end DL
set_option maxHeartbeats 1000000
/-! DL60: try with except clauses, on slots. -/
namespace DL
open PySem PySem.Spec PyProof.Rows L2
variable [TabT]
/-- no exception leaves -/
def noEx : RS → RS
  | .ex _ _ => .bad
  | r => r
def unset (i : Nat) (ρ : DEnv) : Option DEnv := match ρ[i]? with
  | some (.d _) => some (ρ.set i .un)
  | _ => none
/-- the clause's name goes -/
def endN (i : Nat) : RS → RS
  | .nx ρ => match unset i ρ with | some ρ' => .nx ρ' | none => .bad
  | .bk ρ => match unset i ρ with | some ρ' => .bk ρ' | none => .bad
  | .ct ρ => match unset i ρ with | some ρ' => .ct ρ' | none => .bad
  | .ex _ _ => .bad
  | r => r
/-- c, of the classes es of the program, is caught by the name k -/
def subX (c k : Str) : Bool := decide (c = k) || decide (k = ("CellError" : Str)) || decide (k = ("ValueError" : Str)) || decide (k = ("Exception" : Str))
def tryH (es : List Str) : List (Str × Option Nat × SM) → Ex → SM
  | [], x => fun ρ => .ex x ρ
  | (k, none, h) :: r, x => fun ρ => if subX x.c k = true then noEx (h ρ) else tryH es r x ρ
  | (k, some i, h) :: r, x => fun ρ => if subX x.c k = true then (match put i (.d (.obj x.c x.ns x.vs)) ρ with
    | .nx ρ1 => endN i (h ρ1)
    | _ => .bad) else tryH es r x ρ
/-- what is known of the classes of exceptions: cv is what the name k stands for -/
def SubOk (K : PySem.W.Frag) (mg : Str → Option Value) (es : List Str) (k : Str) (cv : Value) : Prop := ∀ c ∈ es, ∃ C : Addr, mg c = some (.ref C) ∧ PySem.W.exmOne K (.ref C) cv = some (subX c k)
inductive ClD (X : Cx) (es : List Str) : List ExceptHandler → List (Str × Option Nat × SM) → List (Value × Option Nat × TS) → Prop
  | nil : ClD X es [] [] []
  | only {x : Str} {c : Value} {h : SM} {b₀ : Stmt} {suite : List Stmt} {np pos' : Pos} {hds : List ExceptHandler} {cl : List (Str × Option Nat × SM)} {l : List (Value × Option Nat × TS)} (hc : Names X x c) (hsub : SubOk X.K X.mg es x c)
      (hsu : ∀ (a : Addr) (pn : List (Addr × Obj)), DSs (X.suite a pn) (fun _ _ _ _ => False) (b₀ :: suite) h) (r : ClD X es hds cl l) : ClD X es (.ExceptHandler (some (.Name x np)) none (b₀ :: suite) pos' :: hds) ((x, none, h) :: cl) ((c, none, tS X.K X.mg (fun _ _ _ _ => False) h) :: l)
  | named {x n : Str} {i : Nat} {c : Value} {h : SM} {b₀ : Stmt} {suite : List Stmt} {np pos' : Pos} {hds : List ExceptHandler} {cl : List (Str × Option Nat × SM)} {l : List (Value × Option Nat × TS)} (hc : Names X x c) (hsub : SubOk X.K X.mg es x c) (hN : X.N.Nodup) (hi : X.N[i]? = some n) (hln : X.env.kindOf n = some .local)
      (hsu : ∀ (a : Addr) (pn : List (Addr × Obj)), DSs (X.suite a pn) (fun _ _ _ _ => False) (b₀ :: suite) h) (r : ClD X es hds cl l) : ClD X es (.ExceptHandler (some (.Name x np)) (some n) (b₀ :: suite) pos' :: hds) ((x, some i, h) :: cl) ((c, some i, tS X.K X.mg (fun _ _ _ _ => False) h) :: l)
theorem ClD.cl {X : Cx} {es : List Str} {hds : List ExceptHandler} {cl : List (Str × Option Nat × SM)} {l : List (Value × Option Nat × TS)} (h : ClD X es hds cl l) : ClOk X hds l := by
  induction h with
  | nil => exact .nil
  | only hc _ hsu _ ih => exact .only hc (fun a pn => hsu a pn) ih
  | named hc _ hN hi hln hsu _ ih => exact .named hc hN hi hln (fun a pn => hsu a pn) ih
section
variable {K : PySem.W.Frag} {mg : Str → Option Value} {W W' : WX} {σ σ1 : L2.St} {ρ ρ1 : DEnv} {F H F1 H1 : Hp} {D : Ends}
theorem unset_ok {i : Nat} {ρ' : DEnv} (sr : SR K F H σ ρ) (h : unset i ρ = some ρ') : SR K F H (σ.set i none) ρ' ∧ Ev σ ρ F H (σ.set i none) ρ' F H := by
  unfold unset at h
  cases q : ρ[i]? with
  | none => rw [q] at h; cases h
  | some t =>
    rw [q] at h
    cases t with
    | un => cases h
    | ow c m => cases h
    | d x =>
      cases h
      have hl : i < ρ.length := (List.getElem?_eq_some_iff.mp q).1
      have ow_of : ∀ {j : Nat} {c : Cont} {m : Md} {a : Addr}, (ρ.set i .un)[j]? = some (.ow c m) → (σ.set i none)[j]? = some (some (.ref a)) → ρ[j]? = some (.ow c m) ∧ σ[j]? = some (some (.ref a)) := fun {j c m a} e1 e2 => by
        by_cases hj : i = j
        · subst hj
          rw [List.getElem?_set_self hl] at e1
          cases e1
        · rw [List.getElem?_set_ne hj] at e1 e2
          exact ⟨e1, e2⟩
      refine ⟨⟨by rw [List.length_set, List.length_set]; exact sr.len, sr.sub, fun j t e => ?_, fun j k c1 m1 c2 m2 a e1 e2 e3 e4 => ?_, sr.tab⟩, ⟨Same.refl _, fun _ _ e _ _ => e, fun _ e n => absurd e n, fun _ e => e, fun j c m e n => ?_, fun a z => ?_, fun a z => ?_⟩⟩
      · by_cases hj : i = j
        · subst hj
          rw [List.getElem?_set_self hl] at e
          cases e
          exact ⟨none, List.getElem?_set_self (by rw [sr.len]; exact hl), trivial⟩
        · rw [List.getElem?_set_ne hj] at e ⊢
          exact sr.slot j t e
      · obtain ⟨f1, f3⟩ := ow_of e1 e3
        obtain ⟨f2, f4⟩ := ow_of e2 e4
        exact sr.dist j k c1 m1 c2 m2 a f1 f2 f3 f4
      · have hj : i ≠ j := fun hj => by subst hj; rw [q] at e; cases e
        rw [List.getElem?_set_ne hj, List.getElem?_set_ne hj]
        exact ⟨rfl, c, e, fun _ => rfl⟩
      · obtain ⟨j, c, m, e1, e2⟩ := z
        obtain ⟨f1, f2⟩ := ow_of e1 e2
        exact .inr ⟨j, c, m, f1, f2⟩
      · obtain ⟨j, c, m, e1, hm, e2⟩ := z
        obtain ⟨f1, f2⟩ := ow_of e1 e2
        exact .inr ⟨j, c, m, f1, hm, f2⟩
theorem outS_endN {i : Nat} {r : RS} (h : OutS K mg W σ ρ F H (endN i r) D) : OutS K mg W' σ ρ F H r (endAs i D) := by
  cases r with
  | nx ρ1 =>
    intro σ' F' H' s e
    unfold endN at h
    dsimp only at h
    cases q : unset i ρ1 with
    | none => rw [q] at h; exact h.elim
    | some ρ2 =>
      rw [q] at h
      obtain ⟨s2, e2⟩ := unset_ok s q
      exact h _ _ _ s2 (e.trans e2)
  | bk ρ1 =>
    intro σ' F' H' s e
    unfold endN at h
    dsimp only at h
    cases q : unset i ρ1 with
    | none => rw [q] at h; exact h.elim
    | some ρ2 =>
      rw [q] at h
      obtain ⟨s2, e2⟩ := unset_ok s q
      exact h _ _ _ s2 (e.trans e2)
  | ct ρ1 =>
    intro σ' F' H' s e
    unfold endN at h
    dsimp only at h
    cases q : unset i ρ1 with
    | none => rw [q] at h; exact h.elim
    | some ρ2 =>
      rw [q] at h
      obtain ⟨s2, e2⟩ := unset_ok s q
      exact h _ _ _ s2 (e.trans e2)
  | rt x ρ1 => exact h
  | ex x ρ1 => exact h.elim
  | bad => exact h
theorem outS_noEx {r : RS} (h : OutS K mg W σ ρ F H (noEx r) D) : OutS K mg W' σ ρ F H r D := by
  cases r with
  | ex x ρ' => exact h.elim
  | nx ρ' => exact h
  | bk ρ' => exact h
  | ct ρ' => exact h
  | rt x ρ' => exact h
  | bad => exact h
/-- an exception that was caught is put into a slot -/
theorem obj_put {i : Nat} {x : Ex} {cls : Value} {dd : Option Addr} {d a : Addr} {ρ' : DEnv} (hmg : MgT.mg = mg) (sr : SR K F H σ ρ) (xr : XR K mg F x cls dd) (hd : dd = some d) (na : H a = none) (h : put i (.d (.obj x.c x.ns x.vs)) ρ = .nx ρ') :
    SR K (upd F a (xoO a cls d)) (upd H a (xoO a cls d)) (σ.set i (some (.ref a))) ρ' ∧ Ev σ ρ F H (σ.set i (some (.ref a))) ρ' (upd F a (xoO a cls d)) (upd H a (xoO a cls d)) := by
  obtain ⟨e1, d', vs, e2, e3, e4, e5⟩ := xr
  subst hd
  cases e2
  have g : Gr F H (upd F a (xoO a cls d)) (upd H a (xoO a cls d)) := Gr.froz sr.sub na
  have nda : d ≠ a := fun z => by rw [z, Same.free sr.sub na] at e3; cases e3
  exact put_ok (s := .d (.obj x.c x.ns x.vs)) (g.sr sr) g.ev (.obj upd_same (by rw [hmg]; exact e1) (by rw [upd_ne nda]; exact e3) e4 (e5.mono (.of g.ext))) h
end
section
variable {X : Cx} {es : List Str} {W : WX}
theorem tryH_ok {hds : List ExceptHandler} {cl : List (Str × Option Nat × SM)} {l : List (Value × Option Nat × TS)} (hmg : MgT.mg = X.mg) (hc : ClD X es hds cl l) {x : Ex} (hx : x.c ∈ es) {σ : L2.St} {ρ : DEnv} {F H : Hp} {D : Ends} {cls : Value} {dd : Option Addr} (sr : SR X.K F H σ ρ) (xr : XR X.K X.mg F x cls dd) (h : OutS X.K X.mg W σ ρ F H (tryH es cl x ρ) D) : wCl X.K W D l cls dd σ H := by
  induction hc with
  | nil => exact h cls dd σ F H sr .refl xr
  | @only k c hd b₀ suite np pos' hds cl l hn hsub hsu r ih =>
    obtain ⟨C, m1, m2⟩ := hsub _ hx
    have ec : cls = .ref C := by
      have := xr.1
      rw [m1] at this
      exact (Option.some.inj this).symm
    refine ⟨subX x.c k, by rw [ec]; exact m2, fun b => ?_, fun b => ?_⟩
    · unfold tryH at h
      rw [if_pos b] at h
      exact ⟨F, ρ, sr, outS_noEx h⟩
    · unfold tryH at h
      rw [b, if_neg (by decide)] at h
      exact ih h
  | @named k n i c hd b₀ suite np pos' hds cl l hn hsub hN hi hln hsu r ih =>
    obtain ⟨C, m1, m2⟩ := hsub _ hx
    have ec : cls = .ref C := by
      have := xr.1
      rw [m1] at this
      exact (Option.some.inj this).symm
    refine ⟨subX x.c k, by rw [ec]; exact m2, fun b => ?_, fun b => ?_⟩
    · unfold tryH at h
      rw [if_pos b] at h
      obtain ⟨_, d, vs, e2, _⟩ := id xr
      refine ⟨d, e2, fun a na => ?_⟩
      rcases put_cases (.d (.obj x.c x.ns x.vs)) ρ i with q | ⟨ρ', q⟩
      · rw [q] at h; exact h.elim
      · rw [q] at h
        obtain ⟨s2, ev2⟩ := obj_put hmg sr xr e2 na q
        exact ⟨_, _, s2, (outS_endN h).from ev2⟩
    · unfold tryH at h
      rw [b, if_neg (by decide)] at h
      exact ih h
end
end DL
set_option maxHeartbeats 1000000
/-! DL61: an exception of a class of the program is made and raised. -/
namespace DL
open PySem PySem.Spec PyProof.Rows L2
variable [TabT]
/-- a class over ValueError that has no __init__ of its own -/
structure CeC (K : PySem.W.Frag) (C0 : Addr) : Prop where
  hg : PySem.W.specialIn K (.ref C0) "__getattribute__" = some (some (.builtin "type.__getattribute__"))
  hr : PySem.W.readsIn K C0 (.type "type") = true
  vi : PySem.W.findCls K (.ref C0) (.type "type") "__init__" = some (.val (.builtin "ValueError.__init__"))
section
variable {X : Cx} {e : Expr} {es : List Expr} {ta : TA} {p1 p2 pos : Pos} {C0 : Addr} {x : Str}
theorem pe_ceinit {pl : Sem Bool} (hg : Gl X x) (hm : X.mg x = some (.ref C0)) (T : CeC X.K C0) (ha : PA X (e :: es) ta) (hdb : (x == ("__debug__" : Str)) = false := by decide)
    (hc : eval (.Call (.Attribute (.Name x p1) "__init__" p2) (e :: es) [] pos) X.env = (do
      let ov ← eval (.Name x p1) X.env
      standAt p2.atName
      let (f, first) ← holding [ov] (getMethod ov "__init__" pl)
      callWith pos f first (backTo pos (starEach (e :: es) X.env)) (backToKw pos (keywordEach [] X.env))) := by rfl)
    (he : starEach (e :: es) X.env = (false, eval e X.env) :: starEach es X.env := by rfl) (hpl : (backTo pos (starEach es X.env)).any (·.1) = false := by rfl) :
    PE X (.Call (.Attribute (.Name x p1) "__init__" p2) (e :: es) [] pos) (tVeI X.K ta) := by
  refine ⟨fun pins s σ H Q I h => ?_⟩
  refine PySem.W.methodCall_KW (ld_glob I hg hm ?_ hdb) hc
  refine PySem.W.method_cls I.kIn T.hg (PySem.W.cls_value I.kIn T.hr T.vi (by decide +kernel) ?_)
  show wpAny _ _ (callWith pos (Value.builtin "ValueError.__init__") [] (backTo pos (starEach (e :: es) X.env)) []) _ _ _
  refine PyProof.Rows.callWith_method1 (thn (ha.run pos pins _ σ H _ (I.tok _) h) fun us s1 ⟨vs, H1, I1, r1, a, C, ws, ev, hl, T, ea, q⟩ => ?_) he hpl
  subst ev
  cases r1 with
  | @cons _ u0 _ ur ra rw' =>
    obtain rfl : u0 = Value.ref a := ra
    have hlen : ur.length ≤ sizeLine := by
      rw [← Paired.length rw', sizeLine_eq]
      omega
    exact oinit_ok T I1 ea hlen fun s' J => ⟨.non, H1, J, rfl, q⟩
end
/-- what __init__(self, y) leaves of a new exception -/
def spI1 (C : Addr) (f : Str) : Sp := fun vs H Q _ => ∃ (a : Addr) (y : V), vs = [.ref a, y] ∧ H a = some (exo a C none) ∧ ∀ dx, H dx = none → dx ≠ a → Q .non (upd (upd H dx (exd dx [(f, y)])) a (exo a C (some dx)))
theorem i1_fin {K : PySem.W.Frag} {C : Addr} {f : Str} {m : Str} {a : Addr} {y : V} {H : Hp} {Q : VK} (T : OexC K C) (hno : PySem.W.findIn K (.ref C) f = some none) (ea : H a = some (exo a C none)) (q : ∀ dx, H dx = none → dx ≠ a → Q .non (upd (upd H dx (exd dx [(f, y)])) a (exo a C (some dx)))) :
    tSeq (tDrop (tVeI K (tCons (tVar 0) (tCons (tC (.str m)) tNil)))) (tOst K f (tVar 0) (tVar 1)) { nx := fun _ H' => Q .non H', rt := Q } [some (.ref a), some y] H := by
  refine ⟨.ref a, rfl, a, C, [.str m], rfl, by simp, T, ea, ?_⟩
  refine ⟨y, rfl, .ref a, rfl, a, C, rfl, T, hno, .inl ⟨ea, fun dx n ne => q dx n ne⟩⟩
/-! ### raise -/
/-- raise c(..): ns are the names of the fields, the last one set first -/
def sRaise (c : Str) (ns : List Str) (g : M (List Val)) : SM := fun ρ => (g ρ).bindS fun xs ρ1 => match dsL xs with
  | some ds => if ds.length = ns.length then .ex ⟨c, ns, ds.reverse⟩ ρ1 else .bad
  | none => .bad
section
variable {X : Cx} {W : WX} {e e2 : Expr} {p pos pos' : Pos} {c f f2 : Str} {gl : M (List Val)} {C fI : Addr} {k : Nat} {fd : FuncData} {ps : List Str}
theorem raise_end {σ : L2.St} {ρ : DEnv} {F H H2 : Hp} {x : Ex} {d : Addr} {vs : List V} {D : Ends} (sr : SR X.K F H σ ρ) (hm : X.mg x.c = some (.ref C)) (nd : H d = none) (hl : x.ns.length = vs.length) (r : RepL X.K F vs x.vs) (h : OutS X.K X.mg W σ ρ F H (.ex x ρ) D) (e : H2 = upd H d (.xd (x.ns.zip vs))) : W (.ref C) (some d) σ H2 := by
  subst e
  have g : Gr F H (upd F d (.xd (x.ns.zip vs))) (upd H d (.xd (x.ns.zip vs))) := Gr.froz sr.sub nd
  exact h (.ref C) (some d) σ _ _ (g.sr sr) g.ev ⟨hm, d, vs, rfl, upd_same, hl, r.mono (.of g.ext)⟩
theorem made_hp {H1 : Hp} {a dx : Addr} {o1 o2 o3 u : HO} (na : H1 a = none) (nd : H1 dx = none) (ne : dx ≠ a) : upd (del (upd (upd (upd H1 a o1) dx o2) a o3) a) dx u = upd H1 dx u := by
  funext b
  by_cases h : b = dx
  · subst h; rw [upd_same, upd_same]
  · rw [upd_ne h, upd_ne h]
    by_cases h2 : b = a
    · subst h2; rw [del_same, na]
    · rw [del_ne h2, upd_ne h2, upd_ne h, upd_ne h2]
theorem ds_raise1 (hcalm : X.calm = true) (tk : Takes X W) (T : OexC X.K C) (iC : PySem.W.findIn X.K (.ref C) "__init__" = some (some (.ref fI))) (tI : PySem.W.typeIn X.K (.ref fI) = some (.type "function"))
    (F1 : FnOk X.prog X.w X.K X.mg X.base (L2.CX X.prog X.w) k fI fd ps (spI1 C f)) (hr : Room (k + 1) X.A) (hb : Binds X.K fd ps []) (hg : Gl X c) (hm : X.mg c = some (.ref C)) (hx : Passes (L2.CX X.prog X.w) X (fun _ _ _ => False)) (ha : DA X W [e] gl)
    (hdb : (c == ("__debug__" : Str)) = false := by decide) (he : starEach [e] X.env = (false, eval e X.env) :: starEach [] X.env := by rfl) (hpl : (backTo pos (starEach [] X.env)).any (·.1) = false := by rfl) :
    DS X W (.Raise (some (.Call (.Name c p) [e] [] pos)) none pos') (sRaise c [f] gl) :=
  ps_conseq (ps_raise hcalm tk (pmk_oex T iC tI F1 hr hb .nil hx hg hm ha hdb he hpl)) fun D σ H hq => by
    obtain ⟨F, ρ, sr, q⟩ := hq
    refine ⟨F, ρ, sr, (Out.bindS (rel := relL X.K σ) q).mono fun vs H1 ⟨xs, F1, ρ1, e1, s1, ev1, r1, o1⟩ => ?_⟩
    cases hd : dsL xs with
    | none => rw [hd] at o1; exact o1.elim
    | some ds =>
      rw [hd] at o1
      dsimp only at o1
      by_cases hl : ds.length = [f].length
      · rw [if_pos hl] at o1
        have rl := dsL_ok r1.all hd
        have hvl := rl.length
        match ds, vs, hl, rl, hvl with
        | [d0], [y], _, rl, _ =>
          refine ⟨by simp, fun a na => ⟨a, y, rfl, upd_same, fun dx n ne => ⟨rfl, dx, [(f, y)], upd_same, ?_, ?_, ?_⟩⟩⟩
          · rw [upd_ne ne, upd_same]
          · rw [upd_ne ne] at n; exact n
          · have nd : H1 dx = none := by rw [upd_ne ne] at n; exact n
            exact raise_end (vs := [y]) s1 hm nd rfl rl (o1.from ev1) (made_hp na nd ne)
      · rw [if_neg hl] at o1
        exact o1.elim
end
end DL
set_option maxHeartbeats 1000000
/-! DL62: isinstance and fields of a caught exception. -/
namespace DL
open PySem PySem.Spec PyProof.Rows L2
section
variable {X : Cx} {pins : List (Addr × Obj)} {σ : L2.St} {H : Hp} {s : Shared} {a d D : Addr} {fs : List (Str × V)}
theorem xo_inst (I : Inv X pins σ H s) (ha : H a = some (xoO a (.ref D) d)) (hd : H d = some (.xd fs)) : ∃ (oe od : Obj) (mA : Str → Option Value), PySem.W.InstAt s.heap a oe D (some od) ∧ (∀ name, PySem.W.lookIn name od = some (mA name)) ∧ ∀ f, RelO (fs.lookup f) (mA f) := by
  obtain ⟨oe, vs, h1, h2, h3, h4⟩ := xoO_at I.hok ha
  have hx : ObjOk X.prog X.w H s.heap d (.xd fs) := I.hok d _ hd
  obtain ⟨mA, hns, hr⟩ := hx
  obtain ⟨od, ho, hl⟩ := lookIn_ns hns
  exact ⟨oe, od, mA, ⟨h1, h2, by unfold PySem.W.notCls; rw [h4] <;> rfl, by rw [h3]; exact ho⟩, hl, hr⟩
theorem xo0_inst (I : Inv X pins σ H s) (ha : H a = some (xo0 a (.ref D))) : ∃ oe : Obj, PySem.W.InstAt s.heap a oe D none := by
  have x : ObjOk X.prog X.w H s.heap a (.ext fun h => ∃ (oe : Obj) (vs : Array Value), h.get? a = some oe ∧ oe.cls = .ref D ∧ oe.dict = none ∧ oe.data = .fields vs) := I.hok a _ ha
  obtain ⟨oe, vs, h1, h2, h3, h4⟩ := x.1
  exact ⟨oe, h1, h2, by unfold PySem.W.notCls; rw [h4] <;> rfl, by rw [h3]; trivial⟩
/-- an exception of the class D is at a -/
def XAt (H : Hp) (a D : Addr) : Prop := (∃ (d : Addr) (fs : List (Str × V)), H a = some (xoO a (.ref D) d) ∧ H d = some (.xd fs)) ∨ H a = some (xo0 a (.ref D))
theorem xat_inst (I : Inv X pins σ H s) (h : XAt H a D) : ∃ (oe : Obj) (od : Option Obj), PySem.W.InstAt s.heap a oe D od := by
  rcases h with ⟨d, fs, h1, h2⟩ | h
  · obtain ⟨oe, od, mA, J, _⟩ := xo_inst I h1 h2
    exact ⟨oe, _, J⟩
  · obtain ⟨oe, J⟩ := xo0_inst I h
    exact ⟨oe, _, J⟩
theorem excC_kit {K : PySem.W.Frag} {D x : Addr} {ox : Obj} {od : Option Obj} (C : ExcC K D) : PySem.W.KitX K (.ref x) (.ref D) (fun h => PySem.W.InstAt h x ox D od) :=
  PySem.W.kitx_exc (by obtain ⟨cd, hc, _⟩ := PySem.W.any_some C.hd; rw [hc]; rfl) C.hg C.hk C.hs C.ha C.hn C.ht C.hm
end
/-- isinstance(e, c), e a caught exception -/
def rIsO (K : PySem.W.Frag) : List V → Hp → VK → Prop := fun xs H Q => ∃ (a D : Addr) (c : V) (cv : Value) (b : Bool), xs = [.ref a, c] ∧ XAt H a D ∧ ExcC K D ∧ (∀ u, RelV c u → u = cv) ∧ PySem.W.kitOne K (.ref D) cv = some b ∧ Q (.bl b) H
theorem call_isO {X : Cx} : CallR X (.builtin "isinstance") (rIsO X.K) := by
  intro pins s σ H xs us Q I r h
  obtain ⟨a, D, c, cv, b, rfl, ha, C, hcv, e, q⟩ := h
  cases r with
  | cons rx rr =>
    cases rr with
    | cons rt rr =>
      cases rr
      cases rx
      have ec := hcv _ rt
      subst ec
      obtain ⟨oe, od, J⟩ := xat_inst I ha
      exact PySem.W.kia_one (excC_kit C) I.kIn J e (fun z => nomatch z) fun tk => ⟨.bl b, H, I.kept (t' := tk) fun _ _ z => z, rfl, q⟩
variable [TabT]
theorem zip_look {K : PySem.W.Frag} {F : Hp} {n : Str} {x : D} : ∀ {ns : List Str} {vs : List V} {ds : List D}, ns.length = vs.length → RepL K F vs ds → (ns.zip ds).lookup n = some x → ∃ v, (ns.zip vs).lookup n = some v ∧ Rep K F v x
  | [], vs, ds, _, _, h => by simp at h
  | m :: ns, v :: vs, d :: ds, hl, .cons r rr, h => by
    rw [List.zip_cons_cons, List.lookup_cons] at h ⊢
    cases hm : n == m with
    | true =>
      rw [hm] at h
      cases h
      exact ⟨v, rfl, r⟩
    | false =>
      rw [hm] at h
      exact zip_look (by simpa using hl) rr h
def eIsO (es : List Str) (c : Str) (f : EM) : EM := fun ρ => (f ρ).bind fun x ρ1 => match x.peek ρ1 with
  | some (.obj k _ _) => if es.contains k = true then .ok (.d (.bl (subX k c))) ρ1 else .bad
  | _ => .bad
def eAtO (es : List Str) (nm : Str) (f : EM) : EM := fun ρ => (f ρ).bind fun x ρ1 => match x.peek ρ1 with
  | some (.obj k ns ds) => if es.contains k = true then (match (ns.zip ds).lookup nm with | some d => .ok (.d d) ρ1 | none => .bad) else .bad
  | _ => .bad
section
variable {X : Cx} {W : WX} {e : Expr} {f : EM} {p p2 pos : Pos} {c nm : Str} {es : List Str}
theorem de_isO {cv : Value} {v : V} (hmg : MgT.mg = X.mg) (hg : Gl X "isinstance") (hm : X.mg "isinstance" = none) (he : DE X W e f) (hn : PE X (.Name c p2) (tC v)) (hv : ∀ u, RelV v u → u = cv)
    (hk : ∀ k ∈ es, ∃ D : Addr, X.mg k = some (.ref D) ∧ ExcC X.K D ∧ PySem.W.kitOne X.K (.ref D) cv = some (subX k c))
    (hs1 : starEach [e, .Name c p2] X.env = (false, eval e X.env) :: starEach [.Name c p2] X.env := by rfl) (hs2 : starEach [.Name c p2] X.env = (false, eval (.Name c p2) X.env) :: starEach [] X.env := by rfl) (hpl : (backTo pos (starEach [.Name c p2] X.env)).any (·.1) = false := by rfl) :
    DE X W (.Call (.Name "isinstance" p) [e, .Name c p2] [] pos) (eIsO es c f) :=
  pe_conseq (pe_callB call_isO hg hm PyProof.Rows.boot_isinstance (pa_cons he (pa_cons hn pa_nil hs2) hs1) (by decide) (by decide) hs1 hpl) fun σ H Q hq => by
    obtain ⟨F, ρ, sr, q⟩ := hq
    refine ⟨F, ρ, sr, (Out.bind (rel := relV X.K σ) q).mono fun x H1 ⟨y, F1, ρ1, e1, s1, ev1, r1, o1⟩ => ?_⟩
    cases hp : y.peek ρ1 with
    | none => rw [hp] at o1; exact o1.elim
    | some z =>
      rw [hp] at o1
      cases z with
      | obj k ns ds =>
        dsimp only at o1
        by_cases hc : es.contains k = true
        · rw [if_pos hc] at o1
          have rt : Rep X.K F1 x (.obj k ns ds) := VR.peek s1 r1 hp
          cases rt with
          | @obj a d cls _ _ xs _ e1 e2 e3 l r =>
            obtain ⟨D, m1, m2, m3⟩ := hk k (List.contains_iff_mem.mp hc)
            rw [hmg, m1] at e2
            cases e2
            exact ⟨a, D, v, cv, _, rfl, .inl ⟨d, _, s1.sub _ _ e1, s1.sub _ _ e3⟩, m2, hv, m3, o1 (.bl _) F1 H1 s1 ev1 (.bl _)⟩
          | @ob0 a cls _ e1 e2 =>
            obtain ⟨D, m1, m2, m3⟩ := hk k (List.contains_iff_mem.mp hc)
            rw [hmg, m1] at e2
            cases e2
            exact ⟨a, D, v, cv, _, rfl, .inr (s1.sub _ _ e1), m2, hv, m3, o1 (.bl _) F1 H1 s1 ev1 (.bl _)⟩
        · rw [if_neg hc] at o1
          exact o1.elim
      | _ => exact o1.elim
theorem de_atO (hmg : MgT.mg = X.mg) (he : DE X W e f) (hk : ∀ k ∈ es, ∃ D : Addr, X.mg k = some (.ref D) ∧ ExcC X.K D ∧ PySem.W.findIn X.K (.ref D) nm = some none)
    (hb : attributeBase e nm X.env (eval e X.env) = eval e X.env := by rfl) : DE X W (.Attribute e nm pos) (eAtO es nm f) := by
  refine ⟨fun pins s σ H Q I hq => ?_⟩
  obtain ⟨F, ρ, sr, q⟩ := hq
  refine attr_of hb (thn (he.run pins s σ H _ I ⟨F, ρ, sr, (Out.bind (rel := relV X.K σ) q)⟩) fun u s1 ⟨x, H1, I1, rx, y, F1, ρ1, e1, s1', ev1, r1, o1⟩ => ?_)
  cases hp : y.peek ρ1 with
  | none => rw [hp] at o1; exact o1.elim
  | some z =>
    rw [hp] at o1
    cases z with
    | obj k ns ds =>
      dsimp only at o1
      by_cases hc : es.contains k = true
      · rw [if_pos hc] at o1
        cases hl : (ns.zip ds).lookup nm with
        | none => rw [hl] at o1; exact o1.elim
        | some d0 =>
          rw [hl] at o1
          have rt : Rep X.K F1 x (.obj k ns ds) := VR.peek s1' r1 hp
          cases rt with
          | @obj a d cls _ _ xs _ e1 e2 e3 l r =>
            obtain ⟨D, m1, m2, m3⟩ := hk k (List.contains_iff_mem.mp hc)
            rw [hmg, m1] at e2
            cases e2
            obtain rfl : u = Value.ref a := rx
            obtain ⟨oe, od, mA, J, hlk, hr⟩ := xo_inst I1 (s1'.sub _ _ e1) (s1'.sub _ _ e3)
            obtain ⟨v0, hz, rp⟩ := zip_look l r hl
            obtain ⟨w, hw, rw'⟩ := RelO.some_of (v := v0) (o := mA nm) (by rw [← hz]; exact hr nm)
            exact PySem.HandSPX.exc_get I1.kIn J m2.hg m2.hk m2.hs (PySem.W.findObj_own m2.hd m3 rfl (by rw [hlk, hw])) (handed_of rw') ⟨v0, H1, I1.tok _, rw', o1 v0 F1 H1 s1' ev1 rp⟩
          | @ob0 a cls _ e1 e2 => exact absurd hl (by simp)
      · rw [if_neg hc] at o1
        exact o1.elim
    | _ => exact o1.elim
end
end DL
set_option maxHeartbeats 1000000
/-! DL63: a lambda without parameters is made and handed to a def, which calls it. -/
namespace DL
open PySem PySem.Spec PyProof.Rows L2 LamX
theorem among_snoc {pos : Pos} {c : Value} : ∀ {l : List Value}, TriplesOk l → codeAmong pos l = none → codeAmong pos (l ++ [rawInt pos.line, rawInt pos.col, c]) = some c := by
  intro l h hc
  fun_induction TriplesOk l with
  | case1 => simp [rawInt, codeAmong]
  | case2 a t b u x rest ih =>
    simp only [List.cons_append, codeAmong] at hc ⊢
    split at hc
    · cases hc
    · rename_i q
      rw [if_neg q]
      exact ih h hc
  | case3 l h1 h2 => exact h.elim
section
variable {X : Cx} {pins : List (Addr × Obj)} {σ : L2.St} {H : Hp} {s : Shared}
/-- it is made: its code object is new, or found in the table at P; all else is kept -/
theorem lam_make0 {T : List (Addr × Str)} {c P : Addr} {params : Arguments} {body : Expr} {scope : Scope} {pos : Pos} {E : Value → Shared → Prop} {Q : Value → Shared → Prop} (I : Inv X pins σ H s) (TB : TabB X.base X.mg c P) (hcode : X.env.code = .ref c)
    (hm : (P, X.env.qual ++ "<lambda>") ∈ T) (hu : ∀ p ∈ T, p.1 = P → p.2 = X.env.qual ++ "<lambda>") (hT : Tabs T H) (hdef : defaultsOf params X.env = ([], [])) (hfree : ∀ y ∈ scope.names, y.2 = .free → ∃ c, X.env.cells.lookup y.1 = some c)
    (h : ∀ (f c' : Addr) (pm ctv : Value) (H1 : Hp) (s' : Shared), Inv X pins σ H1 s' → (∀ b o, b ≠ P → H b = some o → H1 b = some o) → (∀ b, H b ≠ none → H1 b ≠ none) → Tabs T H1 →
      s'.heap.get? f = some (PySem.W.kla_obj "<lambda>" (X.env.qual ++ "<lambda>") params body scope (cloFrom X.env.cells scope.names []) pm c' ctv) → H1 f = none → f ≠ X.env.locals → f ∉ X.fs → H1 c' = some (CodeO c' (X.env.qual ++ "<lambda>")) → (∃ ps : Array Value, H1 P = some (.tbl ps) ∧ TriplesOk ps.toList ∧ codeAmong pos ps.toList = some (.ref c')) → s.heap.objs.size ≤ f → Q (.ref f) s') :
    wpAny (model X.prog X.w) X.A (eval (.Lambda params body scope pos) X.env) Q E s := by
  obtain ⟨ps, hP, ht, ha⟩ := hT _ hm
  refine PySem.W.kla_eval hdef ?_
  have bP : s.heap.BuiltinsAt X.mg P := TB.bm.keeps I.bk
  have hP' : s.heap.get? P = some { cls := .none, data := .fields ps } := I.hok P _ hP
  have nL : ∀ f, s.heap.objs.size ≤ f → f ≠ X.env.locals := fun f hf z => Nat.lt_irrefl _ (Nat.lt_of_lt_of_le (z ▸ I.lt) hf)
  cases hc : codeAmong pos ps.toList with
  | none =>
    refine PySem.W.kla_makeFunction (mg := X.mg) (c := c) (P := P) (ps := ps) (closure_ok hfree) I.ok.glob (I.mod.glob.keeps I.bk) hcode (TB.code.keeps I.bk) hP' ht hc TB.gP bP fun c' ctv h' tk hx hge hlt hrec htb => ?_
    obtain ⟨c2, oc, vs, t, e2, hoc, hd, hv⟩ := hrec
    cases e2
    have hsz : s.heap.objs.size ≤ h'.objs.size := Nat.le_trans hge (Nat.le_of_lt hlt)
    have nC : H c' = none := I.hok.fresh hge
    have nPc : P ≠ c' := ne_of_none hP nC
    have I1 := inv_table (t' := tk) (more := #[rawInt pos.line, rawInt pos.col, .ref c']) (h' := h'.push (PySem.W.kla_obj "<lambda>" (X.env.qual ++ "<lambda>") params body scope (cloFrom X.env.cells scope.names []) ((X.mg "__name__").getD .none) c' ctv)) I hP
      (fun b o hb e => Heap.get?_push_of_some _ (hx b o hb e)) (Heap.get?_push_of_some _ htb) hge ⟨oc, vs, t, Heap.get?_push_of_some _ hoc, hd, hv⟩
    have kE : ∀ b o, b ≠ P → H b = some o → upd (upd H P (.tbl (ps ++ #[rawInt pos.line, rawInt pos.col, .ref c']))) c' (CodeO c' (X.env.qual ++ "<lambda>")) b = some o := fun b o hb e => by
      rw [upd_ne (ne_of_none e nC), upd_ne hb]
      exact e
    have nK : ∀ {c0 : Addr}, H c0 = some (CodeO c0 (X.env.qual ++ "<lambda>")) → c0 ≠ P := fun {c0} e z => by
      rw [z, hP] at e
      exact codeO_ne ps (Option.some.inj e).symm
    have eL : (ps ++ #[rawInt pos.line, rawInt pos.col, .ref c']).toList = ps.toList ++ [rawInt pos.line, rawInt pos.col, .ref c'] := by simp
    refine h h'.objs.size c' ((X.mg "__name__").getD .none) ctv _ _ I1 kE (fun b hb => ?_) (fun p hp => ?_) (Heap.get?_push_size _ rfl) ?_ (nL _ hsz) (I.nofs hsz) upd_same ⟨_, by rw [upd_ne nPc, upd_same], by rw [eL]; exact PySem.TriplesOk_snoc _ _ _ _ ht, by rw [eL]; exact among_snoc ht hc⟩ hsz
    · by_cases hb1 : b = c'
      · rw [hb1, upd_same]; simp
      · rw [upd_ne hb1]
        by_cases hb2 : b = P
        · rw [hb2, upd_same]; simp
        · rw [upd_ne hb2]; exact hb
    · by_cases hb : p.1 = P
      · rw [hu p hp hb, hb]
        refine ⟨_, by rw [upd_ne nPc, upd_same], by rw [eL]; exact PySem.TriplesOk_snoc _ _ _ _ ht, fun p' cv hcv => ?_⟩
        rw [eL] at hcv
        rcases among_app _ ht hcv with z | z
        · obtain ⟨c0, e1, e2⟩ := ha p' cv z
          exact ⟨c0, e1, kE _ _ (nK e2) e2⟩
        · exact ⟨c', z, upd_same⟩
      · obtain ⟨ps', a1, a2, a3⟩ := hT p hp
        refine ⟨ps', kE _ _ hb a1, a2, fun p' cv hcv => ?_⟩
        obtain ⟨c0, e1, e2⟩ := a3 p' cv hcv
        refine ⟨c0, e1, ?_⟩
        by_cases z : c0 = P
        · rw [z, hP] at e2
          exact absurd (Option.some.inj e2).symm (codeO_ne ps)
        · exact kE _ _ z e2
    · have n1 : h'.objs.size ≠ c' := Nat.ne_of_gt hlt
      have n2 : h'.objs.size ≠ P := Nat.ne_of_gt (Nat.lt_of_lt_of_le (Heap.lt_size hP') hsz)
      rw [upd_ne n1, upd_ne n2]
      exact I.hok.fresh hsz
  | some cv =>
    obtain ⟨c', e, hco⟩ := ha pos cv hc
    subst e
    refine PySem.W.kla_makeFunctionHit (mg := X.mg) (c := c) (P := P) (ps := ps) (closure_ok hfree) I.ok.glob (I.mod.glob.keeps I.bk) hcode (TB.code.keeps I.bk) hP' ht hc bP fun ctv h' tk hx hsz => ?_
    have I1 : Inv X pins σ H { s with heap := h'.push (PySem.W.kla_obj "<lambda>" (X.env.qual ++ "<lambda>") params body scope (cloFrom X.env.cells scope.names []) ((X.mg "__name__").getD .none) c' ctv), toks := tk } := I.kept fun b o e => Heap.get?_push_of_some _ (hx b o e)
    exact h h'.objs.size c' ((X.mg "__name__").getD .none) ctv H _ I1 (fun _ _ _ e => e) (fun _ e => e) hT (Heap.get?_push_size _ rfl) (I.hok.fresh hsz) (nL _ hsz) (I.nofs hsz) hco ⟨ps, hP, ht, hc⟩ hsz
end
/-! ### what the thunk gives -/
abbrev up (i : TabT) (F : Hp) : TabT := { mg := i.mg, T := i.T, FB := F }
def dataOnly (ρ : DEnv) : DEnv := ρ.map fun s => match s with | .d x => .d x | _ => .un
theorem dataOnly_get {ρ : DEnv} {i : Nat} {s : Slot} (h : (dataOnly ρ)[i]? = some s) : (∃ x, s = .d x ∧ ρ[i]? = some (.d x)) ∨ (s = .un ∧ ∃ t, ρ[i]? = some t) := by
  unfold dataOnly at h
  rw [List.getElem?_map] at h
  cases e : ρ[i]? with
  | none => rw [e] at h; cases h
  | some t =>
    rw [e] at h
    cases t with
    | un => cases h; exact .inr ⟨rfl, _, rfl⟩
    | d x => cases h; exact .inl ⟨x, rfl, rfl⟩
    | ow c m => cases h; exact .inr ⟨rfl, _, rfl⟩
theorem dataOnly_len {ρ : DEnv} : (dataOnly ρ).length = ρ.length := List.length_map _
theorem dataOnly_now {σ : L2.St} {ρ : DEnv} {a : Addr} : ¬ Ow σ (dataOnly ρ) a := fun ⟨i, c, m, h, _⟩ => by
  rcases dataOnly_get h with ⟨x, e, _⟩ | ⟨e, _⟩ <;> cases e
section
variable [TabT] {K : PySem.W.Frag} {mg : Str → Option Value} {σ : L2.St} {ρ : DEnv} {F H F' H' : Hp}
theorem sr_nil (hs : Same F H) (tb : TabOk F H) : SR K F H [] [] := ⟨rfl, hs, fun i s e => by simp at e, fun i j c m c' m' a e => by simp at e, tb⟩
end
/-- p, made at s, is a function without parameters that gives r, as long as what it captured stands -/
structure ThunkAt [TabT] (P : Program) (w : World) (K : PySem.W.Frag) (mg : Str → Option Value) (base : Heap) (k : Nat) (fs : List Addr) (s : Shared) (H : Hp) (p : Addr) (r : RF) : Prop where
  obj : PySem.W.FnAt p s.heap
  free : H p = none
  nofs : p ∉ fs
  run : ∀ (A : Around) (outer : List Env) (s1 : Shared) (HZ : Hp) (Q : VK) (E : XK), Room (k + 1) A → NoGd A → Env0 P w K mg base A outer s1 HZ → Un fs [] H HZ s.heap s1.heap → spD K mg 0 (fun _ => r) [] HZ Q E →
    codeAny (model P w) A (.call (.ref p) ⟨[], []⟩) (CR (L2.CX P w) outer P w HZ s1 Q E) s1
end DL
set_option maxHeartbeats 1000000
/-! DL64: a def that calls the lambda it is given; its call. -/
namespace DL
open PySem PySem.Spec PyProof.Rows L2 LamX
end DL
set_option maxHeartbeats 1000000
/-! DL65: what the text of a law knows of its classes of exceptions. -/
namespace DL
open PySem PySem.Spec PyProof.Rows L2
/-- the class c can be made and raised; sp is what its __init__ leaves -/
structure ExcR (P : Program) (w : World) (K : PySem.W.Frag) (mg : Str → Option Value) (base : Heap) (k : Nat) (c : Str) (sp : Addr → Sp) : Prop where
  ex : ∃ (C fI : Addr) (fd : FuncData) (ps : List Str), OexC K C ∧ PySem.W.findIn K (.ref C) "__init__" = some (some (.ref fI)) ∧ PySem.W.typeIn K (.ref fI) = some (.type "function") ∧ FnOk P w K mg base (L2.CX P w) k fI fd ps (sp C) ∧ Binds K fd ps [] ∧ mg c = some (.ref C)
/-- isinstance of an exception of one of the classes es -/
def IsF (K : PySem.W.Frag) (mg : Str → Option Value) (es : List Str) (c : Str) (cv : Value) : Prop := ∀ k ∈ es, ∃ D : Addr, mg k = some (.ref D) ∧ ExcC K D ∧ PySem.W.kitOne K (.ref D) cv = some (subX k c)
/-- a field of an exception of one of the classes es -/
def AtF (K : PySem.W.Frag) (mg : Str → Option Value) (es : List Str) (nm : Str) : Prop := ∀ k ∈ es, ∃ D : Addr, mg k = some (.ref D) ∧ ExcC K D ∧ PySem.W.findIn K (.ref D) nm = some none
section
variable [TabT]
variable {X : Cx} {W : WX} {e e2 : Expr} {p p2 pos pos' : Pos} {c f f2 nm : Str} {gl : M (List Val)} {k j : Nat} {es : List Str} {g : EM}
theorem ds_raiseX1 (hcalm : X.calm = true) (tk : Takes X W) (E : ExcR X.prog X.w X.K X.mg X.base k c (fun C => spI1 C f)) (hr : Room j X.A) (hk : k + 1 ≤ j) (hg : Gl X c) (ha : DA X W [e] gl)
    (hdb : (c == ("__debug__" : Str)) = false := by decide) (he : starEach [e] X.env = (false, eval e X.env) :: starEach [] X.env := by rfl) (hpl : (backTo pos (starEach [] X.env)).any (·.1) = false := by rfl) :
    DS X W (.Raise (some (.Call (.Name c p) [e] [] pos)) none pos') (sRaise c [f] gl) := by
  obtain ⟨C, fI, fd, ps, o, iC, tI, F1, b, m⟩ := E.ex
  exact ds_raise1 hcalm tk o iC tI F1 (hr.mono hk) b hg m (passes_call (E := fun _ _ _ => False) tk fun _ _ _ _ h => h.elim) ha hdb he hpl
theorem de_isOX {C : Addr} (hmg : MgT.mg = X.mg) (hg : Gl X "isinstance") (hm : X.mg "isinstance" = none) (he : DE X W e g) (hc : Gl X c) (mc : X.mg c = some (.ref C)) (hk : IsF X.K X.mg es c (.ref C))
    (hdb : (c == ("__debug__" : Str)) = false := by decide) (hs1 : starEach [e, .Name c p2] X.env = (false, eval e X.env) :: starEach [.Name c p2] X.env := by rfl) (hs2 : starEach [.Name c p2] X.env = (false, eval (.Name c p2) X.env) :: starEach [] X.env := by rfl) (hpl : (backTo pos (starEach [.Name c p2] X.env)).any (·.1) = false := by rfl) :
    DE X W (.Call (.Name "isinstance" p) [e, .Name c p2] [] pos) (eIsO es c g) :=
  de_isO (cv := .ref C) (v := .ref C) hmg hg hm he (pe_glob hc mc rfl hdb) (fun _ r => r) hk hs1 hs2 hpl
theorem de_atOX (hmg : MgT.mg = X.mg) (he : DE X W e g) (hk : AtF X.K X.mg es nm) (hb : attributeBase e nm X.env (eval e X.env) = eval e X.env := by rfl) : DE X W (.Attribute e nm pos) (eAtO es nm g) := de_atO hmg he hk hb
end
/-- a class of the program, as «except» and isinstance ask for it -/
theorem exm_of {K : PySem.W.Frag} {S D : Addr} {b : Bool} (h1 : PySem.W.subIn K (.ref D) (.type "BaseException") = some true) (h2 : PySem.W.isClsIn K D = true) (h3 : PySem.W.typeIn K (.ref D) = some (.type "type")) (h4 : PySem.W.subIn K (.ref S) (.ref D) = some b) :
    PySem.W.exmOne K (.ref S) (.ref D) = some b := by
  have e1 : (PySem.W.subIn K (.ref D) (.type "BaseException") == some true) = true := by rw [h1] <;> rfl
  have e2 : ((PySem.W.clsIn K D).isSome && PySem.W.typeIn K (.ref D) == some (.type "type")) = true := by
    have h2' : (PySem.W.clsIn K D).isSome = true := h2
    rw [h2', h3] <;> rfl
  show (if (PySem.W.subIn K (.ref D) (.type "BaseException") == some true) = true then (if ((PySem.W.clsIn K D).isSome && PySem.W.typeIn K (.ref D) == some (.type "type")) = true then PySem.W.subIn K (.ref S) (.ref D) else none) else none) = some b
  rw [if_pos e1, if_pos e2]
  exact h4
theorem kit_of {K : PySem.W.Frag} {S D : Addr} {b : Bool} (h2 : PySem.W.isClsIn K D = true) (h3 : PySem.W.typeIn K (.ref D) = some (.type "type")) (h4 : PySem.W.subIn K (.ref S) (.ref D) = some b) (hb : (S == D) = true → b = true) :
    PySem.W.kitOne K (.ref S) (.ref D) = some b := by
  have e2 : ((PySem.W.clsIn K D).isSome && PySem.W.typeIn K (.ref D) == some (.type "type")) = true := by
    have h2' : (PySem.W.clsIn K D).isSome = true := h2
    rw [h2', h3] <;> rfl
  show (if ((Value.ref S) == (Value.ref D)) = true then some true else (if ((PySem.W.clsIn K D).isSome && PySem.W.typeIn K (.ref D) == some (.type "type")) = true then PySem.W.subIn K (.ref S) (.ref D) else none)) = some b
  by_cases h : ((Value.ref S) == (Value.ref D)) = true
  · rw [if_pos h, hb (by have z : (Value.ref S) = (Value.ref D) := by simpa using h
                         cases z
                         simp)]
  · rw [if_neg h, if_pos e2]
    exact h4
end DL
set_option maxHeartbeats 1000000
/-! DL66: reading try, raise, isinstance and fields of exceptions. -/
namespace DL
open PySem PySem.Spec PyProof.Rows L2
section
variable {ρ ρ' : DEnv} {i : Nat} {c k nm : Str} {ns es : List Str} {gl : M (List Val)} {g h : SM} {f : EM} {x : Val} {d : D} {ds : List D} {cl : List (Str × Option Nat × SM)} {P : Po} {Q : Val → DEnv → Prop} {X : Ex → DEnv → Prop}
/-- raise with the values at hand -/
def raiseV (c : Str) (ns : List Str) (xs : List Val) : SM := fun ρ1 => match dsL xs with
  | some ds => if ds.length = ns.length then .ex ⟨c, ns, ds.reverse⟩ ρ1 else .bad
  | none => .bad
theorem s_raise (q : (gl ρ).wp (fun xs ρ1 => (raiseV c ns xs ρ1).wp P) P.ex) : (sRaise c ns gl ρ).wp P := b_bindS q
theorem s_raiseV {xs : List Val} (e : dsL xs = some ds) (hl : ds.length = ns.length) (q : P.ex ⟨c, ns, ds.reverse⟩ ρ) : (raiseV c ns xs ρ).wp P := by
  unfold raiseV
  rw [e]
  dsimp only
  rw [if_pos hl]
  exact q
def isOV (es : List Str) (c : Str) (x : Val) : EM := fun ρ1 => match x.peek ρ1 with
  | some (.obj k _ _) => if es.contains k = true then .ok (.d (.bl (subX k c))) ρ1 else .bad
  | _ => .bad
def atOV (es : List Str) (nm : Str) (x : Val) : EM := fun ρ1 => match x.peek ρ1 with
  | some (.obj k ns ds) => if es.contains k = true then (match (ns.zip ds).lookup nm with | some d => .ok (.d d) ρ1 | none => .bad) else .bad
  | _ => .bad
theorem b_isO (q : (f ρ).wp (fun x ρ1 => (isOV es c x ρ1).wp Q X) X) : (eIsO es c f ρ).wp Q X := b_bind q
theorem b_atO (q : (f ρ).wp (fun x ρ1 => (atOV es nm x ρ1).wp Q X) X) : (eAtO es nm f ρ).wp Q X := b_bind q
theorem b_isOV (hp : x.peek ρ = some (.obj k ns ds)) (hk : es.contains k = true) (q : Q (.d (.bl (subX k c))) ρ) : (isOV es c x ρ).wp Q X := by
  unfold isOV
  rw [hp]
  dsimp only
  rw [if_pos hk]
  exact q
theorem b_atOV (hp : x.peek ρ = some (.obj k ns ds)) (hk : es.contains k = true) (hl : (ns.zip ds).lookup nm = some d) (q : Q (.d d) ρ) : (atOV es nm x ρ).wp Q X := by
  unfold atOV
  rw [hp]
  dsimp only
  rw [if_pos hk, hl]
  exact q
end
end DL
set_option maxHeartbeats 1000000
/-! DL67: an item of a list as a target among others: xs[i], xs[j] = .. -/
namespace DL
open PySem PySem.Spec PyProof.Rows L2
end DL
set_option maxHeartbeats 1000000
/-! DL68: xs[::-1] of a list and of a tuple. -/
namespace L2
open PySem PySem.Spec PyProof.Rows
end L2
namespace DL
open PySem PySem.Spec PyProof.Rows L2
end DL
set_option maxHeartbeats 1000000
/-! DL69: what a def gives that calls its one parameter. -/
namespace DL
open PySem PySem.Spec PyProof.Rows L2
end DL
set_option maxHeartbeats 1000000
/-! DL70: isinstance of a caught exception by two classes, and by a class that is built in. -/
namespace DL
open PySem PySem.Spec PyProof.Rows L2
variable [TabT]
section
variable {X : Cx} {W : WX} {e : Expr} {f : EM} {p p2 p3 p4 pos : Pos} {c c2 : Str} {es : List Str} {kt : Nat}
/-- a class that is built in -/
theorem de_isOB {cn : String} (hmg : MgT.mg = X.mg) (hg : Gl X "isinstance") (hm : X.mg "isinstance" = none) (he : DE X W e f) (hc : Gl X c) (mc : X.mg c = none) (hv : bootBuiltins c = some (.type cn)) (hk : IsF X.K X.mg es c (.type cn))
    (hdb : (c == ("__debug__" : Str)) = false := by decide) (hnm : c ≠ "__name__" := by decide) (hs1 : starEach [e, .Name c p2] X.env = (false, eval e X.env) :: starEach [.Name c p2] X.env := by rfl) (hs2 : starEach [.Name c p2] X.env = (false, eval (.Name c p2) X.env) :: starEach [] X.env := by rfl) (hpl : (backTo pos (starEach [.Name c p2] X.env)).any (·.1) = false := by rfl) :
    DE X W (.Call (.Name "isinstance" p) [e, .Name c p2] [] pos) (eIsO es c f) :=
  de_isO (cv := .type cn) (v := .ty cn) hmg hg hm he (pe_bltn hc mc hv (v := .ty cn) rfl hnm hdb) (fun _ r => r) hk hs1 hs2 hpl
end
end DL
set_option maxHeartbeats 1000000
/-! DL71: reading the call of a def with a lambda. -/
namespace DL
open PySem PySem.Spec PyProof.Rows L2
section
variable {ρ : DEnv} {i : Nat} {p : Addr} {as : DEnv} {d : D} {x : Ex} {Q : Val → DEnv → Prop} {X : Ex → DEnv → Prop}
/-- a def's result, from its reading -/
theorem th_ret {r : RF} {y : Val} {as : DEnv} (h : r.wp (fun x as' => x = y ∧ as' = as) fun _ _ => False) : r = .ret y as := by
  obtain ⟨x, as', e, rfl, rfl⟩ := RF.wp_ret h
  exact e
end
end DL
set_option maxHeartbeats 2000000
/-! DL72: repr of data with empty dicts in it; == with the empty tuple. -/
namespace DL
open PySem PySem.Spec PyProof.Rows L2
end DL
set_option maxHeartbeats 2000000
/-! DL73: repr at the top, == with the empty tuple, bools in sums, str(int), upper. -/
namespace DL
open PySem PySem.Spec PyProof.Rows L2
/-! ### == and != with the empty tuple -/
/-! ### sums with a bool on the left, the sign of a bool -/
/-! ### str of ints and bools, upper -/
end DL
set_option maxHeartbeats 2000000
/-! DL74: defs that call themselves, some levels deep. -/
namespace DL
open PySem PySem.Spec PyProof.Rows L2
end DL
set_option maxHeartbeats 2000000
/-! DL75: values of any kind: short ASCII texts, ints not too great, empty dicts. -/
namespace DL
open PySem PySem.Spec PyProof.Rows L2
end DL
set_option maxHeartbeats 2000000
/-! DL76: a tuple times an int. -/
namespace DL
open PySem PySem.Spec PyProof.Rows L2
section
variable [TabT]
def repT : D → D → Option Val
  | .tup xs, .int k => if 0 < xs.length ∧ 2 ≤ k ∧ k ≤ 1000 ∧ xs.length ≤ 1000 then some (.d (.tup (List.replicate k.toNat xs).flatten)) else none
  | _, _ => none
theorem os_repT {K : PySem.W.Frag} : OpS K (rRepT K) repT := by
  intro F H v w a b z Q s ra rb e q
  unfold repT at e
  split at e
  · obtain ⟨l, xs, rfl, hl, r⟩ := ra.tup s
    obtain rfl := rb.int
    split at e
    · rename_i h
      cases e
      obtain ⟨h1, h2, h3, h4⟩ := h
      have le := r.length
      exact ⟨l, _, xs, rfl, rfl, hl, (fun z => by rw [z] at le; simp at le; omega), h2, h3, by omega, fun p n => vn_tup s q (r.flatten _) n⟩
    · cases e
  · cases e
end
end DL
set_option maxHeartbeats 2000000
/-! DL77: tuple(range(a, b, c)). -/
namespace DL
open PySem PySem.Spec PyProof.Rows L2
end DL
set_option maxHeartbeats 2000000
/-! DL78: x = y, where y's own object goes over to x (y is not looked at again ahead of its next store). -/
namespace DL
open PySem PySem.Spec PyProof.Rows L2
end DL
set_option maxHeartbeats 2000000
/-! DL79: instances of the program's classes as data: o.f, o.m(..). -/
namespace DL
open PySem PySem.Spec PyProof.Rows L2
variable [TabT]
def eFld (c nm : Str) (f : EM) : EM := fun ρ => (f ρ).bind fun x ρ1 => match x with
  | .d (.ins k ns ds) => if k = c then (match (ns.zip ds).lookup nm with | some d => .ok (.d d) ρ1 | none => .bad) else .bad
  | _ => .bad
def eMthI (c m : Str) (Fm : FM) (f : EM) (gl : M (List Val)) : EM := fun ρ => (f ρ).bind fun x ρ1 => match x with
  | .d (.ins k ns ds) => if k = c ∧ ns.contains m = false then (gl ρ1).bind fun xs ρ2 => callF Fm (.d (.ins k ns ds) :: xs) ρ2 else .bad
  | _ => .bad
end DL
set_option maxHeartbeats 2000000
/-! DL80: c(..), an instance of a class whose __init__ sets two fields, its arguments data. -/
namespace DL
open PySem PySem.Spec PyProof.Rows L2
variable [TabT]
section
variable {K : PySem.W.Frag} {mg : Str → Option Value} {F H : Hp} {σ : L2.St} {ρ : DEnv}
theorem sr_upd {a : Addr} {o o' : HO} (sr : SR K F H σ ρ) (fa : F a = none) (no : ¬ Ow σ ρ a) (ha : H a = some o) (nk : ¬ KT a o) : SR K F (upd H a o') σ ρ := by
  refine ⟨sr.len, fun b u e => ?_, fun i s e => ?_, sr.dist, sr.tab.own ha nk⟩
  · by_cases h : b = a
    · subst h; rw [fa] at e; cases e
    · rw [upd_ne h]; exact sr.sub b u e
  · obtain ⟨ov, h1, h2⟩ := sr.slot i s e
    refine ⟨ov, h1, ?_⟩
    cases s with
    | un => trivial
    | d x => exact h2
    | ow c m =>
      obtain ⟨b, e1, e2, e3⟩ := h2
      have hb : b ≠ a := fun z => by
        subst z
        exact no ⟨i, c, m, e, by rw [h1, e1]⟩
      exact ⟨b, e1, e2, e3.mono (.of (Same.refl _)) (upd_ne hb)⟩
end
end DL
set_option maxHeartbeats 2000000
/-! DL81: what is known of a class of the program, bundled; the rules with it. -/
namespace DL
open PySem PySem.Spec PyProof.Rows L2
end DL
set_option maxHeartbeats 2000000
/-! DL82: reading terms with fields, methods and instances (wp). -/
namespace DL
open PySem PySem.Spec PyProof.Rows L2
def fldV (c nm : Str) (x : Val) : EM := fun ρ => match x with
  | .d (.ins k ns ds) => if k = c then (match (ns.zip ds).lookup nm with | some d => .ok (.d d) ρ | none => .bad) else .bad
  | _ => .bad
def mthV (c m : Str) (Fm : FM) (gl : M (List Val)) (x : Val) : EM := fun ρ => match x with
  | .d (.ins k ns ds) => if k = c ∧ ns.contains m = false then (gl ρ).bind fun xs ρ2 => callF Fm (.d (.ins k ns ds) :: xs) ρ2 else .bad
  | _ => .bad
section
variable {ρ : DEnv} {c nm m : Str} {f : EM} {gl : M (List Val)} {Fm : FM} {ns : List Str} {ds : List D} {d : D} {Q : Val → DEnv → Prop} {X : Ex → DEnv → Prop}
theorem b_fld (q : (f ρ).wp (fun x ρ1 => (fldV c nm x ρ1).wp Q X) X) : (eFld c nm f ρ).wp Q X := b_bind q
theorem b_mth (q : (f ρ).wp (fun x ρ1 => (mthV c m Fm gl x ρ1).wp Q X) X) : (eMthI c m Fm f gl ρ).wp Q X := b_bind q
instance st_b_fld : St ((eFld c nm f ρ).wp Q X) ((f ρ).wp (fun x ρ1 => (fldV c nm x ρ1).wp Q X) X) := ⟨b_fld⟩
instance st_b_mth : St ((eMthI c m Fm f gl ρ).wp Q X) ((f ρ).wp (fun x ρ1 => (mthV c m Fm gl x ρ1).wp Q X) X) := ⟨b_mth⟩
end
end DL
set_option maxHeartbeats 2000000
/-! DL83: d == {} for a dict d. -/
namespace DL
open PySem PySem.Spec PyProof.Rows L2
/-! len(d) -/
end DL
namespace CM
open PySem PySem.Spec PyProof.Rows L2 DL
/-! l_pot: slots 0 script, 1 k, 2 cell, 3 own -/
def e_l_pot : SM := (sSeq (sAsg 2 (eOp addD (eOp mulD (eC (.int 19)) (eVar 1)) (eC (.int 6))))
    (sSeq (sIf (tst (eOp ltD (eVar 1) (eCallB lenD (aCons (eVar 0) aNil))))
    (sAsg 2 (eOp idxD (eVar 0) (eVar 1)))
    sSkip)
    (sSeq (sAsg 3 (eOp mulD (eOp modD (eCallB absD (aCons (eVar 2) aNil)) (eOp powD (eOp powD (eC (.int 10)) (eC (.int 60))) (eC (.int 5)))) (eCallB intD (aCons (eOp geD (eCallB absD (aCons (eVar 2) aNil)) (eOp powD (eC (.int 10)) (eC (.int 18)))) aNil))))
    (sRet (eLst (aCons (fz (eVar 3)) (aCons (fz (eOp modD (eOp addD (eOp addD (eOp mulD (eOp modD (eVar 2) (eC (.int 2305843009213693951))) (eC (.int 69767))) (eOp mulD (eOp mulD (eC (.int 8123)) (eVar 1)) (eVar 1))) (eC (.int 31))) (eC (.int 2305843009213693921)))) (aCons (eC (.int 0)) aNil))))))))
def s_l_pot : FM := fnD 2 2 e_l_pot
/-! l_draw: slots 0 pot_here, 1 many, 2 prime, 3 mixed_here, 4 digit -/
def e_l_draw : SM := (sSeq (sIf (tst (eOp gtD (eOp idxD (eVar 0) (eC (.int 0))) (eC (.int 0))))
    (sSeq (sAsg 4 (eOp modD (eOp idxD (eVar 0) (eC (.int 0))) (eVar 1)))
    (sSeq (sStore 0 (eC (.int 0)) (fz (eOp divD (eOp idxD (eVar 0) (eC (.int 0))) (eVar 1))))
    (sRet (eVar 4))))
    sSkip)
    (sSeq (sStore 0 (eC (.int 2)) (fz (eOp addD (eOp idxD (eVar 0) (eC (.int 2))) (eC (.int 1)))))
    (sSeq (sAsg 2 (eOp idxD (eLst (aCons (eC (.int 2147483647)) (aCons (eC (.int 2147483629)) (aCons (eC (.int 2147483587)) (aCons (eC (.int 2147483579)) (aCons (eC (.int 2147483563)) aNil)))))) (eOp modD (eOp idxD (eVar 0) (eC (.int 2))) (eC (.int 5)))))
    (sSeq (sAsg 3 (eOp modD (eOp powD (eOp addD (eOp addD (eOp idxD (eVar 0) (eC (.int 1))) (eOp mulD (eOp mulD (eC (.int 98321)) (eOp idxD (eVar 0) (eC (.int 2)))) (eOp idxD (eVar 0) (eC (.int 2))))) (eC (.int 47))) (eC (.int 3))) (eVar 2)))
    (sRet (eOp modD (eOp divD (eOp modD (eOp mulD (eVar 3) (eOp addD (eOp modD (eVar 3) (eC (.int 10007))) (eOp mulD (eC (.int 89)) (eOp idxD (eVar 0) (eC (.int 2)))))) (eC (.int 2305843009213693907))) (eC (.int 83))) (eVar 1)))))))
def s_l_draw : FM := fnD 2 3 e_l_draw
/-! l_any: slots 0 pot_here, 1 items -/
def e_l_any : SM := (sRet (eOp idxD (eVar 1) (eCall s_l_draw (aCons (eVar 0) (aCons (eCallB lenD (aCons (eVar 1) aNil)) aNil)))))
def s_l_any : FM := fnD 2 0 e_l_any
/-! l_mixed: slots 0 pot_here, 1 items, 2 left, 3 found -/
def l1_l_mixed : SM := whileD (tst (eOp neV' (eVar 2) (eLst aNil))) (sDrop (eMethL 3 appendO (aCons (fz (eMethL 2 popAtO (aCons (fz (eCall s_l_draw (aCons (eVar 0) (aCons (eCallB lenD (aCons (eVar 2) aNil)) aNil)))) aNil))) aNil))) 1000000
def e_l_mixed : SM := (sSeq (sPar [2, 3] (aCons (nsl (eCallB listD (aCons (eVar 1) aNil))) (aCons (nsl (eLst aNil)) aNil)))
    (sSeq l1_l_mixed
    (sRet (eVar 3))))
def s_l_mixed : FM := fnD 2 2 e_l_mixed
/-! l_wild: slots 0 pot_here, 1 most, 2 room, 3 turn, 4 found, 5 written, 6 begin, 7 kind, 8 worth, 9 some -/
def l1_l_wild : SM := sFor (iRng (aCons (eCall s_l_draw (aCons (eVar 0) (aCons (eOp addD (eVar 1) (eC (.int 1))) aNil))) aNil)) (asgV 3)
    (sSeq (sPar [7, 8] (aCons (nsl (eCall s_l_any (aCons (eVar 0) (aCons (eLst (aCons (eC (.str ("write" : Str))) (aCons (eC (.str ("read" : Str))) (aCons (eC (.str ("read" : Str))) aNil)))) aNil)))) (aCons (nsl (eCall s_l_draw (aCons (eVar 0) (aCons (eC (.int 5)) aNil)))) aNil)))
    (sSeq (sAsg 6 (eCall s_l_draw (aCons (eVar 0) (aCons (eVar 2) aNil))))
    (sIf (tAndM (tst (eOp eqV' (eVar 7) (eC (.str ("write" : Str))))) (tAndM (tst (eOp gtD (eVar 8) (eC (.int 0)))) (tst (eOp ninD (eVar 8) (eVar 5)))))
    (sSeq (sDrop (eMethL 5 appendO (aCons (fz (eVar 8)) aNil)))
    (sDrop (eMethL 4 appendO (aCons (fz (eTup (aCons (eC (.str ("write" : Str))) (aCons (fz (eVar 8)) (aCons (fz (eVar 6)) (aCons (fz (eOp addD (eVar 6) (eCall s_l_draw (aCons (eVar 0) (aCons (eOp addD (eOp divD (eVar 2) (eC (.int 2))) (eC (.int 1))) aNil))))) aNil)))))) aNil))))
    (sSeq (sAsg 9 (eOp addD (eVar 5) (eLst (aCons (eC (.int 0)) aNil))))
    (sSeq (sAsg 8 (eCall s_l_any (aCons (eVar 0) (aCons (eOp addD (eOp addD (eVar 9) (eVar 9)) (eLst (aCons (fz (eVar 8)) aNil))) aNil))))
    (sDrop (eMethL 4 appendO (aCons (fz (eTup (aCons (eC (.str ("read" : Str))) (aCons (fz (eVar 8)) (aCons (fz (eVar 6)) (aCons (fz (eOp addD (eVar 6) (eCall s_l_draw (aCons (eVar 0) (aCons (eOp addD (eOp divD (eVar 2) (eC (.int 2))) (eC (.int 1))) aNil))))) aNil)))))) aNil))))))))
def e_l_wild : SM := (sSeq (sPar [4, 5] (aCons (nsl (eLst aNil)) (aCons (nsl (eLst aNil)) aNil)))
    (sSeq l1_l_wild
    (sRet (eCallB tupleD (aCons (eCall s_l_mixed (aCons (eVar 0) (aCons (eVar 4) aNil))) aNil)))))
def s_l_wild : FM := fnD 3 7 e_l_wild
/-! l_true: slots 0 pot_here, 1 many, 2 off, 3 step, 4 names, 5 turn, 6 found, 7 worth, 8 time, 9 kind, 10 ends, 11 begin, 12 end -/
def l1_l_true : SM := sFor (iRng (aCons (eVar 1) aNil)) (asgV 5)
    (sSeq (sAsg 8 (eOp addD (eVar 8) (eCall s_l_draw (aCons (eVar 0) (aCons (eOp addD (eVar 3) (eC (.int 1))) aNil)))))
    (sSeq (sAsg 9 (eCall s_l_any (aCons (eVar 0) (aCons (eLst (aCons (eC (.str ("write" : Str))) (aCons (eC (.str ("read" : Str))) (aCons (eC (.str ("read" : Str))) aNil)))) aNil))))
    (sSeq (sIf (tst (eOp eqV' (eVar 9) (eC (.str ("write" : Str)))))
    (sAsg 7 (eOp idxD (eVar 4) (eVar 5)))
    sSkip)
    (sSeq (sAsg 10 (eTup (aCons (fz (eOp subD (eVar 8) (eCall s_l_draw (aCons (eVar 0) (aCons (eOp addD (eVar 3) (eC (.int 1))) aNil))))) (aCons (fz (eOp addD (eVar 8) (eCall s_l_draw (aCons (eVar 0) (aCons (eOp addD (eVar 3) (eC (.int 1))) aNil))))) aNil))))
    (sSeq (sAsg 11 (eOp addD (eOp subD (eOp idxD (eVar 10) (eC (.int 0))) (eVar 2)) (eCall s_l_draw (aCons (eVar 0) (aCons (eOp addD (eOp mulD (eC (.int 2)) (eVar 2)) (eC (.int 1))) aNil)))))
    (sSeq (sAsg 12 (eOp addD (eOp subD (eOp idxD (eVar 10) (eC (.int 1))) (eVar 2)) (eCall s_l_draw (aCons (eVar 0) (aCons (eOp addD (eOp mulD (eC (.int 2)) (eVar 2)) (eC (.int 1))) aNil)))))
    (sDrop (eMethL 6 appendO (aCons (fz (eTup (aCons (fz (eVar 9)) (aCons (fz (eVar 7)) (aCons (fz (eCallB minD (aCons (eVar 11) (aCons (eVar 12) aNil)))) (aCons (fz (eCallB maxD (aCons (eVar 11) (aCons (eVar 12) aNil)))) aNil)))))) aNil)))))))))
def e_l_true : SM := (sSeq (sPar [6, 7, 8] (aCons (nsl (eLst aNil)) (aCons (nsl (eC (.int 0))) (aCons (nsl (eCall s_l_any (aCons (eVar 0) (aCons (eLst (aCons (eC (.int 0)) (aCons (fz (eUn negD (eC (.int 7)))) (aCons (fz (eOp powD (eC (.int 10)) (eC (.int 14)))) aNil)))) aNil)))) aNil))))
    (sSeq (sAsg 4 (eCall s_l_mixed (aCons (eVar 0) (aCons (eOp lrgD (eC (.int 1)) (eOp addD (eVar 1) (eC (.int 1)))) aNil))))
    (sSeq l1_l_true
    (sRet (eCallB tupleD (aCons (eCall s_l_mixed (aCons (eVar 0) (aCons (eVar 6) aNil))) aNil))))))
def s_l_true : FM := fnD 4 9 e_l_true
/-! l_worths: slots 0 book, 1 one -/
end CM
namespace CM
open PySem PySem.Spec PyProof.Rows L2 DL
/-! values_of: slots 0 log, 1 kind, 2 value, 3 begin, 4 end -/
/-! ends_of: slots 0 log, 1 found, 2 kind, 3 value, 4 begin, 5 end, 6 first, 7 last -/
/-! check_value: slots 0 log, 1 value -/
/-! operations_of: slots 0 log, 1 value, 2 index, 3 one -/
/-! write_of: slots 0 log, 1 value, 2 found, 3 index -/
/-! first_end: slots 0 log, 1 value -/
/-! last_begin: slots 0 log, 1 value -/
/-! is_earlier: slots 0 ends, 1 tolerance, 2 one, 3 other -/
/-! is_before: slots 0 log, 1 tolerance, 2 one, 3 other -/
end CM
namespace CM
open PySem PySem.Spec PyProof.Rows L2 DL
/-! is_integer: slots 0 value, 1 least, 2 greatest -/
def e_is_integer : SM := (sRet (eAnd (eCallB isiD (aCons (eVar 0) (aCons (eC (.ty "int")) aNil))) (eAnd (eNot (eCallB isiD (aCons (eVar 0) (aCons (eC (.ty "bool")) aNil)))) (eChain leD leD (eVar 1) (eVar 0) (eVar 2)))))
def s_is_integer : FM := fnD 3 0 e_is_integer
/-! check_index: slots 0 log, 1 value -/
/-! is_sure: slots 0 one, 1 other, 2 tolerance -/
/-! surely_before: slots 0 log, 1 tolerance, 2 one, 3 other -/
/-! are_stamps: slots 0 begin, 1 end -/
def e_are_stamps : SM := (sRet (eAnd (eCall s_is_integer (aCons (eVar 0) (aCons (eUn negD (eC (.int 1000000000000000))) (aCons (eC (.int 1000000000000000)) aNil)))) (eCall s_is_integer (aCons (eVar 1) (aCons (eVar 0) (aCons (eC (.int 1000000000000000)) aNil))))))
def s_are_stamps : FM := fnD 2 0 e_are_stamps
/-! is_operation: slots 0 value, 1 kind, 2 written, 3 begin, 4 end -/
def e_is_operation : SM := (sSeq (sIf (tOrM (tNotM (tst (eCallB isiD (aCons (eVar 0) (aCons (eC (.ty "tuple")) aNil))))) (tOrM (tst (eOp neV' (eCallB lenD (aCons (eVar 0) aNil)) (eC (.int 4)))) (tNotM (tst (eCallB isiD (aCons (eOp idxD (eVar 0) (eC (.int 0))) (aCons (eC (.ty "str")) aNil)))))))
    (sRet (eC (.bl false)))
    sSkip)
    (sSeq (sTgt (eVar 0) (tupG 4 (gsCons (asgV 1) (gsCons (asgV 2) (gsCons (asgV 3) (gsCons (asgV 4) gsNil))))))
    (sSeq (sIf (tOrM (tst (eOp ninD (eVar 1) (eTup (aCons (fz (eC (.str ("read" : Str)))) (aCons (fz (eC (.str ("write" : Str)))) aNil))))) (tNotM (tst (eCall s_is_integer (aCons (eVar 2) (aCons (eCallB intD (aCons (eOp eqV' (eVar 1) (eC (.str ("write" : Str)))) aNil)) (aCons (eC (.int 1000000000)) aNil)))))))
    (sRet (eC (.bl false)))
    sSkip)
    (sRet (eCall s_are_stamps (aCons (eVar 3) (aCons (eVar 4) aNil)))))))
def s_is_operation : FM := fnD 1 4 e_is_operation
/-! is_log: slots 0 value, 1 written, 2 one -/
def c1_is_log : EM := eLc [2] (iSeq (eVar 0)) (asgV 2) tYesD (fz (eCall s_is_operation (aCons (eVar 2) aNil)))
def c2_is_log : EM := eLc [2] (iSeq (eVar 0)) (asgV 2) (tst (eOp eqV' (eOp idxD (eVar 2) (eC (.int 0))) (eC (.str ("write" : Str))))) (fz (eOp idxD (eVar 2) (eC (.int 1))))
def e_is_log : SM := (sSeq (sIf (tOrM (tNotM (tst (eCallB isiD (aCons (eVar 0) (aCons (eC (.ty "tuple")) aNil))))) (tst (eOp gtD (eCallB lenD (aCons (eVar 0) aNil)) (eC (.int 200)))))
    (sRet (eC (.bl false)))
    sSkip)
    (sSeq (sIf (tNotM (tst (eCallB allD (aCons c1_is_log aNil))))
    (sRet (eC (.bl false)))
    sSkip)
    (sSeq (sAsg 1 c2_is_log)
    (sRet (eOp eqV' (eLenSet (eVar 1)) (eCallB lenD (aCons (eVar 1) aNil)))))))
def s_is_log : FM := fnD 1 2 e_is_log
/-! is_tolerance: slots 0 value -/
end CM
namespace CM
open PySem PySem.Spec PyProof.Rows L2 DL
/-! writes_of: slots 0 log, 1 index, 2 one -/
/-! single_faults: slots 0 log, 1 tolerance, 2 writes, 3 unwritten, 4 early, 5 index, 6 one -/
/-! marks_of: slots 0 log, 1 found, 2 index, 3 one, 4 first, 5 last -/
/-! pair_fault: slots 0 marks, 1 one, 2 other, 3 first, 4 last -/
/-! faults: slots 0 log, 1 tolerance, 2 some, 3 ends, 4 writes, 5 marks, 6 at, 7 one, 8 other, 9 value -/
/-! has_form: slots 0 log, 1 value, 2 index -/
/-! is_crossed: slots 0 some, 1 tolerance, 2 first, 3 second, 4 third, 5 fourth -/
/-! shows_fault: slots 0 log, 1 tolerance, 2 value, 3 word, 4 some, 5 index -/
/-! bound_of: slots 0 log, 1 fault, 2 some, 3 gaps, 4 index, 5 ahead, 6 later -/
end CM
namespace CM
open PySem PySem.Spec PyProof.Rows L2 DL
/-! without: slots 0 log, 1 values, 2 one -/
/-! checked: slots 0 log -/
def e_checked : SM := (sSeq (sIf (tNotM (tst (eCall s_is_log (aCons (eVar 0) aNil))))
    sBad
    sSkip)
    (sRet (eVar 0)))
def s_checked : FM := fnD 1 0 e_checked
/-! moved: slots 0 log, 1 amount, 2 kind, 3 value, 4 begin, 5 end -/
/-! widened: slots 0 log, 1 amount, 2 kind, 3 value, 4 begin, 5 end -/
end CM
namespace CM
open PySem PySem.Spec PyProof.Rows L2 DL
/-! l_is_fault: slots 0 book, 1 slack, 2 thing, 3 many, 4 some, 5 pairs, 6 is_written, 7 at, 8 one, 9 other -/
end CM
namespace CM
open PySem PySem.Spec PyProof.Rows L2 DL
/-! first_fault: slots 0 log, 1 tolerance, 2 fault -/
/-! can_explain: slots 0 log, 1 tolerance -/
/-! has_unwritten: slots 0 log, 1 fault -/
/-! least_tolerance: slots 0 log, 1 fault -/
/-! l_ends: slots 0 log_here, 1 found, 2 value, 3 own, 4 first, 5 one -/
/-! l_lost: slots 0 log_here, 1 written, 2 one, 3 value -/
/-! l_gaps: slots 0 log_here, 1 writes, 2 one, 3 some, 4 ends_here, 5 found, 6 at, 7 other, 8 value -/
/-! l_least: slots 0 log_here -/
/-! l_marks: slots 0 book, 1 found, 2 at, 3 one, 4 first, 5 last -/
/-! l_due_faults: slots 0 book, 1 slack, 2 some, 3 lost_here, 4 writes, 5 ends_here, 6 soon, 7 pairs, 8 marks_here, 9 at, 10 one, 11 other, 12 worth, 13 back -/
end CM
namespace CM
open PySem PySem.Spec PyProof.Rows L2 DL
/-! has_each_once: slots 0 log, 1 indexes, 2 index -/
/-! reads_right: slots 0 log, 1 indexes, 2 present, 3 index, 4 kind, 5 value, 6 begin, 7 end -/
/-! explains: slots 0 log, 1 tolerance, 2 value, 3 greatest, 4 index, 5 kind, 6 number, 7 begin, 8 end -/
/-! l_is_sure: slots 0 log, 1 tolerance, 2 one, 3 other -/
/-! l_fits: slots 0 log, 1 tolerance, 2 order, 3 value, 4 at, 5 index, 6 later -/
/-! l_all_orders: slots 0 many, 1 found, 2 turn, 3 longer, 4 some, 5 one -/
/-! moments: slots 0 log, 1 tolerance, 2 order, 3 index, 4 found, 5 present, 6 earliest -/
/-! l_are_moments: slots 0 log, 1 tolerance, 2 thing, 3 pair, 4 indexes, 5 times, 6 value, 7 index, 8 kind, 9 worth, 10 begin, 11 end -/
end CM
namespace CM
open PySem PySem.Spec PyProof.Rows L2 DL
/-! check_explained: slots 0 log, 1 tolerance, 2 fault -/
/-! ends_with: slots 0 ends, 1 read, 2 kind, 3 value, 4 begin, 5 end, 6 first, 7 last -/
/-! fits: slots 0 log, 1 tolerance, 2 ends, 3 read, 4 value, 5 writes, 6 first, 7 last, 8 other, 9 operation, 10 near, 11 far -/
/-! readable: slots 0 log, 1 tolerance, 2 begin, 3 end, 4 ends, 5 some, 6 value, 7 kind, 8 early, 9 late -/
/-! must_return: slots 0 log, 1 tolerance, 2 begin, 3 end, 4 found -/
/-! l_is_good: slots 0 log, 1 tolerance, 2 bound -/
end CM
namespace CM
open PySem PySem.Spec PyProof.Rows L2 DL
/-! free_value: slots 0 ends, 1 tolerance, 2 left, 3 firsts, 4 value, 5 rivals, 6 first, 7 rival -/
/-! value_order: slots 0 log, 1 tolerance, 2 left, 3 ends, 4 found, 5 value -/
/-! operations_along: slots 0 log, 1 values, 2 found, 3 value, 4 own, 5 index, 6 operation -/
/-! order_for: slots 0 log, 1 tolerance -/
end CM
namespace CM
open PySem PySem.Spec PyProof.Rows L2 DL
/-! tight: slots 0 log, 1 least, 2 fault -/
/-! evidence: slots 0 log, 1 found, 2 least, 3 barring -/
/-! is_integer_pair: slots 0 value, 1 part -/
/-! shows_moments: slots 0 log, 1 tolerance, 2 value, 3 indexes, 4 times, 5 index, 6 moment, 7 one, 8 other, 9 pair -/
/-! shows_least: slots 0 log, 1 tolerance, 2 value -/
end CM
namespace CM
open PySem PySem.Spec PyProof.Rows L2 DL
/-! l_is_faultO: slots 0 log, 1 tolerance, 2 fault, 3 word, 4 worths_here, 5 is_same, 6 a, 7 b, 8 c, 9 d, 10 one, 11 other -/
end CM
namespace CM
open PySem PySem.Spec PyProof.Rows L2 DL
/-! l_odd: slots 0 pot_here, 1 thing, 2 some -/
/-! l_bent: slots 0 pot_here, 1 thing, 2 deep, 3 at -/
/-! l_is_call: slots 0 thing -/
end CM
namespace CM
open PySem PySem.Spec PyProof.Rows L2 DL
/-! has_formY: slots 0 log, 1 value, 2 index -/
/-! shows_faultY: slots 0 log, 1 tolerance, 2 value, 3 word, 4 some, 5 index -/
/-! l_is_faultY: slots 0 book, 1 slack, 2 thing, 3 many, 4 some, 5 pairs, 6 is_written, 7 at, 8 one, 9 other -/
/-! l_drawn_fault: slots 0 pot_here, 1 book, 2 word, 3 many, 4 turn -/
end CM
namespace CM
open PySem PySem.Spec PyProof.Rows L2 DL
/-! Precedence: slots 0 self, 1 log, 2 tolerance -/
/-! Precedence_is_direct: slots 0 self, 1 one, 2 other -/
/-! Precedence_ahead_of: slots 0 self, 1 value, 2 near, 3 farthest, 4 others, 5 other -/
/-! precedence: slots 0 log, 1 tolerance, 2 wanted, 3 value -/
/-! must_precede: slots 0 log, 1 tolerance, 2 one, 3 other -/
/-! l_ahead: slots 0 log, 1 tolerance, 2 value, 3 turn, 4 ends_here, 5 found, 6 more, 7 near, 8 one -/
/-! l_fine: slots 0 pot_here, 1 most, 2 way, 3 log, 4 least_here, 5 some -/
/-! Precedence_behind: slots 0 self, 1 value, 2 other -/
/-! positions: slots 0 log, 1 tolerance, 2 value, 3 found -/
/-! order_with: slots 0 log, 1 tolerance, 2 value, 3 position, 4 found, 5 values, 6 loose, 7 first, 8 early, 9 ahead, 10 behind, 11 other -/
/-! final_values: slots 0 log, 1 tolerance, 2 found, 3 last, 4 value, 5 other -/
end CM
set_option maxHeartbeats 2000000
namespace CM
open PySem PySem.Spec PyProof.Rows L2 DL
structure Pot (c : Nat) (p : List D) : Prop where
  ex : ∃ a b k : Int, p = [.int a, .int b, .int k] ∧ 0 ≤ a ∧ 0 ≤ b ∧ b < 2305843009213693921 ∧ 0 ≤ k ∧ k ≤ c
theorem Pot.mono {c c' : Nat} {p : List D} (h : Pot c p) (hc : c ≤ c') : Pot c' p := by
  obtain ⟨a, b, k, e, h1, h2, h3, h4, h5⟩ := h.ex
  exact ⟨a, b, k, e, h1, h2, h3, h4, by omega⟩
theorem log_cube {b k : Int} (hb : 0 ≤ b) (hb2 : b < 2305843009213693921) (hk : 0 ≤ k) (hk2 : k ≤ 1000000000) : powI (b + 98321 * k * k + 47) 3 = some ((b + 98321 * k * k + 47) ^ (3 : Int).toNat) := by
  unfold powI
  rw [if_pos]
  refine ⟨by decide, ?_⟩
  have h1 : k * k ≤ 1000000000 * 1000000000 := Int.mul_le_mul hk2 hk2 hk (by decide)
  have h0 : 0 ≤ k * k := Int.mul_nonneg hk hk
  have h2 : (b + 98321 * k * k + 47).natAbs < 2 ^ 100 := by
    rw [Int.mul_assoc]
    have : (2 : Nat) ^ 100 = 1267650600228229401496703205376 := by decide
    omega
  have h3 : (b + 98321 * k * k + 47).natAbs ≠ 0 := by
    rw [Int.mul_assoc]
    omega
  have h4 := (Nat.log2_lt h3).mpr h2
  have h5 : (3 : Int).toNat = 3 := rfl
  rw [h5]
  omega
theorem atI_of {α : Type} {xs : List α} {i : Int} (h0 : 0 ≤ i) (h1 : i < xs.length) : ∃ x, atI xs i = some x ∧ xs[i.toNat]? = some x := by
  have : i.toNat < xs.length := by omega
  refine ⟨xs[i.toNat], ?_, List.getElem?_eq_getElem this⟩
  unfold atI ixN
  rw [if_pos h0, if_pos h1]
  exact List.getElem?_eq_getElem this
section
local macro_rules
  | `(tactic| infer_instance) => `(tactic| (first | with_reducible refine b_op ?_ | with_reducible refine b_cb ?_ | with_reducible refine b_un ?_ | with_reducible refine b_call ?_ | with_reducible refine b_cons ?_ | with_reducible refine b_nil ?_ | with_reducible refine b_C ?_ | with_reducible refine b_tup ?_ | with_reducible refine b_lst ?_ | with_reducible refine b_fz ?_ | with_reducible refine b_nsl ?_ | with_reducible refine b_nslD ?_ | with_reducible refine b_nslF ?_ | with_reducible refine b_nslS ?_ | with_reducible refine b_tst ?_ | with_reducible refine b_bT ?_ | with_reducible refine b_andK ?_ | with_reducible refine b_orK ?_ | with_reducible refine b_not ?_ | with_reducible refine b_eIf ?_ | with_reducible refine b_ok ?_ | with_reducible refine b_rng ?_ | with_reducible refine b_iseq ?_ | with_reducible refine b_yes ?_ | with_reducible refine s_seq ?_ | with_reducible refine s_skip ?_ | with_reducible refine s_drop ?_ | with_reducible refine s_ret ?_ | with_reducible refine s_retN ?_ | with_reducible refine s_break ?_ | with_reducible refine s_cont ?_ | with_reducible refine s_if ?_ | with_reducible refine s_asg ?_ | with_reducible refine s_par ?_ | with_reducible refine s_tgt ?_ | with_reducible refine s_for ?_ | with_reducible refine s_loop ?_ | with_reducible refine s_store ?_ | with_reducible refine s_asgsN ?_ | with_reducible refine f_d ?_ | with_reducible refine f_fr ?_ | ((with_reducible apply b_var_d); rfl) | ((with_reducible apply b_var_o); rfl) | ((with_reducible apply b_fzv); rfl) | ((with_reducible apply b_fzvA); rfl) | ((with_reducible apply s_asgV); rfl) | ((with_reducible apply s_asgs); rfl) | ((with_reducible apply s_asgsD); rfl; first | assumption | exact Fr.un | exact Fr.dat | exact Fr.own) | ((with_reducible apply s_asgsO); rfl; first | assumption | exact Fr.un | exact Fr.dat | exact Fr.own) | ((with_reducible apply s_asgF); rfl; first | assumption | exact Fr.un | exact Fr.dat | exact Fr.own) | ((with_reducible apply s_asgFO); rfl; first | assumption | exact Fr.un | exact Fr.dat | exact Fr.own) | ((with_reducible apply s_storeV); rfl) | ((with_reducible apply s_storeK); rfl) | ((with_reducible apply b_methL); rfl) | ((with_reducible apply b_methV); rfl) | ((with_reducible apply b_mkTup); rfl; exact Nat.le_of_ble_eq_true rfl) | ((with_reducible apply b_mkLst); rfl; exact Nat.le_of_ble_eq_true rfl) | ((with_reducible apply f_sl); rfl) | ((with_reducible apply f_sld); rfl) | ((with_reducible apply x_mul); rfl; rfl; (first | omega | decide)) | ((with_reducible apply x_mod); rfl; rfl; decide) | ((with_reducible apply x_div); rfl; rfl; (first | omega | decide)) | ((with_reducible apply b_opV); rfl; rfl; rfl) | ((with_reducible apply b_unV); rfl; rfl) | ((with_reducible apply b_callV); rfl; rfl) | ((with_reducible apply b_callF); rfl; rfl) | ((with_reducible apply b_rng1); (first | omega | decide)) | ((with_reducible apply b_rng2); (first | omega | decide))))
theorem draw_wp {p : List D} {n : Int} {c : Nat} {Q : Val → DEnv → Prop} {X : Ex → DEnv → Prop} (hp : Pot c p) (hc : c < 1000000000) (hn : 0 < n) (hn2 : n < 1000000000000000000) (q : ∀ r p', 0 ≤ r → r < n → Pot (c + 1) p' → Q (.d (.int r)) [.ow (.lst p') .bor, .d (.int n)]) : (s_l_draw [.ow (.lst p) .bor, .d (.int n)]).wp Q X := by
  obtain ⟨a, b, k, rfl, ha, hb, hb2, hk, hk2⟩ := hp.ex
  unfold s_l_draw e_l_draw
  refine f_fn rfl ?_
  repeat infer_instance
  refine ⟨fun h => ?_, fun h => ?_⟩
  · have ha0 : 0 < a := of_decide_eq_true h
    repeat infer_instance
    refine x_mod rfl rfl hn ?_
    repeat infer_instance
    exact q _ _ (Int.emod_nonneg _ (by omega)) (Int.emod_lt_of_pos _ hn) ⟨_, _, _, rfl, Int.ediv_nonneg ha (by omega), hb, hb2, hk, by omega⟩
  · repeat infer_instance
    have hx : ∃ pr, atI [D.int 2147483647, D.int 2147483629, D.int 2147483587, D.int 2147483579, D.int 2147483563] ((k + 1) % 5) = some (.int pr) ∧ 2147483563 ≤ pr ∧ pr ≤ 2147483647 := by
      have : (k + 1) % 5 = 0 ∨ (k + 1) % 5 = 1 ∨ (k + 1) % 5 = 2 ∨ (k + 1) % 5 = 3 ∨ (k + 1) % 5 = 4 := by omega
      rcases this with e | e | e | e | e <;> rw [e] <;> exact ⟨_, rfl, by decide, by decide⟩
    obtain ⟨pr, e, g1, g2⟩ := hx
    refine x_idx rfl rfl e ?_
    repeat infer_instance
    refine x_pow rfl rfl (log_cube hb hb2 (by omega) (by omega)) ?_
    repeat infer_instance
    refine x_modG rfl rfl (by omega) fun m m1 m2 _ => ?_
    repeat infer_instance
    refine x_mod rfl rfl hn ?_
    repeat infer_instance
    exact q _ _ (Int.emod_nonneg _ (by omega)) (Int.emod_lt_of_pos _ hn) ⟨_, _, _, rfl, ha, hb, hb2, by omega, by omega⟩
theorem any_wp {p : List D} {s : Slot} {ds : List D} {c : Nat} {Q : Val → DEnv → Prop} {X : Ex → DEnv → Prop} (hp : Pot c p) (hc : c < 1000000000) (hs : s = .ow (.lst ds) .own ∨ s = .ow (.lst ds) .bor ∨ s = .d (.lst ds) ∨ s = .d (.tup ds)) (hl : 0 < ds.length) (hl2 : ds.length < 1000000000)
    (q : ∀ x p', x ∈ ds → Pot (c + 1) p' → Q (.d x) [.ow (.lst p') .bor, backSlot s (some s)]) : (s_l_any [.ow (.lst p) .bor, s]).wp Q X := by
  rcases hs with rfl | rfl | rfl | rfl
  all_goals
    unfold s_l_any e_l_any
    refine f_fn rfl ?_
    repeat infer_instance
    refine draw_wp hp hc (by omega) (by omega) fun r p' h1 h2 hp' => ?_
    obtain ⟨x, e, e2⟩ := atI_of h1 h2
    first | refine x_idx rfl rfl e ?_ | refine x_idxT rfl rfl e ?_
    repeat infer_instance
    exact q x p' (List.mem_of_getElem? e2) hp'
theorem pot_pos {x : Int} {b : Bool} : 0 ≤ (if x < 0 then -x else x) % (10 ^ Int.toNat 60) ^ Int.toNat 5 * (if b = true then 1 else 0) := by
  refine Int.mul_nonneg (Int.emod_nonneg _ (by decide +kernel)) ?_
  split <;> decide
theorem pot_wp {ns : List Int} {i : Int} {Q : Val → DEnv → Prop} {X : Ex → DEnv → Prop} (h0 : 0 ≤ i) (h1 : i < 1000) (q : ∀ p, Pot 0 p → Q (.fr (.lst p)) [.d (.scr ns), .d (.int i)]) : (s_l_pot [.d (.scr ns), .d (.int i)]).wp Q X := by
  unfold s_l_pot e_l_pot
  refine f_fn rfl ?_
  repeat infer_instance
  refine ⟨fun h => ?_, fun h => ?_⟩
  · obtain ⟨x, e, e2⟩ := atI_of (xs := ns) h0 (of_decide_eq_true h)
    repeat infer_instance
    refine x_idxS rfl rfl e ?_
    repeat infer_instance
    exact q _ ⟨_, _, _, rfl, pot_pos, Int.emod_nonneg _ (by decide), Int.emod_lt_of_pos _ (by decide), by decide, by decide⟩
  · repeat infer_instance
    exact q _ ⟨_, _, _, rfl, pot_pos, Int.emod_nonneg _ (by decide), Int.emod_lt_of_pos _ (by decide), by decide, by decide⟩
theorem erase_perm : ∀ {l : List D} {j : Nat} {d : D}, l[j]? = some d → (d :: l.eraseIdx j).Perm l
  | [], j, d, h => by simp at h
  | x :: l, 0, d, h => by simp at h; subst h; exact .refl _
  | x :: l, j + 1, d, h => by
    have h2 := erase_perm (l := l) (j := j) (d := d) (by simpa using h)
    rw [List.eraseIdx_cons_succ]
    exact (List.Perm.swap x d _).trans (h2.cons x)
theorem perm_erase {left found : List D} {j : Nat} {d : D} (h : left[j]? = some d) : (found ++ [d] ++ left.eraseIdx j).Perm (found ++ left) := by
  rw [List.append_assoc]
  refine List.Perm.append_left _ ?_
  exact erase_perm h
theorem mixed_loop {p : List D} {s : Slot} {ds : List D} {c : Nat} {P : Po} (hp : Pot c p) (hg : ∀ x ∈ ds, x.good = true) (hd : ∀ x ∈ ds, x.dep ≤ 60) (hl2 : ds.length < 900000) (hc : c + ds.length < 1000000000)
    (q : ∀ es p', es.Perm ds → Pot (c + ds.length) p' → P.nx [.ow (.lst p') .bor, s, .ow (.lst []) .own, .ow (.lst es) .own]) : (l1_l_mixed [.ow (.lst p) .bor, s, .ow (.lst ds) .own, .ow (.lst []) .own]).wp P := by
  unfold l1_l_mixed
  refine while_inv (fun ρ k => ∃ p' left found, ρ = [.ow (.lst p') .bor, s, .ow (.lst left) .own, .ow (.lst found) .own] ∧ (found ++ left).Perm ds ∧ k = left.length ∧ Pot (c + (ds.length - left.length)) p') 1000000 _ ds.length (by omega) ⟨p, ds, [], rfl, .refl _, rfl, by rw [Nat.sub_self]; exact hp⟩ fun ρ k h => ?_
  obtain ⟨p', left, found, rfl, pm, rfl, hp'⟩ := h
  have lm : ∀ x ∈ left, x ∈ ds := fun x hx => pm.mem_iff.mp (List.mem_append_right _ hx)
  have gl : goodL left = true := goodL_iff.mpr fun x hx => hg x (lm x hx)
  have hlen : found.length + left.length = ds.length := by rw [← List.length_append]; exact pm.length_eq
  repeat infer_instance
  refine x_ne rfl rfl (eqD_good (a := .lst left) (b := .lst []) (by simpa [D.good] using gl) rfl (by
    have := depL_le.mpr fun x hx => hd x (lm x hx)
    simp only [D.dep]
    omega) (by decide)) ?_
  rw [eqG_nil gl]
  repeat infer_instance
  refine ⟨fun h => ?_, fun h => ?_⟩
  · have e : left = [] := by cases left <;> simp_all
    subst e
    rw [List.append_nil] at pm
    exact q found p' pm (by simpa using hp')
  · have hpos : 0 < left.length := by cases left <;> simp_all
    repeat infer_instance
    refine draw_wp hp' (by omega) (by omega) (by omega) fun r p2 h1 h2 hp2 => ?_
    repeat infer_instance
    refine x_popAt rfl (.inl rfl) h1 h2 (by omega) fun d hd => ?_
    repeat infer_instance
    refine x_append rfl (.inl rfl) (by omega) ?_
    repeat infer_instance
    have hel : (left.eraseIdx r.toNat).length = left.length - 1 := List.length_eraseIdx_of_lt (by omega)
    refine ⟨(left.eraseIdx r.toNat).length, by omega, p2, left.eraseIdx r.toNat, found ++ [d], rfl, (perm_erase hd).trans pm, rfl, ?_⟩
    rw [hel, show ds.length - (left.length - 1) = ds.length - left.length + 1 by omega]
    exact hp2
theorem mixed_wp {p : List D} {s : Slot} {ds : List D} {c : Nat} {Q : Val → DEnv → Prop} {X : Ex → DEnv → Prop} (hp : Pot c p) (hs : s = .ow (.lst ds) .own ∨ s = .ow (.lst ds) .bor ∨ s = .d (.lst ds) ∨ s = .d (.tup ds)) (hg : ∀ x ∈ ds, x.good = true) (hd : ∀ x ∈ ds, x.dep ≤ 60) (hl2 : ds.length < 900000) (hc : c + ds.length < 1000000000)
    (q : ∀ es p', es.Perm ds → Pot (c + ds.length) p' → Q (.fr (.lst es)) [.ow (.lst p') .bor, backSlot s (some s)]) : (s_l_mixed [.ow (.lst p) .bor, s]).wp Q X := by
  rcases hs with rfl | rfl | rfl | rfl
  all_goals
    unfold s_l_mixed e_l_mixed
    refine f_fn rfl ?_
    repeat infer_instance
    refine mixed_loop hp hg hd hl2 hc fun es p' pm hp' => ?_
    repeat infer_instance
    exact q es p' pm hp'
/-! ### logs -/
def OpIs (d : D) (k : Str) (v b e : Int) : Prop := d = .tup [.str k, .int v, .int b, .int e]
structure OpOk (d : D) : Prop where
  ex : ∃ k v b e, OpIs d k v b e ∧ ((k = "write" ∧ 1 ≤ v) ∨ (k = "read" ∧ 0 ≤ v)) ∧ v ≤ 1000000000 ∧ -1000000000000000 ≤ b ∧ b ≤ e ∧ e ≤ 1000000000000000
def wroteOf : D → Option Int
  | .tup [.str k, .int v, .int _, .int _] => if k = "write" then some v else none
  | _ => none
def wrote (ds : List D) : List Int := ds.filterMap wroteOf
structure LogOk (ds : List D) : Prop where
  ops : ∀ d ∈ ds, OpOk d
  nd : (wrote ds).Nodup
theorem LogOk.perm {ds es : List D} (h : LogOk ds) (p : es.Perm ds) : LogOk es := ⟨fun d hd => h.ops d (p.mem_iff.mp hd), ((p.filterMap wroteOf).nodup_iff).mpr h.nd⟩
theorem OpOk.gd {d : D} (h : OpOk d) : Gd 1 5 d := by
  obtain ⟨k, v, b, e, rfl, hk, h1, h2, h3, h4⟩ := h.ex
  have hv : 0 ≤ v := by rcases hk with ⟨_, h⟩ | ⟨_, h⟩ <;> omega
  have gs : (D.str k).good = true ∧ (D.str k).short = true := by rcases hk with ⟨rfl, _⟩ | ⟨rfl, _⟩ <;> exact ⟨by decide +kernel, by decide +kernel⟩
  have big : (2 : Nat) ^ 200 = 1606938044258990275541962092341162602522202993782792835301376 := by decide +kernel
  refine ⟨by simp_all [D.good, goodL], ?_, by simp [D.dep, depL], by simp [D.cnt, cntL]⟩
  · simp only [D.short, shortL] at gs ⊢
    simp only [Bool.and_eq_true, decide_eq_true_eq, Bool.and_true]
    refine ⟨by simpa using gs.2, ?_, ?_, ?_⟩ <;> (rw [big]; omega)
theorem wrote_app {ds : List D} {d : D} : wrote (ds ++ [d]) = wrote ds ++ (wroteOf d).toList := by
  unfold wrote
  rw [List.filterMap_append]
  rfl
theorem LogOk.write {ds : List D} {v b e : Int} (h : LogOk ds) (hv : 1 ≤ v) (hv2 : v ≤ 1000000000) (hb : -1000000000000000 ≤ b) (hbe : b ≤ e) (he : e ≤ 1000000000000000) (hn : v ∉ wrote ds) : LogOk (ds ++ [.tup [.str "write", .int v, .int b, .int e]]) := by
  refine ⟨fun d hd => ?_, ?_⟩
  · rcases List.mem_append.mp hd with z | z
    · exact h.ops d z
    · rw [List.mem_singleton] at z; subst z
      exact ⟨_, _, _, _, rfl, .inl ⟨rfl, hv⟩, hv2, hb, hbe, he⟩
  · rw [wrote_app]
    show (wrote ds ++ [v]).Nodup
    rw [List.nodup_append]
    refine ⟨h.nd, by simp, fun a ha b hb => ?_⟩
    rw [List.mem_singleton] at hb
    subst hb
    exact fun z => hn (z ▸ ha)
theorem LogOk.read {ds : List D} {v b e : Int} (h : LogOk ds) (hv : 0 ≤ v) (hv2 : v ≤ 1000000000) (hb : -1000000000000000 ≤ b) (hbe : b ≤ e) (he : e ≤ 1000000000000000) : LogOk (ds ++ [.tup [.str "read", .int v, .int b, .int e]]) := by
  refine ⟨fun d hd => ?_, ?_⟩
  · rcases List.mem_append.mp hd with z | z
    · exact h.ops d z
    · rw [List.mem_singleton] at z; subst z
      exact ⟨_, _, _, _, rfl, .inr ⟨rfl, hv⟩, hv2, hb, hbe, he⟩
  · rw [wrote_app]
    show (wrote ds ++ []).Nodup
    rw [List.append_nil]
    exact h.nd
theorem wrote_mem {ds : List D} {w : Int} (h : w ∈ wrote ds) : ∃ b e, D.tup [.str "write", .int w, .int b, .int e] ∈ ds := by
  unfold wrote at h
  obtain ⟨d, hd, e⟩ := List.mem_filterMap.mp h
  unfold wroteOf at e
  split at e
  · split at e
    · rename_i hk
      cases e
      subst hk
      exact ⟨_, _, hd⟩
    · cases e
  · cases e
theorem wrote_bd {ds : List D} (h : LogOk ds) {w : Int} (hw : w ∈ wrote ds) : 1 ≤ w ∧ w ≤ 1000000000 := by
  obtain ⟨b, e, hm⟩ := wrote_mem hw
  obtain ⟨k, v, b', e', hd, hk, h1, _⟩ := (h.ops _ hm).ex
  cases hd
  rcases hk with ⟨_, h⟩ | ⟨hk, h⟩
  · exact ⟨h, h1⟩
  · exact absurd hk (by decide)
theorem wrote_len {ds : List D} : (wrote ds).length ≤ ds.length := List.length_filterMap_le _ _
end
section
local macro_rules
  | `(tactic| infer_instance) => `(tactic| (first | with_reducible refine b_op ?_ | with_reducible refine b_cb ?_ | with_reducible refine b_un ?_ | with_reducible refine b_call ?_ | with_reducible refine b_cons ?_ | with_reducible refine b_nil ?_ | with_reducible refine b_C ?_ | with_reducible refine b_tup ?_ | with_reducible refine b_lst ?_ | with_reducible refine b_fz ?_ | with_reducible refine b_nsl ?_ | with_reducible refine b_nslD ?_ | with_reducible refine b_nslF ?_ | with_reducible refine b_nslS ?_ | with_reducible refine b_tst ?_ | with_reducible refine b_bT ?_ | with_reducible refine b_andK ?_ | with_reducible refine b_orK ?_ | with_reducible refine b_not ?_ | with_reducible refine b_eIf ?_ | with_reducible refine b_ok ?_ | with_reducible refine b_rng ?_ | with_reducible refine b_iseq ?_ | with_reducible refine b_yes ?_ | with_reducible refine s_skip ?_ | with_reducible refine s_drop ?_ | with_reducible refine s_ret ?_ | with_reducible refine s_retN ?_ | with_reducible refine s_break ?_ | with_reducible refine s_cont ?_ | with_reducible refine s_if ?_ | with_reducible refine s_asg ?_ | with_reducible refine s_par ?_ | with_reducible refine s_tgt ?_ | with_reducible refine s_for ?_ | with_reducible refine s_loop ?_ | with_reducible refine s_store ?_ | with_reducible refine s_asgsN ?_ | with_reducible refine f_d ?_ | with_reducible refine f_fr ?_ | ((with_reducible apply s_seqN); exact (rfl : _ = [_, _, _, _, _, _, _, _, _, _])) | ((with_reducible apply b_var_d); rfl) | ((with_reducible apply b_var_o); rfl) | ((with_reducible apply b_fzv); rfl) | ((with_reducible apply b_fzvA); rfl) | ((with_reducible apply s_asgV); rfl) | ((with_reducible apply s_asgs); rfl) | ((with_reducible apply s_asgsD); rfl; first | assumption | exact Fr.un | exact Fr.dat | exact Fr.own) | ((with_reducible apply s_asgsO); rfl; first | assumption | exact Fr.un | exact Fr.dat | exact Fr.own) | ((with_reducible apply s_asgF); rfl; first | assumption | exact Fr.un | exact Fr.dat | exact Fr.own) | ((with_reducible apply s_asgFO); rfl; first | assumption | exact Fr.un | exact Fr.dat | exact Fr.own) | ((with_reducible apply s_storeV); rfl) | ((with_reducible apply s_storeK); rfl) | ((with_reducible apply b_methL); rfl) | ((with_reducible apply b_methV); rfl) | ((with_reducible apply b_mkTup); rfl; exact Nat.le_of_ble_eq_true rfl) | ((with_reducible apply b_mkLst); rfl; exact Nat.le_of_ble_eq_true rfl) | ((with_reducible apply f_sl); rfl) | ((with_reducible apply f_sld); rfl) | ((with_reducible apply x_mul); rfl; rfl; (first | omega | decide)) | ((with_reducible apply x_mod); rfl; rfl; decide) | ((with_reducible apply x_div); rfl; rfl; (first | omega | decide)) | ((with_reducible apply b_opV); rfl; rfl; rfl) | ((with_reducible apply b_unV); rfl; rfl) | ((with_reducible apply b_callV); rfl; rfl) | ((with_reducible apply b_callF); rfl; rfl) | ((with_reducible apply b_rng1); (first | omega | decide)) | ((with_reducible apply b_rng2); (first | omega | decide))))
end
end CM
set_option maxHeartbeats 2000000
namespace CM
open PySem PySem.Spec PyProof.Rows L2 DL
theorem LogOk.len4 {ds : List D} (h : LogOk ds) : (∀ x ∈ ds, x.good = true) ∧ ∀ x ∈ ds, x.dep ≤ 60 := ⟨fun x hx => (h.ops x hx).gd.good, fun x hx => Nat.le_trans (h.ops x hx).gd.dep (by decide)⟩
section
local macro_rules
  | `(tactic| infer_instance) => `(tactic| (first | with_reducible refine b_op ?_ | with_reducible refine b_cb ?_ | with_reducible refine b_un ?_ | with_reducible refine b_call ?_ | with_reducible refine b_cons ?_ | with_reducible refine b_nil ?_ | with_reducible refine b_C ?_ | with_reducible refine b_tup ?_ | with_reducible refine b_lst ?_ | with_reducible refine b_fz ?_ | with_reducible refine b_nsl ?_ | with_reducible refine b_nslD ?_ | with_reducible refine b_nslF ?_ | with_reducible refine b_nslS ?_ | with_reducible refine b_tst ?_ | with_reducible refine b_bT ?_ | with_reducible refine b_andK ?_ | with_reducible refine b_orK ?_ | with_reducible refine b_not ?_ | with_reducible refine b_eIf ?_ | with_reducible refine b_ok ?_ | with_reducible refine b_rng ?_ | with_reducible refine b_iseq ?_ | with_reducible refine b_yes ?_ | with_reducible refine s_skip ?_ | with_reducible refine s_drop ?_ | with_reducible refine s_ret ?_ | with_reducible refine s_retN ?_ | with_reducible refine s_break ?_ | with_reducible refine s_cont ?_ | with_reducible refine s_if ?_ | with_reducible refine s_asg ?_ | with_reducible refine s_par ?_ | with_reducible refine s_tgt ?_ | with_reducible refine s_for ?_ | with_reducible refine s_loop ?_ | with_reducible refine s_store ?_ | with_reducible refine s_asgsN ?_ | with_reducible refine f_d ?_ | with_reducible refine f_fr ?_ | ((with_reducible apply s_seqN); exact (rfl : _ = [_, _, _, _, _, _, _, _, _, _])) | ((with_reducible apply b_var_d); rfl) | ((with_reducible apply b_var_o); rfl) | ((with_reducible apply b_fzv); rfl) | ((with_reducible apply b_fzvA); rfl) | ((with_reducible apply s_asgV); rfl) | ((with_reducible apply s_asgs); rfl) | ((with_reducible apply s_asgsD); rfl; first | assumption | exact Fr.un | exact Fr.dat | exact Fr.own) | ((with_reducible apply s_asgsO); rfl; first | assumption | exact Fr.un | exact Fr.dat | exact Fr.own) | ((with_reducible apply s_asgF); rfl; first | assumption | exact Fr.un | exact Fr.dat | exact Fr.own) | ((with_reducible apply s_asgFO); rfl; first | assumption | exact Fr.un | exact Fr.dat | exact Fr.own) | ((with_reducible apply s_storeV); rfl) | ((with_reducible apply s_storeK); rfl) | ((with_reducible apply b_methL); rfl) | ((with_reducible apply b_methV); rfl) | ((with_reducible apply b_mkTup); rfl; exact Nat.le_of_ble_eq_true rfl) | ((with_reducible apply b_mkLst); rfl; exact Nat.le_of_ble_eq_true rfl) | ((with_reducible apply f_sl); rfl) | ((with_reducible apply f_sld); rfl) | ((with_reducible apply x_mul); rfl; rfl; (first | omega | decide)) | ((with_reducible apply x_mod); rfl; rfl; decide) | ((with_reducible apply x_div); rfl; rfl; (first | omega | decide)) | ((with_reducible apply b_opV); rfl; rfl; rfl) | ((with_reducible apply b_unV); rfl; rfl) | ((with_reducible apply b_callV); rfl; rfl) | ((with_reducible apply b_callF); rfl; rfl) | ((with_reducible apply b_rng1); (first | omega | decide)) | ((with_reducible apply b_rng2); (first | omega | decide))))
def intOf : D → Option Int
  | .int i => some i
  | _ => none
theorem intOf_map : ∀ (ns : List Int), (ns.map D.int).filterMap intOf = ns
  | [] => rfl
  | n :: ns => by rw [List.map_cons, List.filterMap_cons]; show n :: _ = _; rw [intOf_map ns]
theorem ints_perm {es : List D} {ns : List Int} (h : es.Perm (ns.map D.int)) : ∃ ms : List Int, es = ms.map D.int ∧ ms.Perm ns := by
  have hp := h.filterMap intOf
  rw [intOf_map] at hp
  refine ⟨es.filterMap intOf, ?_, hp⟩
  have hm : ∀ d ∈ es, ∃ i, d = D.int i := fun d hd => by
    obtain ⟨i, _, e⟩ := List.mem_map.mp (h.mem_iff.mp hd)
    exact ⟨i, e.symm⟩
  clear h hp
  induction es with
  | nil => rfl
  | cons e es ih =>
    obtain ⟨i, rfl⟩ := hm e List.mem_cons_self
    rw [List.filterMap_cons]
    show _ = D.int i :: _
    rw [← ih fun d hd => hm d (List.mem_cons_of_mem _ hd)]
theorem rgL_ints {i j : Int} : rgL i j = ((List.range (j - i).toNat).map fun k : Nat => i + (k : Int)).map D.int := by
  unfold rgL
  rw [List.map_map]
  rfl
theorem rgI_nodup {i : Int} {n : Nat} : ((List.range n).map fun k : Nat => i + (k : Int)).Nodup := by
  rw [List.nodup_iff_pairwise_ne, List.pairwise_map]
  exact List.pairwise_lt_range.imp fun h e => by omega
theorem nodup_get : ∀ {l : List Int} {i j : Nat} {x : Int}, l.Nodup → l[i]? = some x → l[j]? = some x → i = j
  | [], i, j, x, _, e, _ => by simp at e
  | a :: l, i, j, x, nd, e1, e2 => by
    rw [List.nodup_cons] at nd
    cases i with
    | zero => cases j with
      | zero => rfl
      | succ j =>
        have e1 : a = x := by simpa using e1
        subst e1
        exact absurd (List.mem_of_getElem? (i := j) (by simpa using e2)) nd.1
    | succ i => cases j with
      | zero =>
        have e2 : a = x := by simpa using e2
        subst e2
        exact absurd (List.mem_of_getElem? (i := i) (by simpa using e1)) nd.1
      | succ j => exact congrArg (· + 1) (nodup_get nd.2 (by simpa using e1) (by simpa using e2))
structure TrueArgs (many off step : Int) : Prop where
  m0 : 0 ≤ many
  m1 : many ≤ 1000
  o0 : 0 ≤ off
  o1 : off ≤ 100000000000
  s0 : 0 ≤ step
  s1 : step ≤ 100000000000
end
section
local macro_rules
  | `(tactic| infer_instance) => `(tactic| (first | with_reducible refine b_op ?_ | with_reducible refine b_cb ?_ | with_reducible refine b_un ?_ | with_reducible refine b_call ?_ | with_reducible refine b_cons ?_ | with_reducible refine b_nil ?_ | with_reducible refine b_C ?_ | with_reducible refine b_tup ?_ | with_reducible refine b_lst ?_ | with_reducible refine b_fz ?_ | with_reducible refine b_nsl ?_ | with_reducible refine b_nslD ?_ | with_reducible refine b_nslF ?_ | with_reducible refine b_nslS ?_ | with_reducible refine b_tst ?_ | with_reducible refine b_bT ?_ | with_reducible refine b_andK ?_ | with_reducible refine b_orK ?_ | with_reducible refine b_not ?_ | with_reducible refine b_eIf ?_ | with_reducible refine b_ok ?_ | with_reducible refine b_rng ?_ | with_reducible refine b_iseq ?_ | with_reducible refine b_yes ?_ | with_reducible refine s_skip ?_ | with_reducible refine s_drop ?_ | with_reducible refine s_ret ?_ | with_reducible refine s_retN ?_ | with_reducible refine s_break ?_ | with_reducible refine s_cont ?_ | with_reducible refine s_if ?_ | with_reducible refine s_asg ?_ | with_reducible refine s_par ?_ | with_reducible refine s_tgt ?_ | with_reducible refine s_for ?_ | with_reducible refine s_loop ?_ | with_reducible refine s_store ?_ | with_reducible refine s_asgsN ?_ | with_reducible refine f_d ?_ | with_reducible refine f_fr ?_ | ((with_reducible apply s_seqN); exact (rfl : _ = [_, _, _, _, _, _, _, _, _, _, _, _, _])) | ((with_reducible apply b_var_d); rfl) | ((with_reducible apply b_var_o); rfl) | ((with_reducible apply b_fzv); rfl) | ((with_reducible apply b_fzvA); rfl) | ((with_reducible apply s_asgV); rfl) | ((with_reducible apply s_asgs); rfl) | ((with_reducible apply s_asgsD); rfl; first | assumption | exact Fr.un | exact Fr.dat | exact Fr.own) | ((with_reducible apply s_asgsO); rfl; first | assumption | exact Fr.un | exact Fr.dat | exact Fr.own) | ((with_reducible apply s_asgF); rfl; first | assumption | exact Fr.un | exact Fr.dat | exact Fr.own) | ((with_reducible apply s_asgFO); rfl; first | assumption | exact Fr.un | exact Fr.dat | exact Fr.own) | ((with_reducible apply s_storeV); rfl) | ((with_reducible apply s_storeK); rfl) | ((with_reducible apply b_methL); rfl) | ((with_reducible apply b_methV); rfl) | ((with_reducible apply b_mkTup); rfl; exact Nat.le_of_ble_eq_true rfl) | ((with_reducible apply b_mkLst); rfl; exact Nat.le_of_ble_eq_true rfl) | ((with_reducible apply f_sl); rfl) | ((with_reducible apply f_sld); rfl) | ((with_reducible apply x_mul); rfl; rfl; (first | omega | decide)) | ((with_reducible apply x_mod); rfl; rfl; decide) | ((with_reducible apply x_div); rfl; rfl; (first | omega | decide)) | ((with_reducible apply b_opV); rfl; rfl; rfl) | ((with_reducible apply b_unV); rfl; rfl) | ((with_reducible apply b_callV); rfl; rfl) | ((with_reducible apply b_callF); rfl; rfl) | ((with_reducible apply b_rng1); (first | omega | decide)) | ((with_reducible apply b_rng2); (first | omega | decide))))
end
end CM
set_option maxHeartbeats 2000000
namespace CM
open PySem PySem.Spec PyProof.Rows L2 DL
theorem p14 : ((10 : Int) ^ Int.toNat 14) = 100000000000000 := by decide +kernel
section
local macro_rules
  | `(tactic| infer_instance) => `(tactic| (first | with_reducible refine b_op ?_ | with_reducible refine b_cb ?_ | with_reducible refine b_un ?_ | with_reducible refine b_call ?_ | with_reducible refine b_cons ?_ | with_reducible refine b_nil ?_ | with_reducible refine b_C ?_ | with_reducible refine b_tup ?_ | with_reducible refine b_lst ?_ | with_reducible refine b_fz ?_ | with_reducible refine b_nsl ?_ | with_reducible refine b_nslD ?_ | with_reducible refine b_nslF ?_ | with_reducible refine b_nslS ?_ | with_reducible refine b_tst ?_ | with_reducible refine b_bT ?_ | with_reducible refine b_andK ?_ | with_reducible refine b_orK ?_ | with_reducible refine b_not ?_ | with_reducible refine b_eIf ?_ | with_reducible refine b_ok ?_ | with_reducible refine b_rng ?_ | with_reducible refine b_iseq ?_ | with_reducible refine b_yes ?_ | with_reducible refine s_skip ?_ | with_reducible refine s_drop ?_ | with_reducible refine s_ret ?_ | with_reducible refine s_retN ?_ | with_reducible refine s_break ?_ | with_reducible refine s_cont ?_ | with_reducible refine s_if ?_ | with_reducible refine s_asg ?_ | with_reducible refine s_par ?_ | with_reducible refine s_tgt ?_ | with_reducible refine s_for ?_ | with_reducible refine s_loop ?_ | with_reducible refine s_store ?_ | with_reducible refine s_asgsN ?_ | with_reducible refine f_d ?_ | with_reducible refine f_fr ?_ | ((with_reducible apply s_seqN); exact (rfl : _ = [_, _, _, _, _, _, _, _, _, _, _, _, _])) | ((with_reducible apply b_var_d); rfl) | ((with_reducible apply b_var_o); rfl) | ((with_reducible apply b_fzv); rfl) | ((with_reducible apply b_fzvA); rfl) | ((with_reducible apply s_asgV); rfl) | ((with_reducible apply s_asgs); rfl) | ((with_reducible apply s_asgsD); rfl; first | assumption | exact Fr.un | exact Fr.dat | exact Fr.own) | ((with_reducible apply s_asgsO); rfl; first | assumption | exact Fr.un | exact Fr.dat | exact Fr.own) | ((with_reducible apply s_asgF); rfl; first | assumption | exact Fr.un | exact Fr.dat | exact Fr.own) | ((with_reducible apply s_asgFO); rfl; first | assumption | exact Fr.un | exact Fr.dat | exact Fr.own) | ((with_reducible apply s_storeV); rfl) | ((with_reducible apply s_storeK); rfl) | ((with_reducible apply b_methL); rfl) | ((with_reducible apply b_methV); rfl) | ((with_reducible apply b_mkTup); rfl; exact Nat.le_of_ble_eq_true rfl) | ((with_reducible apply b_mkLst); rfl; exact Nat.le_of_ble_eq_true rfl) | ((with_reducible apply f_sl); rfl) | ((with_reducible apply f_sld); rfl) | ((with_reducible apply x_mul); rfl; rfl; (first | omega | decide)) | ((with_reducible apply x_mod); rfl; rfl; decide) | ((with_reducible apply x_div); rfl; rfl; (first | omega | decide)) | ((with_reducible apply b_opV); rfl; rfl; rfl) | ((with_reducible apply b_unV); rfl; rfl) | ((with_reducible apply b_callV); rfl; rfl) | ((with_reducible apply b_callF); rfl; rfl) | ((with_reducible apply b_rng1); (first | omega | decide)) | ((with_reducible apply b_rng2); (first | omega | decide))))
def vOf : D → Int
  | .tup [_, .int v, _, _] => v
  | _ => 0
def keepD (ws : List Int) (d : D) : Bool := !decide (vOf d ∈ ws)
end
section
local macro_rules
  | `(tactic| infer_instance) => `(tactic| (first | with_reducible refine b_op ?_ | with_reducible refine b_cb ?_ | with_reducible refine b_un ?_ | with_reducible refine b_call ?_ | with_reducible refine b_cons ?_ | with_reducible refine b_nil ?_ | with_reducible refine b_C ?_ | with_reducible refine b_tup ?_ | with_reducible refine b_lst ?_ | with_reducible refine b_fz ?_ | with_reducible refine b_nsl ?_ | with_reducible refine b_nslD ?_ | with_reducible refine b_nslF ?_ | with_reducible refine b_nslS ?_ | with_reducible refine b_tst ?_ | with_reducible refine b_bT ?_ | with_reducible refine b_andK ?_ | with_reducible refine b_orK ?_ | with_reducible refine b_not ?_ | with_reducible refine b_eIf ?_ | with_reducible refine b_ok ?_ | with_reducible refine b_rng ?_ | with_reducible refine b_iseq ?_ | with_reducible refine b_yes ?_ | with_reducible refine s_skip ?_ | with_reducible refine s_drop ?_ | with_reducible refine s_ret ?_ | with_reducible refine s_retN ?_ | with_reducible refine s_break ?_ | with_reducible refine s_cont ?_ | with_reducible refine s_if ?_ | with_reducible refine s_asg ?_ | with_reducible refine s_par ?_ | with_reducible refine s_tgt ?_ | with_reducible refine s_for ?_ | with_reducible refine s_loop ?_ | with_reducible refine s_store ?_ | with_reducible refine s_asgsN ?_ | with_reducible refine f_d ?_ | with_reducible refine f_fr ?_ | ((with_reducible apply s_seqN); exact (rfl : _ = [_, _])) | ((with_reducible apply b_var_d); rfl) | ((with_reducible apply b_var_o); rfl) | ((with_reducible apply b_fzv); rfl) | ((with_reducible apply b_fzvA); rfl) | ((with_reducible apply s_asgV); rfl) | ((with_reducible apply s_asgs); rfl) | ((with_reducible apply s_asgsD); rfl; first | assumption | exact Fr.un | exact Fr.dat | exact Fr.own) | ((with_reducible apply s_asgsO); rfl; first | assumption | exact Fr.un | exact Fr.dat | exact Fr.own) | ((with_reducible apply s_asgF); rfl; first | assumption | exact Fr.un | exact Fr.dat | exact Fr.own) | ((with_reducible apply s_asgFO); rfl; first | assumption | exact Fr.un | exact Fr.dat | exact Fr.own) | ((with_reducible apply s_storeV); rfl) | ((with_reducible apply s_storeK); rfl) | ((with_reducible apply b_methL); rfl) | ((with_reducible apply b_methV); rfl) | ((with_reducible apply b_mkTup); rfl; exact Nat.le_of_ble_eq_true rfl) | ((with_reducible apply b_mkLst); rfl; exact Nat.le_of_ble_eq_true rfl) | ((with_reducible apply f_sl); rfl) | ((with_reducible apply f_sld); rfl) | ((with_reducible apply x_mul); rfl; rfl; (first | omega | decide)) | ((with_reducible apply x_mod); rfl; rfl; decide) | ((with_reducible apply x_div); rfl; rfl; (first | omega | decide)) | ((with_reducible apply b_opV); rfl; rfl; rfl) | ((with_reducible apply b_unV); rfl; rfl) | ((with_reducible apply b_callV); rfl; rfl) | ((with_reducible apply b_callF); rfl; rfl) | ((with_reducible apply b_rng1); (first | omega | decide)) | ((with_reducible apply b_rng2); (first | omega | decide))))
end
end CM
set_option maxHeartbeats 4000000
namespace CM
open PySem PySem.Spec PyProof.Rows L2 DL
theorem LogOk.gd {ds : List D} (h : LogOk ds) (hl : ds.length ≤ 200) : Gd 2 1001 (.tup ds) := (Gd.tup fun x hx => (h.ops x hx).gd).mono (by decide) (by omega)
theorem LogOk.filter {ds : List D} (h : LogOk ds) (p : D → Bool) : LogOk (ds.filter p) :=
  ⟨fun d hd => h.ops d (List.mem_filter.mp hd).1, by
    have : (wrote (ds.filter p)).Sublist (wrote ds) := List.Sublist.filterMap _ List.filter_sublist
    exact this.nodup h.nd⟩
theorem big200 : (2 : Nat) ^ 200 = 1606938044258990275541962092341162602522202993782792835301376 := by decide +kernel
end CM
set_option maxHeartbeats 2000000
namespace CM
open PySem PySem.Spec PyProof.Rows L2 DL
/-! typed operations and logs -/
structure Op where
  w : Bool
  v : Int
  b : Int
  e : Int
  deriving DecidableEq
def Op.k (o : Op) : Str := if o.w then "write" else "read"
def Op.d (o : Op) : D := .tup [.str o.k, .int o.v, .int o.b, .int o.e]
structure Op.Ok (o : Op) : Prop where
  lo : 0 ≤ o.v
  wr : o.w = true → 1 ≤ o.v
  hi : o.v ≤ 1000000000
  b : -1000000000000000 ≤ o.b
  be : o.b ≤ o.e
  e : o.e ≤ 1000000000000000
abbrev Log := List Op
def Log.d (l : Log) : D := .tup (l.map Op.d)
def Log.wr (l : Log) : List Int := (l.filter (·.w)).map (·.v)
structure Log.Ok (l : Log) : Prop where
  ops : ∀ o ∈ l, o.Ok
  nd : (Log.wr l).Nodup
  len : l.length ≤ 200
theorem OpOk.typ {d : D} (h : OpOk d) : ∃ o : Op, d = o.d ∧ o.Ok := by
  obtain ⟨k, v, b, e, rfl, hk, h1, h2, h3, h4⟩ := h.ex
  rcases hk with ⟨rfl, hv⟩ | ⟨rfl, hv⟩
  · exact ⟨⟨true, v, b, e⟩, rfl, ⟨by show 0 ≤ v; omega, fun _ => hv, h1, h2, h3, h4⟩⟩
  · exact ⟨⟨false, v, b, e⟩, rfl, ⟨hv, fun z => (by cases z), h1, h2, h3, h4⟩⟩
theorem wroteOf_d (o : Op) : wroteOf o.d = if o.w then some o.v else none := by
  obtain ⟨w, v, b, e⟩ := o
  cases w
  · rfl
  · rfl
theorem wrote_d : ∀ (l : Log), wrote (l.map Op.d) = Log.wr l
  | [] => rfl
  | o :: l => by
    have ih := wrote_d l
    unfold wrote Log.wr at ih ⊢
    rw [List.map_cons, List.filterMap_cons, wroteOf_d, List.filter_cons]
    cases o.w <;> simp [ih]
theorem LogOk.typ {ds : List D} (h : LogOk ds) (hl : ds.length ≤ 200) : ∃ l : Log, ds = l.map Op.d ∧ l.Ok := by
  have key : ∀ es : List D, (∀ d ∈ es, OpOk d) → ∃ l : Log, es = l.map Op.d ∧ ∀ o ∈ l, o.Ok := fun es => by
    induction es with
    | nil => exact fun _ => ⟨[], rfl, by simp⟩
    | cons d es ih =>
      intro he
      obtain ⟨l, rfl, hl⟩ := ih fun x hx => he x (List.mem_cons_of_mem _ hx)
      obtain ⟨o, rfl, ho⟩ := (he d List.mem_cons_self).typ
      exact ⟨o :: l, rfl, fun x hx => by
        rcases List.mem_cons.mp hx with z | z
        · subst z; exact ho
        · exact hl x z⟩
  obtain ⟨l, rfl, ho⟩ := key ds h.ops
  exact ⟨l, rfl, ⟨ho, by rw [← wrote_d]; exact h.nd, by simpa using hl⟩⟩
theorem Op.Ok.op {o : Op} (h : o.Ok) : OpOk o.d := by
  obtain ⟨w, v, b, e⟩ := o
  obtain ⟨h0, h1, h2, h3, h4, h5⟩ := h
  cases w
  · exact ⟨"read", v, b, e, rfl, .inr ⟨rfl, h0⟩, h2, h3, h4, h5⟩
  · exact ⟨"write", v, b, e, rfl, .inl ⟨rfl, h1 rfl⟩, h2, h3, h4, h5⟩
theorem Log.Ok.log {l : Log} (h : l.Ok) : LogOk (l.map Op.d) := ⟨fun d hd => by
  obtain ⟨o, ho, rfl⟩ := List.mem_map.mp hd
  exact (h.ops o ho).op, by rw [wrote_d]; exact h.nd⟩
/-! what is good to compare and to show -/
theorem Gd.nat {i : Int} (h : -10000000000000000000 ≤ i) (h2 : i ≤ 10000000000000000000) : Gd 0 1 (.int i) := Gd.int (by rw [big200]; omega)
theorem Gd.str {x : Str} (h : (D.str x).good = true) (h2 : (D.str x).short = true) : Gd 0 1 (.str x) := ⟨h, h2, Nat.le_refl _, Nat.le_refl _⟩
theorem Gd.bl {b : Bool} : Gd 0 1 (.bl b) := ⟨rfl, rfl, Nat.le_refl _, Nat.le_refl _⟩
theorem Gd.non : Gd 0 1 .non := ⟨rfl, rfl, Nat.le_refl _, Nat.le_refl _⟩
theorem Log.Ok.gd {l : Log} (h : l.Ok) : Gd 2 1001 (Log.d l) := h.log.gd (by rw [List.length_map]; exact h.len)
theorem Gd.tupN {ds : List D} {k n m : Nat} (h : ∀ x ∈ ds, Gd k n x) (hl : n * ds.length + 1 ≤ m) : Gd (k + 1) m (.tup ds) := (Gd.tup h).mono (Nat.le_refl _) hl
/-! values -/
def Log.vals (l : Log) : List Int := sortSetI (l.map (·.v))
def LOWEST : Int := -1000000000000000000
/-- the first end of a value -/
def Log.fe (l : Log) (v : Int) : Int := if v = 0 then LOWEST else minL ((l.filter (·.v = v)).map (·.e))
def Log.lb (l : Log) (v : Int) : Int := maxL ((l.filter (·.v = v)).map (·.b))
theorem mem_vals {l : Log} {v : Int} : v ∈ l.vals ↔ ∃ o ∈ l, o.v = v := by
  unfold Log.vals
  rw [mem_sortSetI, List.mem_map]
theorem vals_pw (l : Log) : l.vals.Pairwise (· < ·) := sortSetI_pw _
theorem insI_len {k : Int} : ∀ {xs : List Int}, (insI k xs).length ≤ xs.length + 1
  | [] => Nat.le_refl _
  | x :: xs => by
    unfold insI
    split
    · exact Nat.le_refl _
    · split
      · simp
      · have := insI_len (k := k) (xs := xs); simp only [List.length_cons]; omega
theorem sortSetI_len : ∀ {xs : List Int}, (sortSetI xs).length ≤ xs.length
  | [] => Nat.le_refl _
  | x :: xs => by
    have h1 := insI_len (k := x) (xs := sortSetI xs)
    have h2 := sortSetI_len (xs := xs)
    show (insI x (sortSetI xs)).length ≤ xs.length + 1
    omega
theorem vals_bd {l : Log} (h : l.Ok) {v : Int} (hv : v ∈ l.vals) : 0 ≤ v ∧ v ≤ 1000000000 := by
  obtain ⟨o, ho, rfl⟩ := mem_vals.mp hv
  exact ⟨(h.ops o ho).lo, (h.ops o ho).hi⟩
end CM
set_option maxHeartbeats 4000000
namespace CM
open PySem PySem.Spec PyProof.Rows L2 DL
section
variable {ρ ρ' : DEnv} {Q : Val → DEnv → Prop} {X : Ex → DEnv → Prop} {xs : List Val} {a b : D} {x y : Val}
theorem way_eq {k : Str} {A B : Prop} (q : B) : Way (!decide (k = k)) A B := way_f (by simp) q
theorem way_eq' {k : Str} {A B : Prop} (q : A) : Way (decide (k = k)) A B := way_t (by simp) q
end
/-! laws: for each of the first three cells -/
def lawF (n : Int) (R : FM) : FM := fnD 1 1 (sRet (eCallB allD (aCons (eLc [1] (iRng (aCons (eCallB maxD (aCons (eC (.int 1)) (aCons (eCallB minD (aCons (eC (.int n)) (aCons (eCallB lenD (aCons (eVar 0) aNil)) aNil))) aNil))) aNil)) (asgV 1) tYesD (fz (eCall R (aCons (eCall CM.s_l_pot (aCons (eVar 0) (aCons (eVar 1) aNil))) aNil)))) aNil)))
theorem all_true (k : Nat) : allD [.lst (List.replicate k (D.bl true))] = some (.d (.bl true)) := by
  have := all_bls (bs := List.replicate k true)
  rw [List.map_replicate] at this
  rw [this]
  simp
section
local macro_rules
  | `(tactic| infer_instance) => `(tactic| (first | with_reducible refine b_op ?_ | with_reducible refine b_cb ?_ | with_reducible refine b_un ?_ | with_reducible refine b_call ?_ | with_reducible refine b_cons ?_ | with_reducible refine b_nil ?_ | with_reducible refine b_C ?_ | with_reducible refine b_tup ?_ | with_reducible refine b_lst ?_ | with_reducible refine b_fz ?_ | with_reducible refine b_nsl ?_ | with_reducible refine b_nslD ?_ | with_reducible refine b_nslF ?_ | with_reducible refine b_nslS ?_ | with_reducible refine b_tst ?_ | with_reducible refine b_bT ?_ | with_reducible refine b_not ?_ | with_reducible refine b_ok ?_ | with_reducible refine b_rng ?_ | with_reducible refine b_iseq ?_ | with_reducible refine b_yes ?_ | with_reducible refine s_skip ?_ | with_reducible refine s_drop ?_ | with_reducible refine s_ret ?_ | with_reducible refine s_retN ?_ | with_reducible refine s_break ?_ | with_reducible refine s_cont ?_ | with_reducible refine s_asg ?_ | with_reducible refine s_par ?_ | with_reducible refine s_tgt ?_ | with_reducible refine s_for ?_ | with_reducible refine s_loop ?_ | with_reducible refine s_store ?_ | with_reducible refine s_asgsN ?_ | with_reducible refine f_d ?_ | with_reducible refine f_fr ?_ | with_reducible refine b_sl ?_ | with_reducible refine b_oNone ?_ | with_reducible refine b_oSome ?_ | with_reducible refine b_oV ?_ | with_reducible refine b_isN ?_ | with_reducible refine b_notN ?_ | with_reducible refine b_isnD ?_ | with_reducible refine b_notnD ?_ | with_reducible refine b_ienu ?_ | with_reducible refine b_iany ?_ | with_reducible refine b_seqT ?_ | with_reducible refine s_gsCons ?_ | with_reducible refine s_gsNil ?_ | with_reducible refine b_seqL ?_ | with_reducible refine b_seqF ?_ | with_reducible refine b_callK ?_ | with_reducible refine b_blK ?_ | with_reducible refine b_dtK ?_ | with_reducible refine b_intK ?_ | with_reducible refine b_eAndK ?_ | with_reducible refine b_eOrK ?_ | with_reducible refine b_eNotK ?_ | with_reducible refine b_chainK ?_ | with_reducible refine b_andW ?_ | with_reducible refine b_orW ?_ | with_reducible refine b_eIfW ?_ | with_reducible refine s_ifW ?_ | with_reducible refine b_lcK ?_ | with_reducible refine b_sortScK ?_ | with_reducible refine b_dcK ?_ | with_reducible refine b_dcStepK ?_ | ((with_reducible apply b_pb); exact (rfl : _ = [_, _])) | ((with_reducible apply s_seqN); exact (rfl : _ = [_, _])) | ((with_reducible apply b_var_d); rfl) | ((with_reducible apply b_var_o); rfl) | ((with_reducible apply b_fzv); rfl) | ((with_reducible apply b_fzvA); rfl) | ((with_reducible apply s_asgV); rfl) | ((with_reducible apply s_asgs); rfl) | ((with_reducible apply s_asgsD); rfl; first | assumption | exact Fr.un | exact Fr.dat | exact Fr.own) | ((with_reducible apply s_asgsO); rfl; first | assumption | exact Fr.un | exact Fr.dat | exact Fr.own) | ((with_reducible apply s_asgF); rfl; first | assumption | exact Fr.un | exact Fr.dat | exact Fr.own) | ((with_reducible apply s_asgFO); rfl; first | assumption | exact Fr.un | exact Fr.dat | exact Fr.own) | ((with_reducible apply s_storeV); rfl) | ((with_reducible apply s_storeK); rfl) | ((with_reducible apply b_methL); rfl) | ((with_reducible apply b_methV); rfl) | ((with_reducible apply b_mkTup); rfl; exact Nat.le_of_ble_eq_true rfl) | ((with_reducible apply b_mkLst); rfl; exact Nat.le_of_ble_eq_true rfl) | ((with_reducible apply f_sl); rfl) | ((with_reducible apply f_sld); rfl) | ((with_reducible apply x_mul); rfl; rfl; (first | omega | decide)) | ((with_reducible apply x_mod); rfl; rfl; decide) | ((with_reducible apply x_div); rfl; rfl; (first | omega | decide)) | ((with_reducible apply b_opV); rfl; rfl; rfl) | ((with_reducible apply b_unV); rfl; rfl) | ((with_reducible apply b_callV); rfl; rfl) | ((with_reducible apply b_callFP); rfl; rfl) | ((with_reducible apply b_rng1); (first | omega | decide)) | ((with_reducible apply b_rng2); (first | omega | decide)) | ((with_reducible apply s_tupG); rfl; rfl) | ((with_reducible apply b_fzvA); rfl) | ((with_reducible apply b_seqO); rfl) | ((with_reducible apply b_selK); rfl) | ((with_reducible apply way_t); rfl) | ((with_reducible apply way_f); rfl)))
theorem lawF_sem {n : Int} (hn : 0 ≤ n ∧ n ≤ 100) {R : FM} (hR : ∀ (p : List D) (Q : Val → DEnv → Prop) (X : Ex → DEnv → Prop), Pot 0 p → Q (.d (.bl true)) [.un] → (R [.ow (.lst p) .own]).wp Q X) (ns : List Int) (h : ns.length ≤ 63) : ∃ as', lawF n R [.d (.scr ns)] = .ret (.d (.bl true)) as' := by
  have key : (lawF n R [.d (.scr ns)]).wp (fun x _ => x = .d (.bl true)) fun _ _ => False := by
    unfold lawF
    refine f_fn rfl ?_
    repeat infer_instance
    refine b_compK rfl (by simp; omega) ?_
    refine comp_inv (fun k acc ρ => acc = List.replicate k (D.bl true) ∧ ρ = [.d (.scr ns), .un]) _ 0 [] _ ⟨rfl, rfl⟩ (fun j dd acc ρ hj hI => ?_) fun acc ρ hI => ?_
    · obtain ⟨rfl, rfl⟩ := hI
      obtain ⟨hjl, rfl⟩ := rng_at hj
      repeat infer_instance
      refine ⟨fun h => (by cases h), fun _ => ?_⟩
      repeat infer_instance
      refine pot_wp (by omega) (by omega) fun p hp => ?_
      repeat infer_instance
      refine hR p _ _ hp ?_
      repeat infer_instance
      exact ⟨_, rfl, by rw [Nat.zero_add, List.replicate_succ'], rfl⟩
    · obtain ⟨rfl, rfl⟩ := hI
      repeat infer_instance
      refine b_callV rfl (all_true _) ?_
      repeat infer_instance
      rfl
  obtain ⟨x, as, e, hx⟩ := RF.wp_ret key
  subst hx
  exact ⟨as, e⟩
/-! logs whose writes may be of one value -/
structure Log.Wk (l : Log) : Prop where
  ops : ∀ o ∈ l, o.Ok
  len : l.length ≤ 200
theorem Log.Wk.gd {l : Log} (h : l.Wk) : Gd 2 1001 (Log.d l) := (Gd.tup (k := 1) (n := 5) (ds := l.map Op.d) fun x hx => by
  obtain ⟨o, ho, rfl⟩ := List.mem_map.mp hx
  exact (h.ops o ho).op.gd).mono (by decide) (by have := h.len; rw [List.length_map]; omega)
end
end CM
set_option maxHeartbeats 4000000
namespace CM
open PySem PySem.Spec PyProof.Rows L2 DL
theorem seqS_tup {ρ : DEnv} {i : Nat} {ds : List D} {QI : Src → DEnv → Prop} {X : Ex → DEnv → Prop} (e : ρ[i]? = some (.d (.tup ds))) (q : QI (ds, none) ρ) : (seqSrc (.sl i) ρ).wp QI X := by
  unfold seqSrc
  dsimp only
  rw [e]
  exact q
section
local macro_rules
  | `(tactic| infer_instance) => `(tactic| (first | with_reducible refine b_op ?_ | with_reducible refine b_cb ?_ | with_reducible refine b_un ?_ | with_reducible refine b_call ?_ | with_reducible refine b_cons ?_ | with_reducible refine b_nil ?_ | with_reducible refine b_C ?_ | with_reducible refine b_tup ?_ | with_reducible refine b_lst ?_ | with_reducible refine b_fz ?_ | with_reducible refine b_nsl ?_ | with_reducible refine b_nslD ?_ | with_reducible refine b_nslF ?_ | with_reducible refine b_nslS ?_ | with_reducible refine b_tst ?_ | with_reducible refine b_bT ?_ | with_reducible refine b_not ?_ | with_reducible refine b_ok ?_ | with_reducible refine b_rng ?_ | with_reducible refine b_iseq ?_ | with_reducible refine b_yes ?_ | with_reducible refine s_skip ?_ | with_reducible refine s_drop ?_ | with_reducible refine s_ret ?_ | with_reducible refine s_retN ?_ | with_reducible refine s_break ?_ | with_reducible refine s_cont ?_ | with_reducible refine s_asg ?_ | with_reducible refine s_par ?_ | with_reducible refine s_tgt ?_ | with_reducible refine s_for ?_ | with_reducible refine s_loop ?_ | with_reducible refine s_store ?_ | with_reducible refine s_asgsN ?_ | with_reducible refine f_d ?_ | with_reducible refine f_fr ?_ | with_reducible refine b_sl ?_ | with_reducible refine b_oNone ?_ | with_reducible refine b_oSome ?_ | with_reducible refine b_oV ?_ | with_reducible refine b_isN ?_ | with_reducible refine b_notN ?_ | with_reducible refine b_isnD ?_ | with_reducible refine b_notnD ?_ | with_reducible refine b_ienu ?_ | with_reducible refine b_iany ?_ | with_reducible refine b_seqT ?_ | with_reducible refine s_gsCons ?_ | with_reducible refine s_gsNil ?_ | with_reducible refine b_seqL ?_ | with_reducible refine b_seqF ?_ | with_reducible refine b_callK ?_ | with_reducible refine b_blK ?_ | with_reducible refine b_dtK ?_ | with_reducible refine b_intK ?_ | with_reducible refine b_eAndK ?_ | with_reducible refine b_eOrK ?_ | with_reducible refine b_eNotK ?_ | with_reducible refine b_chainK ?_ | with_reducible refine b_andW ?_ | with_reducible refine b_orW ?_ | with_reducible refine b_eIfW ?_ | with_reducible refine s_ifW ?_ | with_reducible refine b_lcK ?_ | with_reducible refine b_sortScK ?_ | with_reducible refine b_dcK ?_ | with_reducible refine b_dcStepK ?_ | ((with_reducible apply b_pb); exact (rfl : _ = [_, _, _, _, _])) | ((with_reducible apply s_seqN); exact (rfl : _ = [_, _, _, _, _])) | ((with_reducible apply b_var_d); rfl) | ((with_reducible apply b_var_o); rfl) | ((with_reducible apply b_fzv); rfl) | ((with_reducible apply b_fzvA); rfl) | ((with_reducible apply s_asgV); rfl) | ((with_reducible apply s_asgs); rfl) | ((with_reducible apply s_asgsD); rfl; first | assumption | exact Fr.un | exact Fr.dat | exact Fr.own) | ((with_reducible apply s_asgsO); rfl; first | assumption | exact Fr.un | exact Fr.dat | exact Fr.own) | ((with_reducible apply s_asgF); rfl; first | assumption | exact Fr.un | exact Fr.dat | exact Fr.own) | ((with_reducible apply s_asgFO); rfl; first | assumption | exact Fr.un | exact Fr.dat | exact Fr.own) | ((with_reducible apply s_storeV); rfl) | ((with_reducible apply s_storeK); rfl) | ((with_reducible apply b_methL); rfl) | ((with_reducible apply b_methV); rfl) | ((with_reducible apply b_mkTup); rfl; exact Nat.le_of_ble_eq_true rfl) | ((with_reducible apply b_mkLst); rfl; exact Nat.le_of_ble_eq_true rfl) | ((with_reducible apply f_sl); rfl) | ((with_reducible apply f_sld); rfl) | ((with_reducible apply x_mul); rfl; rfl; (first | omega | decide)) | ((with_reducible apply x_mod); rfl; rfl; decide) | ((with_reducible apply x_div); rfl; rfl; (first | omega | decide)) | ((with_reducible apply b_opV); rfl; rfl; rfl) | ((with_reducible apply b_unV); rfl; rfl) | ((with_reducible apply b_callV); rfl; rfl) | ((with_reducible apply b_callFP); rfl; rfl) | ((with_reducible apply b_rng1); (first | omega | decide)) | ((with_reducible apply b_rng2); (first | omega | decide)) | ((with_reducible apply s_tupG); rfl; rfl) | ((with_reducible apply b_fzvA); rfl) | ((with_reducible apply b_seqO); rfl) | ((with_reducible apply b_selK); rfl) | ((with_reducible apply way_t); rfl) | ((with_reducible apply way_f); rfl)))
end
section
local macro_rules
  | `(tactic| infer_instance) => `(tactic| (first | with_reducible refine b_op ?_ | with_reducible refine b_cb ?_ | with_reducible refine b_un ?_ | with_reducible refine b_call ?_ | with_reducible refine b_cons ?_ | with_reducible refine b_nil ?_ | with_reducible refine b_C ?_ | with_reducible refine b_tup ?_ | with_reducible refine b_lst ?_ | with_reducible refine b_fz ?_ | with_reducible refine b_nsl ?_ | with_reducible refine b_nslD ?_ | with_reducible refine b_nslF ?_ | with_reducible refine b_nslS ?_ | with_reducible refine b_tst ?_ | with_reducible refine b_bT ?_ | with_reducible refine b_not ?_ | with_reducible refine b_ok ?_ | with_reducible refine b_rng ?_ | with_reducible refine b_iseq ?_ | with_reducible refine b_yes ?_ | with_reducible refine s_skip ?_ | with_reducible refine s_drop ?_ | with_reducible refine s_ret ?_ | with_reducible refine s_retN ?_ | with_reducible refine s_break ?_ | with_reducible refine s_cont ?_ | with_reducible refine s_asg ?_ | with_reducible refine s_par ?_ | with_reducible refine s_tgt ?_ | with_reducible refine s_for ?_ | with_reducible refine s_loop ?_ | with_reducible refine s_store ?_ | with_reducible refine s_asgsN ?_ | with_reducible refine f_d ?_ | with_reducible refine f_fr ?_ | with_reducible refine b_sl ?_ | with_reducible refine b_oNone ?_ | with_reducible refine b_oSome ?_ | with_reducible refine b_oV ?_ | with_reducible refine b_isN ?_ | with_reducible refine b_notN ?_ | with_reducible refine b_isnD ?_ | with_reducible refine b_notnD ?_ | with_reducible refine b_ienu ?_ | with_reducible refine b_iany ?_ | with_reducible refine b_seqT ?_ | with_reducible refine s_gsCons ?_ | with_reducible refine s_gsNil ?_ | with_reducible refine b_seqL ?_ | with_reducible refine b_seqF ?_ | with_reducible refine b_callK ?_ | with_reducible refine b_blK ?_ | with_reducible refine b_dtK ?_ | with_reducible refine b_intK ?_ | with_reducible refine b_eAndK ?_ | with_reducible refine b_eOrK ?_ | with_reducible refine b_eNotK ?_ | with_reducible refine b_chainK ?_ | with_reducible refine b_andW ?_ | with_reducible refine b_orW ?_ | with_reducible refine b_eIfW ?_ | with_reducible refine s_ifW ?_ | with_reducible refine b_lcK ?_ | with_reducible refine b_sortScK ?_ | with_reducible refine b_dcK ?_ | with_reducible refine b_dcStepK ?_ | ((with_reducible apply b_pb); exact (rfl : _ = [_, _, _, _, _, _, _, _])) | ((with_reducible apply s_seqN); exact (rfl : _ = [_, _, _, _, _, _, _, _])) | ((with_reducible apply b_var_d); rfl) | ((with_reducible apply b_var_o); rfl) | ((with_reducible apply b_fzv); rfl) | ((with_reducible apply b_fzvA); rfl) | ((with_reducible apply s_asgV); rfl) | ((with_reducible apply s_asgs); rfl) | ((with_reducible apply s_asgsD); rfl; first | assumption | exact Fr.un | exact Fr.dat | exact Fr.own) | ((with_reducible apply s_asgsO); rfl; first | assumption | exact Fr.un | exact Fr.dat | exact Fr.own) | ((with_reducible apply s_asgF); rfl; first | assumption | exact Fr.un | exact Fr.dat | exact Fr.own) | ((with_reducible apply s_asgFO); rfl; first | assumption | exact Fr.un | exact Fr.dat | exact Fr.own) | ((with_reducible apply s_storeV); rfl) | ((with_reducible apply s_storeK); rfl) | ((with_reducible apply b_methL); rfl) | ((with_reducible apply b_methV); rfl) | ((with_reducible apply b_mkTup); rfl; exact Nat.le_of_ble_eq_true rfl) | ((with_reducible apply b_mkLst); rfl; exact Nat.le_of_ble_eq_true rfl) | ((with_reducible apply f_sl); rfl) | ((with_reducible apply f_sld); rfl) | ((with_reducible apply x_mul); rfl; rfl; (first | omega | decide)) | ((with_reducible apply x_mod); rfl; rfl; decide) | ((with_reducible apply x_div); rfl; rfl; (first | omega | decide)) | ((with_reducible apply b_opV); rfl; rfl; rfl) | ((with_reducible apply b_unV); rfl; rfl) | ((with_reducible apply b_callV); rfl; rfl) | ((with_reducible apply b_callFP); rfl; rfl) | ((with_reducible apply b_rng1); (first | omega | decide)) | ((with_reducible apply b_rng2); (first | omega | decide)) | ((with_reducible apply s_tupG); rfl; rfl) | ((with_reducible apply b_fzvA); rfl) | ((with_reducible apply b_seqO); rfl) | ((with_reducible apply b_selK); rfl) | ((with_reducible apply way_t); rfl) | ((with_reducible apply way_f); rfl)))
end
section
local macro_rules
  | `(tactic| infer_instance) => `(tactic| (first | with_reducible refine b_op ?_ | with_reducible refine b_cb ?_ | with_reducible refine b_un ?_ | with_reducible refine b_call ?_ | with_reducible refine b_cons ?_ | with_reducible refine b_nil ?_ | with_reducible refine b_C ?_ | with_reducible refine b_tup ?_ | with_reducible refine b_lst ?_ | with_reducible refine b_fz ?_ | with_reducible refine b_nsl ?_ | with_reducible refine b_nslD ?_ | with_reducible refine b_nslF ?_ | with_reducible refine b_nslS ?_ | with_reducible refine b_tst ?_ | with_reducible refine b_bT ?_ | with_reducible refine b_not ?_ | with_reducible refine b_ok ?_ | with_reducible refine b_rng ?_ | with_reducible refine b_iseq ?_ | with_reducible refine b_yes ?_ | with_reducible refine s_skip ?_ | with_reducible refine s_drop ?_ | with_reducible refine s_ret ?_ | with_reducible refine s_retN ?_ | with_reducible refine s_break ?_ | with_reducible refine s_cont ?_ | with_reducible refine s_asg ?_ | with_reducible refine s_par ?_ | with_reducible refine s_tgt ?_ | with_reducible refine s_for ?_ | with_reducible refine s_loop ?_ | with_reducible refine s_store ?_ | with_reducible refine s_asgsN ?_ | with_reducible refine f_d ?_ | with_reducible refine f_fr ?_ | with_reducible refine b_sl ?_ | with_reducible refine b_oNone ?_ | with_reducible refine b_oSome ?_ | with_reducible refine b_oV ?_ | with_reducible refine b_isN ?_ | with_reducible refine b_notN ?_ | with_reducible refine b_isnD ?_ | with_reducible refine b_notnD ?_ | with_reducible refine b_ienu ?_ | with_reducible refine b_iany ?_ | with_reducible refine b_seqT ?_ | with_reducible refine s_gsCons ?_ | with_reducible refine s_gsNil ?_ | with_reducible refine b_seqL ?_ | with_reducible refine b_seqF ?_ | with_reducible refine b_callK ?_ | with_reducible refine b_blK ?_ | with_reducible refine b_dtK ?_ | with_reducible refine b_intK ?_ | with_reducible refine b_eAndK ?_ | with_reducible refine b_eOrK ?_ | with_reducible refine b_eNotK ?_ | with_reducible refine b_chainK ?_ | with_reducible refine b_andW ?_ | with_reducible refine b_orW ?_ | with_reducible refine b_eIfW ?_ | with_reducible refine s_ifW ?_ | with_reducible refine b_lcK ?_ | with_reducible refine b_sortScK ?_ | with_reducible refine b_dcK ?_ | with_reducible refine b_dcStepK ?_ | ((with_reducible apply b_pb); exact (rfl : _ = [_, _])) | ((with_reducible apply s_seqN); exact (rfl : _ = [_, _])) | ((with_reducible apply b_var_d); rfl) | ((with_reducible apply b_var_o); rfl) | ((with_reducible apply b_fzv); rfl) | ((with_reducible apply b_fzvA); rfl) | ((with_reducible apply s_asgV); rfl) | ((with_reducible apply s_asgs); rfl) | ((with_reducible apply s_asgsD); rfl; first | assumption | exact Fr.un | exact Fr.dat | exact Fr.own) | ((with_reducible apply s_asgsO); rfl; first | assumption | exact Fr.un | exact Fr.dat | exact Fr.own) | ((with_reducible apply s_asgF); rfl; first | assumption | exact Fr.un | exact Fr.dat | exact Fr.own) | ((with_reducible apply s_asgFO); rfl; first | assumption | exact Fr.un | exact Fr.dat | exact Fr.own) | ((with_reducible apply s_storeV); rfl) | ((with_reducible apply s_storeK); rfl) | ((with_reducible apply b_methL); rfl) | ((with_reducible apply b_methV); rfl) | ((with_reducible apply b_mkTup); rfl; exact Nat.le_of_ble_eq_true rfl) | ((with_reducible apply b_mkLst); rfl; exact Nat.le_of_ble_eq_true rfl) | ((with_reducible apply f_sl); rfl) | ((with_reducible apply f_sld); rfl) | ((with_reducible apply x_mul); rfl; rfl; (first | omega | decide)) | ((with_reducible apply x_mod); rfl; rfl; decide) | ((with_reducible apply x_div); rfl; rfl; (first | omega | decide)) | ((with_reducible apply b_opV); rfl; rfl; rfl) | ((with_reducible apply b_unV); rfl; rfl) | ((with_reducible apply b_callV); rfl; rfl) | ((with_reducible apply b_callFP); rfl; rfl) | ((with_reducible apply b_rng1); (first | omega | decide)) | ((with_reducible apply b_rng2); (first | omega | decide)) | ((with_reducible apply s_tupG); rfl; rfl) | ((with_reducible apply b_fzvA); rfl) | ((with_reducible apply b_seqO); rfl) | ((with_reducible apply b_selK); rfl) | ((with_reducible apply way_t); rfl) | ((with_reducible apply way_f); rfl)))
/-- the places at which a value stands -/
def Log.own (l : Log) (v : Int) : List Nat := (l.zipIdx.filter fun p => decide (p.1.v = v)).map (·.2)
def natsD (ns : List Nat) : List D := ns.map fun n => .int (n : Nat)
end
section
local macro_rules
  | `(tactic| infer_instance) => `(tactic| (first | with_reducible refine b_op ?_ | with_reducible refine b_cb ?_ | with_reducible refine b_un ?_ | with_reducible refine b_call ?_ | with_reducible refine b_cons ?_ | with_reducible refine b_nil ?_ | with_reducible refine b_C ?_ | with_reducible refine b_tup ?_ | with_reducible refine b_lst ?_ | with_reducible refine b_fz ?_ | with_reducible refine b_nsl ?_ | with_reducible refine b_nslD ?_ | with_reducible refine b_nslF ?_ | with_reducible refine b_nslS ?_ | with_reducible refine b_tst ?_ | with_reducible refine b_bT ?_ | with_reducible refine b_not ?_ | with_reducible refine b_ok ?_ | with_reducible refine b_rng ?_ | with_reducible refine b_iseq ?_ | with_reducible refine b_yes ?_ | with_reducible refine s_skip ?_ | with_reducible refine s_drop ?_ | with_reducible refine s_ret ?_ | with_reducible refine s_retN ?_ | with_reducible refine s_break ?_ | with_reducible refine s_cont ?_ | with_reducible refine s_asg ?_ | with_reducible refine s_par ?_ | with_reducible refine s_tgt ?_ | with_reducible refine s_for ?_ | with_reducible refine s_loop ?_ | with_reducible refine s_store ?_ | with_reducible refine s_asgsN ?_ | with_reducible refine f_d ?_ | with_reducible refine f_fr ?_ | with_reducible refine b_sl ?_ | with_reducible refine b_oNone ?_ | with_reducible refine b_oSome ?_ | with_reducible refine b_oV ?_ | with_reducible refine b_isN ?_ | with_reducible refine b_notN ?_ | with_reducible refine b_isnD ?_ | with_reducible refine b_notnD ?_ | with_reducible refine b_ienu ?_ | with_reducible refine b_iany ?_ | with_reducible refine b_seqT ?_ | with_reducible refine s_gsCons ?_ | with_reducible refine s_gsNil ?_ | with_reducible refine b_seqL ?_ | with_reducible refine b_seqF ?_ | with_reducible refine b_callK ?_ | with_reducible refine b_blK ?_ | with_reducible refine b_dtK ?_ | with_reducible refine b_intK ?_ | with_reducible refine b_eAndK ?_ | with_reducible refine b_eOrK ?_ | with_reducible refine b_eNotK ?_ | with_reducible refine b_chainK ?_ | with_reducible refine b_andW ?_ | with_reducible refine b_orW ?_ | with_reducible refine b_eIfW ?_ | with_reducible refine s_ifW ?_ | with_reducible refine b_lcK ?_ | with_reducible refine b_sortScK ?_ | with_reducible refine b_dcK ?_ | with_reducible refine b_dcStepK ?_ | ((with_reducible apply b_pb); exact (rfl : _ = [_, _, _, _])) | ((with_reducible apply s_seqN); exact (rfl : _ = [_, _, _, _])) | ((with_reducible apply b_var_d); rfl) | ((with_reducible apply b_var_o); rfl) | ((with_reducible apply b_fzv); rfl) | ((with_reducible apply b_fzvA); rfl) | ((with_reducible apply s_asgV); rfl) | ((with_reducible apply s_asgs); rfl) | ((with_reducible apply s_asgsD); rfl; first | assumption | exact Fr.un | exact Fr.dat | exact Fr.own) | ((with_reducible apply s_asgsO); rfl; first | assumption | exact Fr.un | exact Fr.dat | exact Fr.own) | ((with_reducible apply s_asgF); rfl; first | assumption | exact Fr.un | exact Fr.dat | exact Fr.own) | ((with_reducible apply s_asgFO); rfl; first | assumption | exact Fr.un | exact Fr.dat | exact Fr.own) | ((with_reducible apply s_storeV); rfl) | ((with_reducible apply s_storeK); rfl) | ((with_reducible apply b_methL); rfl) | ((with_reducible apply b_methV); rfl) | ((with_reducible apply b_mkTup); rfl; exact Nat.le_of_ble_eq_true rfl) | ((with_reducible apply b_mkLst); rfl; exact Nat.le_of_ble_eq_true rfl) | ((with_reducible apply f_sl); rfl) | ((with_reducible apply f_sld); rfl) | ((with_reducible apply x_mul); rfl; rfl; (first | omega | decide)) | ((with_reducible apply x_mod); rfl; rfl; decide) | ((with_reducible apply x_div); rfl; rfl; (first | omega | decide)) | ((with_reducible apply b_opV); rfl; rfl; rfl) | ((with_reducible apply b_unV); rfl; rfl) | ((with_reducible apply b_callV); rfl; rfl) | ((with_reducible apply b_callFP); rfl; rfl) | ((with_reducible apply b_rng1); (first | omega | decide)) | ((with_reducible apply b_rng2); (first | omega | decide)) | ((with_reducible apply s_tupG); rfl; rfl) | ((with_reducible apply b_fzvA); rfl) | ((with_reducible apply b_seqO); rfl) | ((with_reducible apply b_selK); rfl) | ((with_reducible apply way_t); rfl) | ((with_reducible apply way_f); rfl)))
theorem natsD_len {ns : List Nat} : (natsD ns).length = ns.length := by unfold natsD; rw [List.length_map]
theorem x_idxLog {ρ : DEnv} {x y : Val} {Q : Val → DEnv → Prop} {X : Ex → DEnv → Prop} {l : Log} {i : Nat} {o : Op} (h1 : x.peek ρ = some l.d) (h2 : y.peek ρ = some (.int (i : Nat))) (e : l[i]? = some o) (q : Q (.d o.d) ρ) : (opV idxD x y ρ).wp Q X := by
  refine x_idxT (xs := l.map Op.d) h1 h2 ?_ q
  have hl := (List.getElem?_eq_some_iff.mp e).1
  unfold atI ixN
  rw [if_pos (by omega), if_pos (by rw [List.length_map]; omega)]
  show (l.map Op.d)[((i : Nat) : Int).toNat]? = _
  rw [Int.toNat_natCast, List.getElem?_map, e]
  rfl
end
section
local macro_rules
  | `(tactic| infer_instance) => `(tactic| (first | with_reducible refine b_op ?_ | with_reducible refine b_cb ?_ | with_reducible refine b_un ?_ | with_reducible refine b_call ?_ | with_reducible refine b_cons ?_ | with_reducible refine b_nil ?_ | with_reducible refine b_C ?_ | with_reducible refine b_tup ?_ | with_reducible refine b_lst ?_ | with_reducible refine b_fz ?_ | with_reducible refine b_nsl ?_ | with_reducible refine b_nslD ?_ | with_reducible refine b_nslF ?_ | with_reducible refine b_nslS ?_ | with_reducible refine b_tst ?_ | with_reducible refine b_bT ?_ | with_reducible refine b_not ?_ | with_reducible refine b_ok ?_ | with_reducible refine b_rng ?_ | with_reducible refine b_iseq ?_ | with_reducible refine b_yes ?_ | with_reducible refine s_skip ?_ | with_reducible refine s_drop ?_ | with_reducible refine s_ret ?_ | with_reducible refine s_retN ?_ | with_reducible refine s_break ?_ | with_reducible refine s_cont ?_ | with_reducible refine s_asg ?_ | with_reducible refine s_par ?_ | with_reducible refine s_tgt ?_ | with_reducible refine s_for ?_ | with_reducible refine s_loop ?_ | with_reducible refine s_store ?_ | with_reducible refine s_asgsN ?_ | with_reducible refine f_d ?_ | with_reducible refine f_fr ?_ | with_reducible refine b_sl ?_ | with_reducible refine b_oNone ?_ | with_reducible refine b_oSome ?_ | with_reducible refine b_oV ?_ | with_reducible refine b_isN ?_ | with_reducible refine b_notN ?_ | with_reducible refine b_isnD ?_ | with_reducible refine b_notnD ?_ | with_reducible refine b_ienu ?_ | with_reducible refine b_iany ?_ | with_reducible refine b_seqT ?_ | with_reducible refine s_gsCons ?_ | with_reducible refine s_gsNil ?_ | with_reducible refine b_seqL ?_ | with_reducible refine b_seqF ?_ | with_reducible refine b_callK ?_ | with_reducible refine b_blK ?_ | with_reducible refine b_dtK ?_ | with_reducible refine b_intK ?_ | with_reducible refine b_eAndK ?_ | with_reducible refine b_eOrK ?_ | with_reducible refine b_eNotK ?_ | with_reducible refine b_chainK ?_ | with_reducible refine b_andW ?_ | with_reducible refine b_orW ?_ | with_reducible refine b_eIfW ?_ | with_reducible refine s_ifW ?_ | with_reducible refine b_lcK ?_ | with_reducible refine b_sortScK ?_ | with_reducible refine b_dcK ?_ | with_reducible refine b_dcStepK ?_ | ((with_reducible apply b_pb); exact (rfl : _ = [_, _])) | ((with_reducible apply s_seqN); exact (rfl : _ = [_, _])) | ((with_reducible apply b_var_d); rfl) | ((with_reducible apply b_var_o); rfl) | ((with_reducible apply b_fzv); rfl) | ((with_reducible apply b_fzvA); rfl) | ((with_reducible apply s_asgV); rfl) | ((with_reducible apply s_asgs); rfl) | ((with_reducible apply s_asgsD); rfl; first | assumption | exact Fr.un | exact Fr.dat | exact Fr.own) | ((with_reducible apply s_asgsO); rfl; first | assumption | exact Fr.un | exact Fr.dat | exact Fr.own) | ((with_reducible apply s_asgF); rfl; first | assumption | exact Fr.un | exact Fr.dat | exact Fr.own) | ((with_reducible apply s_asgFO); rfl; first | assumption | exact Fr.un | exact Fr.dat | exact Fr.own) | ((with_reducible apply s_storeV); rfl) | ((with_reducible apply s_storeK); rfl) | ((with_reducible apply b_methL); rfl) | ((with_reducible apply b_methV); rfl) | ((with_reducible apply b_mkTup); rfl; exact Nat.le_of_ble_eq_true rfl) | ((with_reducible apply b_mkLst); rfl; exact Nat.le_of_ble_eq_true rfl) | ((with_reducible apply f_sl); rfl) | ((with_reducible apply f_sld); rfl) | ((with_reducible apply x_mul); rfl; rfl; (first | omega | decide)) | ((with_reducible apply x_mod); rfl; rfl; decide) | ((with_reducible apply x_div); rfl; rfl; (first | omega | decide)) | ((with_reducible apply b_opV); rfl; rfl; rfl) | ((with_reducible apply b_unV); rfl; rfl) | ((with_reducible apply b_callV); rfl; rfl) | ((with_reducible apply b_callFP); rfl; rfl) | ((with_reducible apply b_rng1); (first | omega | decide)) | ((with_reducible apply b_rng2); (first | omega | decide)) | ((with_reducible apply s_tupG); rfl; rfl) | ((with_reducible apply b_fzvA); rfl) | ((with_reducible apply b_seqO); rfl) | ((with_reducible apply b_selK); rfl) | ((with_reducible apply way_t); rfl) | ((with_reducible apply way_f); rfl)))
/-- one value is before another one -/
def Log.bef (l : Log) (t a b : Int) : Bool := decide (a ≠ b) && decide (l.fe a + t < l.lb b)
end
section
local macro_rules
  | `(tactic| infer_instance) => `(tactic| (first | with_reducible refine b_op ?_ | with_reducible refine b_cb ?_ | with_reducible refine b_un ?_ | with_reducible refine b_call ?_ | with_reducible refine b_cons ?_ | with_reducible refine b_nil ?_ | with_reducible refine b_C ?_ | with_reducible refine b_tup ?_ | with_reducible refine b_lst ?_ | with_reducible refine b_fz ?_ | with_reducible refine b_nsl ?_ | with_reducible refine b_nslD ?_ | with_reducible refine b_nslF ?_ | with_reducible refine b_nslS ?_ | with_reducible refine b_tst ?_ | with_reducible refine b_bT ?_ | with_reducible refine b_not ?_ | with_reducible refine b_ok ?_ | with_reducible refine b_rng ?_ | with_reducible refine b_iseq ?_ | with_reducible refine b_yes ?_ | with_reducible refine s_skip ?_ | with_reducible refine s_drop ?_ | with_reducible refine s_ret ?_ | with_reducible refine s_retN ?_ | with_reducible refine s_break ?_ | with_reducible refine s_cont ?_ | with_reducible refine s_asg ?_ | with_reducible refine s_par ?_ | with_reducible refine s_tgt ?_ | with_reducible refine s_for ?_ | with_reducible refine s_loop ?_ | with_reducible refine s_store ?_ | with_reducible refine s_asgsN ?_ | with_reducible refine f_d ?_ | with_reducible refine f_fr ?_ | with_reducible refine b_sl ?_ | with_reducible refine b_oNone ?_ | with_reducible refine b_oSome ?_ | with_reducible refine b_oV ?_ | with_reducible refine b_isN ?_ | with_reducible refine b_notN ?_ | with_reducible refine b_isnD ?_ | with_reducible refine b_notnD ?_ | with_reducible refine b_ienu ?_ | with_reducible refine b_iany ?_ | with_reducible refine b_seqT ?_ | with_reducible refine s_gsCons ?_ | with_reducible refine s_gsNil ?_ | with_reducible refine b_seqL ?_ | with_reducible refine b_seqF ?_ | with_reducible refine b_callK ?_ | with_reducible refine b_blK ?_ | with_reducible refine b_dtK ?_ | with_reducible refine b_intK ?_ | with_reducible refine b_eAndK ?_ | with_reducible refine b_eOrK ?_ | with_reducible refine b_eNotK ?_ | with_reducible refine b_chainK ?_ | with_reducible refine b_andW ?_ | with_reducible refine b_orW ?_ | with_reducible refine b_eIfW ?_ | with_reducible refine s_ifW ?_ | with_reducible refine b_lcK ?_ | with_reducible refine b_sortScK ?_ | with_reducible refine b_dcK ?_ | with_reducible refine b_dcStepK ?_ | ((with_reducible apply b_pb); exact (rfl : _ = [_, _, _, _])) | ((with_reducible apply s_seqN); exact (rfl : _ = [_, _, _, _])) | ((with_reducible apply b_var_d); rfl) | ((with_reducible apply b_var_o); rfl) | ((with_reducible apply b_fzv); rfl) | ((with_reducible apply b_fzvA); rfl) | ((with_reducible apply s_asgV); rfl) | ((with_reducible apply s_asgs); rfl) | ((with_reducible apply s_asgsD); rfl; first | assumption | exact Fr.un | exact Fr.dat | exact Fr.own) | ((with_reducible apply s_asgsO); rfl; first | assumption | exact Fr.un | exact Fr.dat | exact Fr.own) | ((with_reducible apply s_asgF); rfl; first | assumption | exact Fr.un | exact Fr.dat | exact Fr.own) | ((with_reducible apply s_asgFO); rfl; first | assumption | exact Fr.un | exact Fr.dat | exact Fr.own) | ((with_reducible apply s_storeV); rfl) | ((with_reducible apply s_storeK); rfl) | ((with_reducible apply b_methL); rfl) | ((with_reducible apply b_methV); rfl) | ((with_reducible apply b_mkTup); rfl; exact Nat.le_of_ble_eq_true rfl) | ((with_reducible apply b_mkLst); rfl; exact Nat.le_of_ble_eq_true rfl) | ((with_reducible apply f_sl); rfl) | ((with_reducible apply f_sld); rfl) | ((with_reducible apply x_mul); rfl; rfl; (first | omega | decide)) | ((with_reducible apply x_mod); rfl; rfl; decide) | ((with_reducible apply x_div); rfl; rfl; (first | omega | decide)) | ((with_reducible apply b_opV); rfl; rfl; rfl) | ((with_reducible apply b_unV); rfl; rfl) | ((with_reducible apply b_callV); rfl; rfl) | ((with_reducible apply b_callFP); rfl; rfl) | ((with_reducible apply b_rng1); (first | omega | decide)) | ((with_reducible apply b_rng2); (first | omega | decide)) | ((with_reducible apply s_tupG); rfl; rfl) | ((with_reducible apply b_fzvA); rfl) | ((with_reducible apply b_seqO); rfl) | ((with_reducible apply b_selK); rfl) | ((with_reducible apply way_t); rfl) | ((with_reducible apply way_f); rfl)))
end
end CM
set_option maxHeartbeats 1000000
namespace CM
open PySem PySem.Spec PyProof.Rows L2 DL
section
variable {ρ ρ' : DEnv} {Q : Val → DEnv → Prop} {QI : Src → DEnv → Prop} {X : Ex → DEnv → Prop} {xs : List Val} {x y : Val} {l : Log} {i : Nat}
theorem b_seqLog (q : QI (l.map Op.d, none) ρ) : (seqSrc (.d l.d) ρ).wp QI X := q
instance st_b_seqLog : St ((seqSrc (.d l.d) ρ).wp QI X) (QI (l.map Op.d, none) ρ) := ⟨b_seqLog⟩
theorem b_seqLogS (e : ρ[i]? = some (.d l.d)) (q : QI (l.map Op.d, none) ρ) : (seqSrc (.sl i) ρ).wp QI X := seqS_tup e q
theorem x_lenLog (h1 : peekL ρ xs = some [l.d]) (q : Q (.d (.int (l.length : Nat))) ρ) : (callV lenD xs ρ).wp Q X := by
  refine b_callV h1 ?_ q
  show some (Val.d (.int ((l.map Op.d).length : Nat))) = _
  rw [List.length_map]
/-- the operation at an index -/
def IdxK (l : Log) (i : Nat) (Q : Val → DEnv → Prop) (ρ : DEnv) : Prop := ∃ o, l[i]? = some o ∧ Q (.d o.d) ρ
instance st_idxLog : St ((opV idxD (.d l.d) (.d (.int (i : Nat))) ρ).wp Q X) (IdxK l i Q ρ) := ⟨fun ⟨o, e, q⟩ => x_idxLog rfl rfl e q⟩
theorem cut_tail {α : Type} {a : α} {ds : List α} : DL.cutD (a :: ds) (some 1) none = ds := by
  unfold DL.cutD HT.sIx
  simp
theorem cut_ini2 {α : Type} {a b : α} {ds : List α} : DL.cutD (a :: b :: ds) none (some 2) = [a, b] := by
  unfold DL.cutD HT.sIx
  simp
theorem x_tailT {a : D} {ds : List D} (h1 : x.peek ρ = some (.tup (a :: ds))) (q : Q (.d (.tup ds)) ρ) : (unV (fun d => sliceD d (some 1) none) x ρ).wp Q X :=
  b_unV h1 (show some (Val.d (.tup (DL.cutD (a :: ds) (some 1) none))) = _ by rw [cut_tail]) q
theorem x_tailL {a : D} {ds : List D} (h1 : x.peek ρ = some (.lst (a :: ds))) (q : Q (.fr (.lst ds)) ρ) : (unV (fun d => sliceD d (some 1) none) x ρ).wp Q X :=
  b_unV h1 (show some (Val.fr (.lst (DL.cutD (a :: ds) (some 1) none))) = _ by rw [cut_tail]) q
theorem x_ini2 {a b : D} {ds : List D} (h1 : x.peek ρ = some (.tup (a :: b :: ds))) (q : Q (.d (.tup [a, b])) ρ) : (unV (fun d => sliceD d none (some 2)) x ρ).wp Q X :=
  b_unV h1 (show some (Val.d (.tup (DL.cutD (a :: b :: ds) none (some 2)))) = _ by rw [cut_ini2]) q
theorem b_anyDI {ks : List Int} {vs : List D} (e : x.peek ρ = some (.dic (ikeys ks) vs)) (e2 : x.fzA ρ = .ok (.d (.dic (ikeys ks) vs)) ρ') (q : QI (ks.map D.int, none) ρ') : (anySrc x ρ).wp QI X := b_anyDic e e2 (by rw [keys_ints]; exact q)
theorem blsD_map {β : Type} {p : β → Bool} {bs : List β} : blsD (bs.map fun b => D.bl (p b)) = some (bs.map p) := by
  rw [show (bs.map fun b => D.bl (p b)) = (bs.map p).map D.bl from by rw [List.map_map]; rfl]
  exact bls_map _
theorem x_allM {β : Type} {p : β → Bool} {bs : List β} (h1 : peekL ρ xs = some [.lst (bs.map fun b => D.bl (p b))]) (q : Q (.d (.bl (bs.all p))) ρ) : (callV allD xs ρ).wp Q X := by
  refine b_callV h1 ?_ q
  show (blsD _).map _ = _
  rw [blsD_map]
  show some (Val.d (.bl ((bs.map p).all id))) = _
  rw [List.all_map]; rfl
theorem x_anyM {β : Type} {p : β → Bool} {bs : List β} (h1 : peekL ρ xs = some [.lst (bs.map fun b => D.bl (p b))]) (q : Q (.d (.bl (bs.any p))) ρ) : (callV anyD xs ρ).wp Q X := by
  refine b_callV h1 ?_ q
  show (blsD _).map _ = _
  rw [blsD_map]
  show some (Val.d (.bl ((bs.map p).any id))) = _
  rw [List.any_map]; rfl
theorem intsD_mapf {β : Type} {p : β → Int} {bs : List β} : intsD (bs.map fun b => D.int (p b)) = some (bs.map p) := by
  rw [show (bs.map fun b => D.int (p b)) = (bs.map p).map D.int from by rw [List.map_map]; rfl]
  exact intsD_map _
theorem x_sumM {β : Type} {p : β → Int} {bs : List β} (h1 : peekL ρ xs = some [.lst (bs.map fun b => D.int (p b))]) (q : Q (.d (.int (bs.map p).sum)) ρ) : (callV sumD xs ρ).wp Q X := by
  refine b_callV h1 ?_ q
  show (intsD _).map _ = _
  rw [intsD_mapf]; rfl
theorem x_lenM {β : Type} {f : β → D} {bs : List β} (h1 : peekL ρ xs = some [.lst (bs.map f)]) (q : Q (.d (.int (bs.length : Nat))) ρ) : (callV lenD xs ρ).wp Q X := by
  refine b_callV h1 ?_ q
  show some (Val.d (.int ((bs.map f).length : Nat))) = _
  rw [List.length_map]
theorem x_lenMT {β : Type} {f : β → D} {bs : List β} (h1 : peekL ρ xs = some [.tup (bs.map f)]) (q : Q (.d (.int (bs.length : Nat))) ρ) : (callV lenD xs ρ).wp Q X := by
  refine b_callV h1 ?_ q
  show some (Val.d (.int ((bs.map f).length : Nat))) = _
  rw [List.length_map]
theorem k_write {o : Op} : decide (o.k = ("write" : Str)) = o.w := by
  obtain ⟨w, v, b, e⟩ := o; cases w
  · show decide (("read" : Str) = "write") = false; decide
  · show decide (("write" : Str) = "write") = true; decide
theorem k_read {o : Op} : decide (o.k = ("read" : Str)) = !o.w := by
  obtain ⟨w, v, b, e⟩ := o; cases w
  · show decide (("read" : Str) = "read") = !false; decide
  · show decide (("write" : Str) = "read") = !true; decide
theorem x_eqKw {o : Op} (h1 : x.peek ρ = some (.str o.k)) (h2 : y.peek ρ = some (.str "write")) (q : Q (.d (.bl o.w)) ρ) : (opV eqV' x y ρ).wp Q X := x_eq (k := decide (o.k = ("write" : Str))) h1 h2 rfl (by rw [k_write]; exact q)
theorem x_eqKr {o : Op} (h1 : x.peek ρ = some (.str o.k)) (h2 : y.peek ρ = some (.str "read")) (q : Q (.d (.bl !o.w)) ρ) : (opV eqV' x y ρ).wp Q X := x_eq (k := decide (o.k = ("read" : Str))) h1 h2 rfl (by rw [k_read]; exact q)
theorem x_neKw {o : Op} (h1 : x.peek ρ = some (.str o.k)) (h2 : y.peek ρ = some (.str "write")) (q : Q (.d (.bl !o.w)) ρ) : (opV neV' x y ρ).wp Q X := x_ne (k := decide (o.k = ("write" : Str))) h1 h2 rfl (by rw [k_write]; exact q)
theorem x_neKr {o : Op} (h1 : x.peek ρ = some (.str o.k)) (h2 : y.peek ρ = some (.str "read")) (q : Q (.d (.bl o.w)) ρ) : (opV neV' x y ρ).wp Q X := x_ne (k := decide (o.k = ("read" : Str))) h1 h2 rfl (by rw [k_read, Bool.not_not]; exact q)
instance st_x_eqKw {o : Op} : St ((opV eqV' (.d (.str o.k)) (.d (.str ("write" : Str))) ρ).wp Q X) (Q (.d (.bl (o.w))) ρ) := ⟨fun q => x_eqKw rfl rfl q⟩
instance st_x_eqKr {o : Op} : St ((opV eqV' (.d (.str o.k)) (.d (.str ("read" : Str))) ρ).wp Q X) (Q (.d (.bl (!o.w))) ρ) := ⟨fun q => x_eqKr rfl rfl q⟩
instance st_x_neKw {o : Op} : St ((opV neV' (.d (.str o.k)) (.d (.str ("write" : Str))) ρ).wp Q X) (Q (.d (.bl (!o.w))) ρ) := ⟨fun q => x_neKw rfl rfl q⟩
instance st_x_neKr {o : Op} : St ((opV neV' (.d (.str o.k)) (.d (.str ("read" : Str))) ρ).wp Q X) (Q (.d (.bl (o.w))) ρ) := ⟨fun q => x_neKr rfl rfl q⟩
def lenSetV (x : Val) : EM := unV (fun x => (setI x).map fun ns => .d (.int ((sortSetI ns).length : Nat))) x
def sortSetV (x : Val) : EM := unV (fun x => (setI x).map fun ns => .fr (.lst ((sortSetI ns).map D.int))) x
theorem b_lenSet {f : EM} (q : (f ρ).wp (fun x ρ1 => (lenSetV x ρ1).wp Q X) X) : (eLenSet f ρ).wp Q X := b_un q
theorem b_sortSet {f : EM} (q : (f ρ).wp (fun x ρ1 => (sortSetV x ρ1).wp Q X) X) : (eSortSet f ρ).wp Q X := b_un q
instance st_b_lenSet {f : EM} : St ((eLenSet f ρ).wp Q X) ((f ρ).wp (fun x ρ1 => (lenSetV x ρ1).wp Q X) X) := ⟨b_lenSet⟩
instance st_b_sortSet {f : EM} : St ((eSortSet f ρ).wp Q X) ((f ρ).wp (fun x ρ1 => (sortSetV x ρ1).wp Q X) X) := ⟨b_sortSet⟩
theorem setI_map {β : Type} {p : β → Int} {bs : List β} (hl : bs.length < 4000) : setI (.lst (bs.map fun b => D.int (p b))) = some (bs.map p) := by
  unfold setI
  dsimp only
  rw [intsD_mapf]
  exact if_pos (by rw [List.length_map]; exact hl)
theorem x_lenSetM {β : Type} {p : β → Int} {bs : List β} (h1 : x.peek ρ = some (.lst (bs.map fun b => D.int (p b)))) (hl : bs.length < 4000) (q : Q (.d (.int ((sortSetI (bs.map p)).length : Nat))) ρ) : (lenSetV x ρ).wp Q X :=
  b_unV h1 (by rw [setI_map hl]; rfl) q
end
end CM
local macro_rules
  | `(tactic| case orE => $s:tacticSeq) => do
    let a := s.raw[0][0].getSepArgs
    if a.size ≤ 1 then Lean.Macro.throwUnsupported
    let b : Array (Lean.TSyntax `tactic) := (a.extract ((a.size + 1) / 2) a.size).map (fun x => ⟨x⟩)
    if b.size = 1 then return b[0]! else `(tactic| case orE => $[$b]*)
local macro_rules
  | `(tactic| case orE => $s:tacticSeq) => do
    let a := s.raw[0][0].getSepArgs
    let b : Array (Lean.TSyntax `tactic) := (a.extract 0 ((a.size + 1) / 2)).map (fun x => ⟨x⟩)
    if b.size = 1 then return b[0]! else `(tactic| case orE => $[$b]*)
local macro_rules
  | `(tactic| fail $n:str) => do
    unless n.getString.startsWith "WU" do Lean.Macro.throwUnsupported
    let w := (((n.getString.splitOn "WU").getD 1 "").splitOn "/").map String.toNat!
    match w with
    | [lo, hi, k] => if hi ≤ lo + 1 then Lean.Macro.throwUnsupported else `(tactic| fail $(Lean.quote s!"WU{(lo + hi + 1) / 2}/{hi}/{k}"))
    | _ => Lean.Macro.throwUnsupported
local macro_rules
  | `(tactic| fail $n:str) => do
    unless n.getString.startsWith "WU" do Lean.Macro.throwUnsupported
    let w := (((n.getString.splitOn "WU").getD 1 "").splitOn "/").map String.toNat!
    match w with
    | [k] => `(tactic| fail $(Lean.quote s!"WU0/20/{k}"))
    | [lo, hi, k] =>
      let mk := fun (a b : Nat) => (Lean.quote s!"WU{a}/{b}/{k}" : Lean.TSyntax `str)
      if lo + 1 < hi then `(tactic| fail $(mk lo ((lo + hi + 1) / 2))) else
      let us : Array (Lean.TSyntax `term) := Array.replicate (if lo ∈ [3, 58, 73, 83] then k else 0) (← `(_))
      match lo with
      | 0 => `(tactic| (with_reducible refine DL.St.ap ?_))
      | 1 => `(tactic| ((with_reducible change DL.R.wp _ _ _); fail $(mk 20 73)))
      | 2 => `(tactic| ((with_reducible change DL.RS.wp _ _); fail $(mk 73 84)))
      | 3 => `(tactic| ((with_reducible refine DL.b_pb (by with_unfolding_all exact (rfl : _ = [$us,*])) ?_)))
      | 4 => `(tactic| ((with_reducible refine DL.b_isDK (by with_unfolding_all exact rfl) ?_)))
      | 5 => `(tactic| ((with_reducible refine DL.s_storeK (by with_unfolding_all exact rfl) ?_)))
      | 6 => `(tactic| ((with_reducible refine DL.b_selK (by with_unfolding_all exact rfl) ?_)))
      | 7 => `(tactic| (with_reducible refine CM.way_eq ?_))
      | 8 => `(tactic| (with_reducible refine CM.way_eq' ?_))
      | 9 => `(tactic| ((with_reducible refine DL.way_t (by decide +kernel) ?_)))
      | 10 => `(tactic| ((with_reducible refine DL.way_f (by decide +kernel) ?_)))
      | 11 => `(tactic| ((with_reducible refine DL.way_t (by (first | with_unfolding_all exact rfl | assumption | (simp only [decide_eq_true_eq, decide_eq_false_iff_not, Bool.not_eq_true', Bool.not_eq_false', Bool.and_eq_true, Bool.or_eq_true]; first | assumption | omega))) ?_)))
      | 12 => `(tactic| ((with_reducible refine DL.way_f (by (first | with_unfolding_all exact rfl | assumption | (simp only [decide_eq_true_eq, decide_eq_false_iff_not, Bool.not_eq_true', Bool.not_eq_false', Bool.and_eq_true, Bool.or_eq_true]; first | assumption | omega))) ?_)))
      | 13 => `(tactic| ((with_reducible refine DL.b_compK (by with_unfolding_all exact rfl) (by (first | ((try simp only [List.length_map, List.length_range, List.length_zipIdx, DL.enumL_len, List.length_cons, List.length_nil, List.length_append, List.length_replicate, List.length_take, List.length_drop, CM.natsD_len]); omega) | decide)) ?_)))
      | 14 => `(tactic| (with_reducible refine DL.b_itV (by with_unfolding_all exact rfl)))
      | 15 => `(tactic| (with_reducible refine DL.b_diV ?_))
      | 16 => `(tactic| ((with_reducible refine DL.b_diK (by with_unfolding_all exact rfl) (fun hk => ?_))))
      | 17 => `(tactic| ((with_reducible refine DL.b_itK (by with_unfolding_all exact rfl) (fun hk => ?_))))
      | 18 => `(tactic| ((with_reducible change DL.RF.wp _ _ _); fail $(mk 84 86)))
      | 19 => `(tactic| ((with_reducible change DL.GRS.wp _ _); fail $(mk 86 87)))
      | 20 => `(tactic| ((with_reducible refine DL.b_var_d (by with_unfolding_all exact rfl) ?_)))
      | 21 => `(tactic| ((with_reducible refine DL.b_var_o (by with_unfolding_all exact rfl) ?_)))
      | 22 => `(tactic| ((with_reducible refine CM.b_seqLogS (by with_unfolding_all exact rfl) ?_)))
      | 23 => `(tactic| ((with_reducible refine CM.x_lenLog (by with_unfolding_all exact rfl) ?_)))
      | 24 => `(tactic| ((with_reducible refine CM.x_tailT (by with_unfolding_all exact rfl) ?_)))
      | 25 => `(tactic| ((with_reducible refine CM.x_tailL (by with_unfolding_all exact rfl) ?_)))
      | 26 => `(tactic| ((with_reducible refine CM.x_ini2 (by with_unfolding_all exact rfl) ?_)))
      | 27 => `(tactic| ((with_reducible refine CM.x_allM (by with_unfolding_all exact rfl) ?_)))
      | 28 => `(tactic| ((with_reducible refine CM.x_anyM (by with_unfolding_all exact rfl) ?_)))
      | 29 => `(tactic| ((with_reducible refine CM.x_sumM (by with_unfolding_all exact rfl) ?_)))
      | 30 => `(tactic| ((with_reducible refine CM.x_lenM (by with_unfolding_all exact rfl) ?_)))
      | 31 => `(tactic| ((with_reducible refine CM.x_lenMT (by with_unfolding_all exact rfl) ?_)))
      | 32 => `(tactic| ((with_reducible refine DL.x_inD (by with_unfolding_all exact rfl) (by with_unfolding_all exact rfl) ?_)))
      | 33 => `(tactic| ((with_reducible refine DL.x_ninD (by with_unfolding_all exact rfl) (by with_unfolding_all exact rfl) ?_)))
      | 34 => `(tactic| ((with_reducible refine DL.x_inI (by with_unfolding_all exact rfl) (by with_unfolding_all exact rfl) ?_)))
      | 35 => `(tactic| ((with_reducible refine DL.x_ninI (by with_unfolding_all exact rfl) (by with_unfolding_all exact rfl) ?_)))
      | 36 => `(tactic| ((with_reducible refine DL.x_inIT (by with_unfolding_all exact rfl) (by with_unfolding_all exact rfl) ?_)))
      | 37 => `(tactic| ((with_reducible refine DL.x_ninIT (by with_unfolding_all exact rfl) (by with_unfolding_all exact rfl) ?_)))
      | 38 => `(tactic| ((with_reducible refine DL.x_getV (by with_unfolding_all exact rfl) (by with_unfolding_all exact rfl) ?_)))
      | 39 => `(tactic| ((with_reducible refine CM.b_anyDI (by with_unfolding_all exact rfl) (by with_unfolding_all exact rfl) ?_)))
      | 40 => `(tactic| ((with_reducible refine DL.b_anySeq (by with_unfolding_all exact rfl) ?_)))
      | 41 => `(tactic| ((with_reducible refine DL.b_igenV (by with_unfolding_all exact rfl) ?_)))
      | 42 => `(tactic| ((with_reducible refine DL.b_fzv (by with_unfolding_all exact rfl) ?_)))
      | 43 => `(tactic| ((with_reducible refine DL.b_fzvA (by with_unfolding_all exact rfl) ?_)))
      | 44 => `(tactic| ((with_reducible refine DL.b_methL (by with_unfolding_all exact rfl) ?_)))
      | 45 => `(tactic| ((with_reducible refine DL.b_methV (by with_unfolding_all exact rfl) ?_)))
      | 46 => `(tactic| ((with_reducible refine DL.b_mkTup (by with_unfolding_all exact rfl) (by with_unfolding_all exact Nat.le_of_ble_eq_true rfl) ?_)))
      | 47 => `(tactic| ((with_reducible refine DL.b_mkLst (by with_unfolding_all exact rfl) (by with_unfolding_all exact Nat.le_of_ble_eq_true rfl) ?_)))
      | 48 => `(tactic| ((with_reducible refine DL.x_mul (by with_unfolding_all exact rfl) (by with_unfolding_all exact rfl) (by (first | omega | decide)) ?_)))
      | 49 => `(tactic| ((with_reducible refine DL.x_mod (by with_unfolding_all exact rfl) (by with_unfolding_all exact rfl) (by decide) ?_)))
      | 50 => `(tactic| ((with_reducible refine DL.x_div (by with_unfolding_all exact rfl) (by with_unfolding_all exact rfl) (by (first | omega | decide)) ?_)))
      | 51 => `(tactic| ((with_reducible refine DL.b_unV (by with_unfolding_all exact rfl) (by with_unfolding_all exact rfl) ?_)))
      | 52 => `(tactic| ((with_reducible refine DL.b_callV (by with_unfolding_all exact rfl) (by with_unfolding_all exact rfl) ?_)))
      | 53 => `(tactic| ((with_reducible refine DL.b_callFP (by with_unfolding_all exact rfl) (by with_unfolding_all exact rfl) ?_)))
      | 54 => `(tactic| ((with_reducible refine DL.b_rng1 (by (first | omega | decide)) ?_)))
      | 55 => `(tactic| ((with_reducible refine DL.b_rng2 (by (first | omega | decide)) ?_)))
      | 56 => `(tactic| ((with_reducible refine DL.b_fzvA (by with_unfolding_all exact rfl) ?_)))
      | 57 => `(tactic| ((with_reducible refine DL.b_seqO (by with_unfolding_all exact rfl) ?_)))
      | 58 => `(tactic| (((with_reducible refine DL.compN (by with_unfolding_all exact ((rfl : _ = [$us,*]))) ?_); (first | with_reducible refine DL.comp_nil ?_ | with_reducible refine DL.comp_cons0 ?_ | with_reducible refine DL.comp_cons ?_ | ((with_reducible refine' DL.comp_all (fun b hb => ?_) ?_); rotate_left) | ((with_reducible refine' DL.comp_mapK (fun b hb => ?_) ?_); rotate_left 2)))))
      | 59 => `(tactic| ((with_reducible refine DL.b_opV (op := DL.idxD) (by with_unfolding_all exact rfl) (by with_unfolding_all exact rfl) (by with_unfolding_all exact rfl) ?_)))
      | 60 => `(tactic| ((with_reducible refine DL.b_opV (op := DL.addD) (by with_unfolding_all exact rfl) (by with_unfolding_all exact rfl) (by with_unfolding_all exact rfl) ?_)))
      | 61 => `(tactic| ((with_reducible refine DL.b_opV (op := DL.subD) (by with_unfolding_all exact rfl) (by with_unfolding_all exact rfl) (by with_unfolding_all exact rfl) ?_)))
      | 62 => `(tactic| ((with_reducible refine DL.b_opV (op := DL.ltD) (by with_unfolding_all exact rfl) (by with_unfolding_all exact rfl) (by with_unfolding_all exact rfl) ?_)))
      | 63 => `(tactic| ((with_reducible refine DL.b_opV (op := DL.leD) (by with_unfolding_all exact rfl) (by with_unfolding_all exact rfl) (by with_unfolding_all exact rfl) ?_)))
      | 64 => `(tactic| ((with_reducible refine DL.b_opV (op := DL.gtD) (by with_unfolding_all exact rfl) (by with_unfolding_all exact rfl) (by with_unfolding_all exact rfl) ?_)))
      | 65 => `(tactic| ((with_reducible refine DL.b_opV (op := DL.geD) (by with_unfolding_all exact rfl) (by with_unfolding_all exact rfl) (by with_unfolding_all exact rfl) ?_)))
      | 66 => `(tactic| ((with_reducible refine DL.b_opV (op := DL.powD) (by with_unfolding_all exact rfl) (by with_unfolding_all exact rfl) (by with_unfolding_all exact rfl) ?_)))
      | 67 => `(tactic| ((with_reducible refine DL.b_opV (op := DL.inD) (by with_unfolding_all exact rfl) (by with_unfolding_all exact rfl) (by with_unfolding_all exact rfl) ?_)))
      | 68 => `(tactic| ((with_reducible refine DL.b_opV (op := DL.ninD) (by with_unfolding_all exact rfl) (by with_unfolding_all exact rfl) (by with_unfolding_all exact rfl) ?_)))
      | 69 => `(tactic| ((with_reducible refine DL.b_opV (op := DL.isBD) (by with_unfolding_all exact rfl) (by with_unfolding_all exact rfl) (by with_unfolding_all exact rfl) ?_)))
      | 70 => `(tactic| ((with_reducible refine DL.b_opV (op := DL.isnotBD) (by with_unfolding_all exact rfl) (by with_unfolding_all exact rfl) (by with_unfolding_all exact rfl) ?_)))
      | 71 => `(tactic| ((with_reducible refine DL.b_opV (op := DL.lrgD) (by with_unfolding_all exact rfl) (by with_unfolding_all exact rfl) (by with_unfolding_all exact rfl) ?_)))
      | 72 => `(tactic| ((with_reducible refine DL.b_opV (op := DL.trgD) (by with_unfolding_all exact rfl) (by with_unfolding_all exact rfl) (by with_unfolding_all exact rfl) ?_)))
      | 73 => `(tactic| ((with_reducible refine DL.s_seqNW (by with_unfolding_all exact (rfl : _ = [$us,*])) ?_)))
      | 74 => `(tactic| ((with_reducible refine DL.s_tupGL (by with_unfolding_all exact rfl) (by with_unfolding_all exact rfl) ?_)))
      | 75 => `(tactic| ((with_reducible refine DL.s_asgV (by with_unfolding_all exact rfl) ?_)))
      | 76 => `(tactic| ((with_reducible refine DL.s_asgs (by with_unfolding_all exact rfl) ?_)))
      | 77 => `(tactic| ((with_reducible refine DL.s_asgsD (by with_unfolding_all exact rfl) (by first | assumption | exact DL.Fr.un | exact DL.Fr.dat | exact DL.Fr.own) ?_)))
      | 78 => `(tactic| ((with_reducible refine DL.s_asgsO (by with_unfolding_all exact rfl) (by first | assumption | exact DL.Fr.un | exact DL.Fr.dat | exact DL.Fr.own) ?_)))
      | 79 => `(tactic| ((with_reducible refine DL.s_asgF (by with_unfolding_all exact rfl) (by first | assumption | exact DL.Fr.un | exact DL.Fr.dat | exact DL.Fr.own) ?_)))
      | 80 => `(tactic| ((with_reducible refine DL.s_asgFO (by with_unfolding_all exact rfl) (by first | assumption | exact DL.Fr.un | exact DL.Fr.dat | exact DL.Fr.own) ?_)))
      | 81 => `(tactic| ((with_reducible refine DL.s_storeV (by with_unfolding_all exact rfl) ?_)))
      | 82 => `(tactic| ((with_reducible refine DL.s_tupG (by with_unfolding_all exact rfl) (by with_unfolding_all exact rfl) ?_)))
      | 83 => `(tactic| (((with_reducible refine DL.loopN (by with_unfolding_all exact ((rfl : _ = [$us,*]))) ?_); (first | with_reducible refine DL.loop_nil ?_ | with_reducible refine DL.loop_consW ?_))))
      | 84 => `(tactic| ((with_reducible refine DL.f_sl (by with_unfolding_all exact rfl) ?_)))
      | 85 => `(tactic| ((with_reducible refine DL.f_sld (by with_unfolding_all exact rfl) ?_)))
      | 86 => `(tactic| ((with_reducible refine DL.g_yield (by omega) ?_)))
      | _ => Lean.Macro.throwUnsupported
    | _ => Lean.Macro.throwUnsupported
namespace CM
open PySem PySem.Spec PyProof.Rows L2 DL
theorem isint_wp {i a b : Int} {Q : Val → DEnv → Prop} {X : Ex → DEnv → Prop} (q : Q (.d (.bl (decide (a ≤ i) && decide (i ≤ b)))) [.d (.int i), .d (.int a), .d (.int b)]) : (s_is_integer [.d (.int i), .d (.int a), .d (.int b)]).wp Q X := by
  unfold s_is_integer e_is_integer; with_reducible refine f_fnW (by with_unfolding_all exact rfl) ?_
  repeat fail "WU3"
  exact q
end CM
set_option maxHeartbeats 1000000
namespace CM
open PySem PySem.Spec PyProof.Rows L2 DL
theorem q_bl {k k' : Bool} {ρ ρ' : DEnv} {Q : Val → DEnv → Prop} (q : Q (.d (.bl k)) ρ) (e : k = k') (e2 : ρ = ρ' := by rfl) : Q (.d (.bl k')) ρ' := by subst e; subst e2; exact q
def Op.okB (o : Op) : Bool := decide (if o.w then 1 ≤ o.v else 0 ≤ o.v) && decide (o.v ≤ 1000000000) && decide (-1000000000000000 ≤ o.b) && decide (o.b ≤ o.e) && decide (o.e ≤ 1000000000000000)
theorem okB_iff {o : Op} : o.okB = true ↔ o.Ok := by
  obtain ⟨w, v, b, e⟩ := o
  unfold Op.okB
  constructor
  · intro h
    cases w <;> simp at h <;> exact ⟨by dsimp only; omega, by simp <;> omega, by dsimp only; omega, by dsimp only; omega, by dsimp only; omega, by dsimp only; omega⟩
  · rintro ⟨h1, h2, h3, h4, h5, h6⟩
    cases w <;> simp at * <;> omega
theorem stamps_wp {b e : Int} {Q : Val → DEnv → Prop} {X : Ex → DEnv → Prop} (q : Q (.d (.bl (decide (-1000000000000000 ≤ b) && decide (b ≤ e) && decide (e ≤ 1000000000000000)))) [.d (.int b), .d (.int e)]) : (s_are_stamps [.d (.int b), .d (.int e)]).wp Q X := by
  unfold s_are_stamps e_are_stamps; with_reducible refine f_fnW (by with_unfolding_all exact rfl) ?_
  (repeat (case orE => (fail "WU2"); (with_reducible refine isint_wp ?_)))
  refine q_bl q ?_
  rw [Bool.eq_iff_iff]; simp; omega
theorem isop_wp {o : Op} {Q : Val → DEnv → Prop} {X : Ex → DEnv → Prop} (q : Q (.d (.bl o.okB)) [.d o.d]) : (s_is_operation [.d o.d]).wp Q X := by
  obtain ⟨w, v, b, e⟩ := o
  cases w
  · show (s_is_operation [.d (.tup [.str "read", .int v, .int b, .int e])]).wp Q X
    unfold s_is_operation e_is_operation; with_reducible refine f_fnW (by with_unfolding_all exact rfl) ?_
    (repeat (case orE => (fail "WU5"); (with_reducible refine isint_wp ?_); (with_reducible refine stamps_wp ?_)))
    refine ⟨fun h => ?_, fun h => ?_⟩
    · repeat fail "WU5"
      refine q_bl q ?_
      have h : ((false || !(decide ((0 : Int) ≤ v) && decide (v ≤ 1000000000)))) = true := h
      unfold Op.okB
      rw [Bool.eq_iff_iff]; simp at h ⊢; omega
    · (repeat (case orE => (fail "WU5"); (with_reducible refine isint_wp ?_); (with_reducible refine stamps_wp ?_)))
      refine q_bl q ?_
      have h : ((false || !(decide ((0 : Int) ≤ v) && decide (v ≤ 1000000000)))) = false := h
      unfold Op.okB
      rw [Bool.eq_iff_iff]; simp at h ⊢; omega
  · show (s_is_operation [.d (.tup [.str "write", .int v, .int b, .int e])]).wp Q X
    unfold s_is_operation e_is_operation; with_reducible refine f_fnW (by with_unfolding_all exact rfl) ?_
    (repeat (case orE => (fail "WU5"); (with_reducible refine isint_wp ?_); (with_reducible refine stamps_wp ?_)))
    refine ⟨fun h => ?_, fun h => ?_⟩
    · repeat fail "WU5"
      refine q_bl q ?_
      have h : ((false || !(decide ((1 : Int) ≤ v) && decide (v ≤ 1000000000)))) = true := h
      unfold Op.okB
      rw [Bool.eq_iff_iff]; simp at h ⊢; omega
    · (repeat (case orE => (fail "WU5"); (with_reducible refine isint_wp ?_); (with_reducible refine stamps_wp ?_)))
      refine q_bl q ?_
      have h : ((false || !(decide ((1 : Int) ≤ v) && decide (v ≤ 1000000000)))) = false := h
      unfold Op.okB
      rw [Bool.eq_iff_iff]; simp at h ⊢; omega
def Log.okB (l : Log) : Bool := decide (l.length ≤ 200) && l.all Op.okB && decide l.wr.Nodup
theorem logB_iff {l : Log} : l.okB = true ↔ l.Ok := by
  unfold Log.okB
  simp only [Bool.and_eq_true, decide_eq_true_eq, List.all_eq_true]
  exact ⟨fun ⟨⟨h1, h2⟩, h3⟩ => ⟨fun o ho => okB_iff.mp (h2 o ho), h3, h1⟩, fun h => ⟨⟨h.len, fun o ho => okB_iff.mpr (h.ops o ho)⟩, h.nd⟩⟩
theorem insI_nin {k : Int} : ∀ {xs : List Int}, k ∉ xs → (insI k xs).length = xs.length + 1
  | [], _ => rfl
  | x :: xs, h => by
    unfold insI
    split
    · rfl
    · rw [if_neg (fun z => h (by rw [z]; exact List.mem_cons_self)), List.length_cons, insI_nin (fun z => h (List.mem_cons_of_mem _ z)), List.length_cons]
theorem insI_in {k : Int} : ∀ {xs : List Int}, xs.Pairwise (· < ·) → k ∈ xs → (insI k xs).length = xs.length
  | [], _, h => by simp at h
  | x :: xs, hp, h => by
    obtain ⟨h1, h2⟩ := List.pairwise_cons.mp hp
    unfold insI
    rcases List.mem_cons.mp h with rfl | z
    · rw [if_neg (by omega), if_pos rfl]
    · have := h1 k z
      rw [if_neg (by omega), if_neg (by omega), List.length_cons, insI_in h2 z, List.length_cons]
theorem sortSet_nodup : ∀ {ns : List Int}, (sortSetI ns).length = ns.length ↔ ns.Nodup
  | [] => by simp [sortSetI]
  | n :: ns => by
    have ih := sortSet_nodup (ns := ns)
    have hle := sortSetI_len (xs := ns)
    show (insI n (sortSetI ns)).length = _ ↔ _
    rw [List.nodup_cons, List.length_cons]
    by_cases h : n ∈ ns
    · rw [insI_in (sortSetI_pw _) (mem_sortSetI.mpr h)]
      exact ⟨fun z => by omega, fun z => absurd h z.1⟩
    · rw [insI_nin (fun z => h (mem_sortSetI.mp z)), ← ih]
      exact ⟨fun z => ⟨h, by omega⟩, fun z => by rw [z.2]⟩
theorem islog_wp {l : Log} {Q : Val → DEnv → Prop} {X : Ex → DEnv → Prop} (hl : l.length < 4000) (q : Q (.d (.bl l.okB)) [.d l.d]) : (s_is_log [.d l.d]).wp Q X := by
  unfold s_is_log e_is_log; with_reducible refine f_fnW (by with_unfolding_all exact rfl) ?_
  repeat fail "WU3"
  by_cases h : l.length ≤ 200
  · refine way_f (by simp; omega) ?_
    unfold c1_is_log
    (repeat (case orE => (fail "WU3"); (with_reducible refine isop_wp ?_)))
    refine ⟨fun ha => ?_, fun ha => ?_⟩
    · have e : l.okB = false := by
        unfold Log.okB
        have : l.all Op.okB = false := by simpa using ha
        rw [this]; simp
      repeat fail "WU3"
      exact q_bl q e
    · unfold c2_is_log
      (repeat (case orE => (fail "WU3"); (with_reducible refine x_lenSetM rfl (by have := List.length_filter_le Op.w l; omega) ?_)))
      refine q_bl q ?_
      have ha : l.all Op.okB = true := by simpa using ha
      unfold Log.okB
      rw [ha, decide_eq_true h, Bool.true_and, Bool.true_and, Bool.eq_iff_iff, decide_eq_true_eq, decide_eq_true_eq, ← sortSet_nodup]
      rw [show Log.wr l = (l.filter Op.w).map Op.v from rfl, List.length_map]
      omega
  · have e : l.okB = false := by
      unfold Log.okB
      rw [decide_eq_false h]; rfl
    refine way_t (by simp; omega) ?_
    repeat fail "WU3"
    exact q_bl q e
end CM
set_option maxHeartbeats 1000000
namespace CM
open PySem PySem.Spec PyProof.Rows L2 DL
/-! what the faults of a log are -/
instance : Inhabited Op := ⟨⟨false, 0, 0, 0⟩⟩
def Log.at (l : Log) (i : Nat) : Op := l.getD i default
theorem at_get {l : Log} {i : Nat} (h : i < l.length) : l[i]? = some (l.at i) := by
  unfold Log.at
  rw [List.getD_eq_getElem?_getD, List.getElem?_eq_getElem h]; rfl
theorem at_of {l : Log} {i : Nat} {o : Op} (h : l[i]? = some o) : l.at i = o := by
  unfold Log.at
  rw [List.getD_eq_getElem?_getD, h]; rfl
/-- the index of the write of a value -/
def Log.wix (l : Log) (v : Int) : Nat := l.findIdx fun o => o.w && decide (o.v = v)
theorem mem_wr {l : Log} {v : Int} : v ∈ l.wr ↔ ∃ o ∈ l, o.w = true ∧ o.v = v := by
  unfold Log.wr
  rw [List.mem_map]
  constructor
  · rintro ⟨o, h, rfl⟩
    obtain ⟨h1, h2⟩ := List.mem_filter.mp h
    exact ⟨o, h1, h2, rfl⟩
  · rintro ⟨o, h1, h2, rfl⟩
    exact ⟨o, List.mem_filter.mpr ⟨h1, h2⟩, rfl⟩
theorem wix_at {l : Log} {v : Int} (h : v ∈ l.wr) : l.wix v < l.length ∧ (l.at (l.wix v)).w = true ∧ (l.at (l.wix v)).v = v := by
  obtain ⟨o, h1, h2, h3⟩ := mem_wr.mp h
  have hl : l.wix v < l.length := List.findIdx_lt_length_of_exists ⟨o, h1, by simp [h2, h3]⟩
  refine ⟨hl, ?_⟩
  have := List.findIdx_getElem (xs := l) (p := fun o : Op => o.w && decide (o.v = v)) (w := hl)
  have e : l.at (l.wix v) = l[l.wix v] := at_of (List.getElem?_eq_getElem hl)
  rw [e]
  simp only [Bool.and_eq_true, decide_eq_true_eq] at this
  exact this
/-- writes at two indexes are of two values -/
theorem wr_inj : ∀ {l : Log} {i j : Nat} {a b : Op}, (Log.wr l).Nodup → l[i]? = some a → l[j]? = some b → a.w = true → b.w = true → a.v = b.v → i = j
  | [], i, j, a, b, _, h, _, _, _, _ => by simp at h
  | o :: l, i, j, a, b, nd, h1, h2, w1, w2, e => by
    have sub : (Log.wr l).Nodup := by
      unfold Log.wr at nd ⊢
      rw [List.filter_cons] at nd
      split at nd
      · rw [List.map_cons, List.nodup_cons] at nd; exact nd.2
      · exact nd
    have no : ∀ {k : Nat} {c : Op}, l[k]? = some c → c.w = true → o.w = true → o.v = c.v → False := fun {k c} hk hw ow ev => by
      unfold Log.wr at nd
      rw [List.filter_cons, if_pos ow, List.map_cons, List.nodup_cons] at nd
      exact nd.1 (List.mem_map.mpr ⟨c, List.mem_filter.mpr ⟨List.mem_of_getElem? hk, hw⟩, ev.symm⟩)
    cases i with
    | zero =>
      cases j with
      | zero => rfl
      | succ j =>
        have h1 : o = a := by simpa using h1
        subst h1
        exact (no (k := j) (by simpa using h2) w2 w1 e).elim
    | succ i =>
      cases j with
      | zero =>
        have h2 : o = b := by simpa using h2
        subst h2
        exact (no (k := i) (by simpa using h1) w1 w2 e.symm).elim
      | succ j => exact congrArg (· + 1) (wr_inj sub (by simpa using h1) (by simpa using h2) w1 w2 e)
theorem wix_of {l : Log} {i : Nat} {o : Op} (nd : l.wr.Nodup) (h : l[i]? = some o) (hw : o.w = true) : l.wix o.v = i := by
  obtain ⟨h1, h2, h3⟩ := wix_at (mem_wr.mpr ⟨o, List.mem_of_getElem? h, hw, rfl⟩)
  exact wr_inj nd (at_get h1) h h2 hw h3
inductive Flt where
  | unw (r : Nat) | early (r w : Nat) | crossed (a b c d : Nat) | late (c d : Nat)
  deriving DecidableEq
def nD (n : Nat) : D := .int (n : Nat)
def Flt.d : Flt → D
  | .unw r => .tup [.str "unwritten", .int (r : Nat)]
  | .early r w => .tup [.str "early", .int (r : Nat), .int (w : Nat)]
  | .crossed a b c d => .tup [.str "crossed", .int (a : Nat), .int (b : Nat), .int (c : Nat), .int (d : Nat)]
  | .late c d => .tup [.str "late", .int (c : Nat), .int (d : Nat)]
def Flt.ixs : Flt → List Nat
  | .unw r => [r]
  | .early r w => [r, w]
  | .crossed a b c d => [a, b, c, d]
  | .late c d => [c, d]
def Flt.In (n : Nat) (f : Flt) : Prop := ∀ i ∈ f.ixs, i < n
def sureB (l : Log) (t : Int) (i j : Nat) : Bool := decide ((l.at i).e + t < (l.at j).b)
/-- whether it is a fault, its indexes given -/
def Flt.is (l : Log) (t : Int) : Flt → Bool
  | .unw r => !(l.at r).w && decide ((l.at r).v ≠ 0) && !decide ((l.at r).v ∈ l.wr)
  | .early r w => !(l.at r).w && (l.at w).w && decide ((l.at r).v = (l.at w).v) && sureB l t r w
  | .crossed a b c d => decide ((l.at a).v = (l.at d).v) && decide ((l.at b).v = (l.at c).v) && decide ((l.at a).v ≠ (l.at b).v) && decide ((l.at a).v ≠ 0) && decide ((l.at b).v ≠ 0) && sureB l t a b && sureB l t c d
  | .late c d => decide ((l.at c).v ≠ 0) && !(l.at d).w && decide ((l.at d).v = 0) && sureB l t c d
def Log.unw (l : Log) : List Nat := (l.zipIdx.filter fun p => !p.1.w && decide (p.1.v ≠ 0) && !decide (p.1.v ∈ l.wr)).map (·.2)
def Log.early (l : Log) (t : Int) : List Nat := (l.zipIdx.filter fun p => !p.1.w && decide (p.1.v ≠ 0) && decide (p.1.v ∈ l.wr) && decide (p.1.e + t < (l.at (l.wix p.1.v)).b)).map (·.2)
def Log.singles (l : Log) (t : Int) : List Flt := l.unw.map .unw ++ (l.early t).map fun i => .early i (l.wix (l.at i).v)
theorem mem_zipx {α : Type} {l : List α} {p : α × Nat} (h : p ∈ l.zipIdx) : l[p.2]? = some p.1 := List.mem_zipIdx_iff_getElem?.mp h
theorem mem_unw {l : Log} {i : Nat} : i ∈ l.unw ↔ i < l.length ∧ Flt.is l 0 (.unw i) = true := by
  unfold Log.unw Flt.is
  constructor
  · intro h
    obtain ⟨p, hp, rfl⟩ := List.mem_map.mp h
    obtain ⟨h1, h2⟩ := List.mem_filter.mp hp
    have e := mem_zipx h1
    exact ⟨(List.getElem?_eq_some_iff.mp e).1, by dsimp only; rw [at_of e]; exact h2⟩
  · rintro ⟨h1, h2⟩
    exact List.mem_map.mpr ⟨(l.at i, i), List.mem_filter.mpr ⟨List.mem_zipIdx_iff_getElem?.mpr (at_get h1), h2⟩, rfl⟩
theorem mem_early {l : Log} {t : Int} {i : Nat} : i ∈ l.early t ↔ i < l.length ∧ (l.at i).w = false ∧ (l.at i).v ≠ 0 ∧ (l.at i).v ∈ l.wr ∧ (l.at i).e + t < (l.at (l.wix (l.at i).v)).b := by
  unfold Log.early
  constructor
  · intro h
    obtain ⟨p, hp, rfl⟩ := List.mem_map.mp h
    obtain ⟨h1, h2⟩ := List.mem_filter.mp hp
    have e := mem_zipx h1
    rw [at_of e]
    simp only [Bool.and_eq_true, Bool.not_eq_true', decide_eq_true_eq] at h2
    exact ⟨(List.getElem?_eq_some_iff.mp e).1, h2.1.1.1, h2.1.1.2, h2.1.2, h2.2⟩
  · rintro ⟨h1, h2, h3, h4, h5⟩
    exact List.mem_map.mpr ⟨(l.at i, i), List.mem_filter.mpr ⟨List.mem_zipIdx_iff_getElem?.mpr (at_get h1), by simp only [Bool.and_eq_true, Bool.not_eq_true', decide_eq_true_eq]; exact ⟨⟨⟨h2, h3⟩, h4⟩, h5⟩⟩, rfl⟩
/-! marks -/
def mkStep (l : Log) (m : Int → Option (Nat × Nat)) (o : Op) (i : Nat) : Int → Option (Nat × Nat) := fun v => if v = o.v then
    (let p := (m v).getD (i, i); some (if o.e < (l.at p.1).e then i else p.1, if (l.at p.2).b < o.b then i else p.2)) else m v
def mkAt (l : Log) : Nat → Int → Option (Nat × Nat)
  | 0 => fun _ => none
  | k + 1 => mkStep l (mkAt l k) (l.at k) k
def Log.fi (l : Log) (v : Int) : Nat := ((mkAt l l.length v).getD (0, 0)).1
def Log.la (l : Log) (v : Int) : Nat := ((mkAt l l.length v).getD (0, 0)).2
/-- what stands for a value behind k operations -/
structure MkOk (l : Log) (k : Nat) (v : Int) (f a : Nat) : Prop where
  fk : f < k
  ak : a < k
  fv : (l.at f).v = v
  av : (l.at a).v = v
  fm : ∀ i, i < k → (l.at i).v = v → (l.at f).e ≤ (l.at i).e
  am : ∀ i, i < k → (l.at i).v = v → (l.at i).b ≤ (l.at a).b
theorem mkAt_ok {l : Log} {v : Int} : ∀ {k : Nat}, match mkAt l k v with | some (f, a) => MkOk l k v f a | none => ∀ i, i < k → (l.at i).v ≠ v
  | 0 => by
    show ∀ i, i < 0 → _
    intro i hi; omega
  | k + 1 => by
    have ih := mkAt_ok (l := l) (v := v) (k := k)
    show match mkStep l (mkAt l k) (l.at k) k v with | some (f, a) => MkOk l (k + 1) v f a | none => ∀ i, i < k + 1 → (l.at i).v ≠ v
    unfold mkStep
    by_cases hv : v = (l.at k).v
    · rw [if_pos hv]
      cases hm : mkAt l k v with
      | none =>
        rw [hm] at ih
        have ih : ∀ i, i < k → (l.at i).v ≠ v := ih
        show MkOk l (k + 1) v (if (l.at k).e < (l.at k).e then k else k) (if (l.at k).b < (l.at k).b then k else k)
        rw [if_neg (by omega), if_neg (by omega)]
        refine ⟨by omega, by omega, hv.symm, hv.symm, fun i hi e => ?_, fun i hi e => ?_⟩
        · by_cases z : i = k
          · subst z; omega
          · exact absurd e (ih i (by omega))
        · by_cases z : i = k
          · subst z; omega
          · exact absurd e (ih i (by omega))
      | some p =>
        obtain ⟨f, a⟩ := p
        rw [hm] at ih
        have ih : MkOk l k v f a := ih
        show MkOk l (k + 1) v (if (l.at k).e < (l.at f).e then k else f) (if (l.at a).b < (l.at k).b then k else a)
        obtain ⟨h1, h2, h3, h4, h5, h6⟩ := ih
        refine ⟨by split <;> omega, by split <;> omega, by split <;> simp_all, by split <;> simp_all, fun i hi e => ?_, fun i hi e => ?_⟩
        · by_cases z : i = k
          · subst z; split <;> omega
          · have := h5 i (by omega) e
            split <;> omega
        · by_cases z : i = k
          · subst z; split <;> omega
          · have := h6 i (by omega) e
            split <;> omega
    · rw [if_neg hv]
      cases hm : mkAt l k v with
      | none =>
        rw [hm] at ih
        have ih : ∀ i, i < k → (l.at i).v ≠ v := ih
        intro i hi e
        by_cases z : i = k
        · subst z; exact hv e.symm
        · exact ih i (by omega) e
      | some p =>
        obtain ⟨f, a⟩ := p
        rw [hm] at ih
        obtain ⟨h1, h2, h3, h4, h5, h6⟩ := (ih : MkOk l k v f a)
        have nk : ∀ i, i < k + 1 → (l.at i).v = v → i < k := fun i hi e => by
          by_cases z : i = k
          · subst z; exact absurd e.symm hv
          · omega
        exact ⟨by omega, by omega, h3, h4, fun i hi e => h5 i (nk i hi e) e, fun i hi e => h6 i (nk i hi e) e⟩
theorem at_v {l : Log} {v : Int} : v ∈ l.vals ↔ ∃ i, i < l.length ∧ (l.at i).v = v := by
  rw [mem_vals]
  constructor
  · rintro ⟨o, ho, e⟩
    obtain ⟨i, hi⟩ := List.getElem?_of_mem ho
    exact ⟨i, (List.getElem?_eq_some_iff.mp hi).1, by rw [at_of hi]; exact e⟩
  · rintro ⟨i, hi, e⟩
    exact ⟨l.at i, List.mem_of_getElem? (at_get hi), e⟩
theorem mk_some {l : Log} {v : Int} (h : v ∈ l.vals) : mkAt l l.length v = some (l.fi v, l.la v) := by
  have ok := mkAt_ok (l := l) (v := v) (k := l.length)
  unfold Log.fi Log.la
  cases hm : mkAt l l.length v with
  | none =>
    rw [hm] at ok
    obtain ⟨i, hi, e⟩ := at_v.mp h
    exact absurd e ((ok : ∀ i, i < l.length → (l.at i).v ≠ v) i hi)
  | some p => rfl
theorem fi_ok {l : Log} {v : Int} (h : v ∈ l.vals) : MkOk l l.length v (l.fi v) (l.la v) := by
  have ok := mkAt_ok (l := l) (v := v) (k := l.length)
  rw [mk_some h] at ok
  exact ok
theorem minL_iff {xs : List Int} {m : Int} (h : m ∈ xs) (hm : ∀ x ∈ xs, m ≤ x) : minL xs = m := by
  have h1 : minL xs ∈ xs := minL_mem fun z => by rw [z] at h; simp at h
  have h2 := minL_le h
  have := hm _ h1
  omega
theorem maxL_iff {xs : List Int} {m : Int} (h : m ∈ xs) (hm : ∀ x ∈ xs, x ≤ m) : maxL xs = m := by
  have h1 : maxL xs ∈ xs := maxL_mem fun z => by rw [z] at h; simp at h
  have h2 := maxL_le h
  have := hm _ h1
  omega
theorem fe_fi {l : Log} {v : Int} (h : v ∈ l.vals) (h0 : v ≠ 0) : l.fe v = (l.at (l.fi v)).e := by
  obtain ⟨h1, h2, h3, h4, h5, h6⟩ := fi_ok h
  unfold Log.fe
  rw [if_neg h0]
  refine minL_iff (List.mem_map.mpr ⟨l.at (l.fi v), List.mem_filter.mpr ⟨List.mem_of_getElem? (at_get h1), by simpa using h3⟩, rfl⟩) fun x hx => ?_
  obtain ⟨o, ho, rfl⟩ := List.mem_map.mp hx
  obtain ⟨hm, e⟩ := List.mem_filter.mp ho
  obtain ⟨i, hi⟩ := List.getElem?_of_mem hm
  have := h5 i (List.getElem?_eq_some_iff.mp hi).1 (by rw [at_of hi]; simpa using e)
  rw [at_of hi] at this
  exact this
theorem lb_la {l : Log} {v : Int} (h : v ∈ l.vals) : l.lb v = (l.at (l.la v)).b := by
  obtain ⟨h1, h2, h3, h4, h5, h6⟩ := fi_ok h
  unfold Log.lb
  refine maxL_iff (List.mem_map.mpr ⟨l.at (l.la v), List.mem_filter.mpr ⟨List.mem_of_getElem? (at_get h2), by simpa using h4⟩, rfl⟩) fun x hx => ?_
  obtain ⟨o, ho, rfl⟩ := List.mem_map.mp hx
  obtain ⟨hm, e⟩ := List.mem_filter.mp ho
  obtain ⟨i, hi⟩ := List.getElem?_of_mem hm
  have := h6 i (List.getElem?_eq_some_iff.mp hi).1 (by rw [at_of hi]; simpa using e)
  rw [at_of hi] at this
  exact this
/-! pairs -/
def Log.somes (l : Log) : List Int := l.vals.filter fun v => decide (v = 0) || decide (v ∈ l.wr)
def pairF (l : Log) (a b : Int) : Flt := if a = 0 then .late (l.fi b) (l.la a) else .crossed (l.fi a) (l.la b) (l.fi b) (l.la a)
def pairsOf (l : Log) (t : Int) : List Int → List Flt
  | [] => []
  | a :: as => (as.filter fun b => l.bef t a b && l.bef t b a).map (pairF l a) ++ pairsOf l t as
def Log.pairs (l : Log) (t : Int) : List Flt := pairsOf l t l.somes
def Log.flts (l : Log) (t : Int) : List Flt := l.singles t ++ l.pairs t
end CM
set_option maxHeartbeats 1000000
namespace CM
open PySem PySem.Spec PyProof.Rows L2 DL
end CM
set_option maxHeartbeats 1000000
namespace CM
open PySem PySem.Spec PyProof.Rows L2 DL
end CM
set_option maxHeartbeats 1000000
namespace CM
open PySem PySem.Spec PyProof.Rows L2 DL
theorem somes_mem {l : Log} {v : Int} (h : v ∈ l.somes) : v ∈ l.vals := (List.mem_filter.mp h).1
end CM
set_option maxHeartbeats 1000000
namespace CM
open PySem PySem.Spec PyProof.Rows L2 DL
/-- all that is given is a fault -/
theorem bef_iff {l : Log} {t a b : Int} : l.bef t a b = true ↔ a ≠ b ∧ l.fe a + t < l.lb b := by
  unfold Log.bef
  simp
theorem pairs_mem {l : Log} {t : Int} {f : Flt} : ∀ {vs : List Int}, vs.Pairwise (· < ·) → f ∈ pairsOf l t vs → ∃ a b, a ∈ vs ∧ b ∈ vs ∧ a < b ∧ l.bef t a b = true ∧ l.bef t b a = true ∧ f = pairF l a b
  | [], _, h => by simp [pairsOf] at h
  | v :: vs, hp, h => by
    obtain ⟨h1, h2⟩ := List.pairwise_cons.mp hp
    have h : f ∈ (vs.filter fun b => l.bef t v b && l.bef t b v).map (pairF l v) ++ pairsOf l t vs := h
    rcases List.mem_append.mp h with h | h
    · obtain ⟨b, hb, rfl⟩ := List.mem_map.mp h
      obtain ⟨h3, h4⟩ := List.mem_filter.mp hb
      rw [Bool.and_eq_true] at h4
      exact ⟨v, b, List.mem_cons_self, List.mem_cons_of_mem _ h3, h1 b h3, h4.1, h4.2, rfl⟩
    · obtain ⟨a, b, ha, hb, r⟩ := pairs_mem h2 h
      exact ⟨a, b, List.mem_cons_of_mem _ ha, List.mem_cons_of_mem _ hb, r⟩
theorem flts_is {l : Log} {t : Int} {f : Flt} (ok : l.Ok) (h : f ∈ l.flts t) : f.In l.length ∧ f.is l t = true := by
  unfold Log.flts at h
  rcases List.mem_append.mp h with h | h
  · unfold Log.singles at h
    rcases List.mem_append.mp h with h | h
    · obtain ⟨i, hi, rfl⟩ := List.mem_map.mp h
      obtain ⟨h1, h2⟩ := mem_unw.mp hi
      exact ⟨fun j hj => by have := List.mem_singleton.mp hj; omega, h2⟩
    · obtain ⟨i, hi, rfl⟩ := List.mem_map.mp h
      obtain ⟨h1, h2, h3, h4, h5⟩ := mem_early.mp hi
      obtain ⟨w1, w2, w3⟩ := wix_at h4
      refine ⟨fun j hj => ?_, ?_⟩
      · simp only [Flt.ixs, List.mem_cons, List.not_mem_nil, or_false] at hj
        rcases hj with rfl | rfl <;> assumption
      · simp only [Flt.is, sureB, h2, w2, w3, h5, decide_true, Bool.not_false, Bool.and_self]
  · obtain ⟨a, b, ha, hb, hab, h1, h2, rfl⟩ := pairs_mem ((vals_pw l).filter _) h
    have va := somes_mem ha
    have vb := somes_mem hb
    obtain ⟨_, b1⟩ := bef_iff.mp h1
    obtain ⟨_, b2⟩ := bef_iff.mp h2
    obtain ⟨A1, A2, A3, A4, A5, A6⟩ := fi_ok va
    obtain ⟨B1, B2, B3, B4, B5, B6⟩ := fi_ok vb
    have a0 := (vals_bd ok va).1
    have hb0 : b ≠ 0 := by omega
    rw [fe_fi vb hb0, lb_la va] at b2
    unfold pairF
    by_cases z : a = 0
    · rw [if_pos z]
      refine ⟨fun j hj => ?_, ?_⟩
      · simp only [Flt.ixs, List.mem_cons, List.not_mem_nil, or_false] at hj
        rcases hj with rfl | rfl <;> assumption
      · have hw : (l.at (l.la a)).w = false := by
          rw [Bool.eq_false_iff]
          intro hw
          have := (ok.ops _ (List.mem_of_getElem? (at_get A2))).wr hw
          omega
        subst z
        simp only [Flt.is, sureB, hw, A4, B3, hb0, b2, decide_true, Bool.not_false, Bool.and_self, ne_eq, not_false_eq_true]
    · rw [if_neg z]
      rw [fe_fi va z, lb_la vb] at b1
      refine ⟨fun j hj => ?_, ?_⟩
      · simp only [Flt.ixs, List.mem_cons, List.not_mem_nil, or_false] at hj
        rcases hj with rfl | rfl | rfl | rfl <;> assumption
      · have hne : ¬ a = b := by omega
        simp only [Flt.is, sureB, A3, A4, B3, B4, z, hb0, hne, b1, b2, decide_true, Bool.and_self, ne_eq, not_false_eq_true]
end CM
set_option maxHeartbeats 1000000
namespace CM
open PySem PySem.Spec PyProof.Rows L2 DL
end CM
set_option maxHeartbeats 1000000
namespace CM
open PySem PySem.Spec PyProof.Rows L2 DL
/-- the bound of a fault -/
def Flt.bd (l : Log) : Flt → D
  | .unw _ => .non
  | .early r w => .int ((l.at w).b - (l.at r).e)
  | .crossed a b c d => .int (min ((l.at b).b - (l.at a).e) ((l.at d).b - (l.at c).e))
  | .late c d => .int ((l.at d).b - (l.at c).e)
end CM
set_option maxHeartbeats 400000
namespace CM
open PySem PySem.Spec PyProof.Rows L2 DL
/-! other logs -/
theorem checked_wp {l : Log} {ds : List D} {Q : Val → DEnv → Prop} {X : Ex → DEnv → Prop} (e : ds = l.map Op.d) (hl : l.length < 4000) (h : l.okB = true) (q : Q (.d l.d) [.d l.d]) : (s_checked [.d (.tup ds)]).wp Q X := by
  subst e
  show (s_checked [.d l.d]).wp Q X
  unfold s_checked e_checked; with_reducible refine f_fnW (by with_unfolding_all exact rfl) ?_
  (repeat (case orE => (fail "WU1"); (with_reducible refine islog_wp hl ?_); ((rw [h]))))
  exact q
end CM
set_option maxHeartbeats 2000000
namespace CM
open PySem PySem.Spec PyProof.Rows L2 DL
/-! a drawn log, its stamps within the room -/
def SmOk (room : Int) (d : D) : Prop := ∃ k v b e, OpIs d k v b e ∧ 0 ≤ v ∧ v ≤ 4 ∧ 0 ≤ b ∧ b < room ∧ e ≤ b + room / 2
theorem sm_app {room : Int} {ds : List D} {d : D} (h : ∀ x ∈ ds, SmOk room x) (hd : SmOk room d) : ∀ x ∈ ds ++ [d], SmOk room x := fun x hx => by
  rcases List.mem_append.mp hx with z | z
  · exact h x z
  · rw [List.mem_singleton] at z; subst z; exact hd
theorem wrote_sm {room : Int} {ds : List D} (h : ∀ x ∈ ds, SmOk room x) {w : Int} (hw : w ∈ wrote ds) : w ≤ 4 := by
  obtain ⟨b, e, hm⟩ := wrote_mem hw
  obtain ⟨k, v, b', e', hd, h1, h2, _⟩ := h _ hm
  cases hd
  exact h2
section
local macro_rules
  | `(tactic| infer_instance) => `(tactic| (first | with_reducible refine b_op ?_ | with_reducible refine b_cb ?_ | with_reducible refine b_un ?_ | with_reducible refine b_call ?_ | with_reducible refine b_cons ?_ | with_reducible refine b_nil ?_ | with_reducible refine b_C ?_ | with_reducible refine b_tup ?_ | with_reducible refine b_lst ?_ | with_reducible refine b_fz ?_ | with_reducible refine b_nsl ?_ | with_reducible refine b_nslD ?_ | with_reducible refine b_nslF ?_ | with_reducible refine b_nslS ?_ | with_reducible refine b_tst ?_ | with_reducible refine b_bT ?_ | with_reducible refine b_andK ?_ | with_reducible refine b_orK ?_ | with_reducible refine b_not ?_ | with_reducible refine b_eIf ?_ | with_reducible refine b_ok ?_ | with_reducible refine b_rng ?_ | with_reducible refine b_iseq ?_ | with_reducible refine b_yes ?_ | with_reducible refine s_skip ?_ | with_reducible refine s_drop ?_ | with_reducible refine s_ret ?_ | with_reducible refine s_retN ?_ | with_reducible refine s_break ?_ | with_reducible refine s_cont ?_ | with_reducible refine s_if ?_ | with_reducible refine s_asg ?_ | with_reducible refine s_par ?_ | with_reducible refine s_tgt ?_ | with_reducible refine s_for ?_ | with_reducible refine s_loop ?_ | with_reducible refine s_store ?_ | with_reducible refine s_asgsN ?_ | with_reducible refine f_d ?_ | with_reducible refine f_fr ?_ | ((with_reducible apply s_seqN); exact (rfl : _ = [_, _, _, _, _, _, _, _, _, _])) | ((with_reducible apply b_var_d); rfl) | ((with_reducible apply b_var_o); rfl) | ((with_reducible apply b_fzv); rfl) | ((with_reducible apply b_fzvA); rfl) | ((with_reducible apply s_asgV); rfl) | ((with_reducible apply s_asgs); rfl) | ((with_reducible apply s_asgsD); rfl; first | assumption | exact Fr.un | exact Fr.dat | exact Fr.own) | ((with_reducible apply s_asgsO); rfl; first | assumption | exact Fr.un | exact Fr.dat | exact Fr.own) | ((with_reducible apply s_asgF); rfl; first | assumption | exact Fr.un | exact Fr.dat | exact Fr.own) | ((with_reducible apply s_asgFO); rfl; first | assumption | exact Fr.un | exact Fr.dat | exact Fr.own) | ((with_reducible apply s_storeV); rfl) | ((with_reducible apply s_storeK); rfl) | ((with_reducible apply b_methL); rfl) | ((with_reducible apply b_methV); rfl) | ((with_reducible apply b_mkTup); rfl; exact Nat.le_of_ble_eq_true rfl) | ((with_reducible apply b_mkLst); rfl; exact Nat.le_of_ble_eq_true rfl) | ((with_reducible apply f_sl); rfl) | ((with_reducible apply f_sld); rfl) | ((with_reducible apply x_mul); rfl; rfl; (first | omega | decide)) | ((with_reducible apply x_mod); rfl; rfl; decide) | ((with_reducible apply x_div); rfl; rfl; (first | omega | decide)) | ((with_reducible apply b_opV); rfl; rfl; rfl) | ((with_reducible apply b_unV); rfl; rfl) | ((with_reducible apply b_callV); rfl; rfl) | ((with_reducible apply b_callF); rfl; rfl) | ((with_reducible apply b_rng1); (first | omega | decide)) | ((with_reducible apply b_rng2); (first | omega | decide))))
theorem wildS_loop {p : List D} {c : Nat} {most room : Int} {P : Po} (hp : Pot c p) (h0 : 0 ≤ most) (hm : most ≤ 1000) (hr : 1 ≤ room) (hr2 : room ≤ 100000000000000) (hc : c < 900000000)
    (q : ∀ p' found s3 wr s6 s7 s8 s9, LogOk found → (∀ d ∈ found, SmOk room d) → (found.length : Int) ≤ most → Pot (c + 5001) p' → P.nx [.ow (.lst p') .bor, .d (.int most), .d (.int room), s3, .ow (.lst found) .own, .ow (.lst wr) .own, s6, s7, s8, s9]) :
    (l1_l_wild [.ow (.lst p) .bor, .d (.int most), .d (.int room), .un, .ow (.lst []) .own, .ow (.lst []) .own, .un, .un, .un, .un]).wp P := by
  unfold l1_l_wild
  repeat infer_instance
  refine draw_wp hp (by omega) (by omega) (by omega) fun r p1 h1 h2 hp1 => ?_
  repeat infer_instance
  refine loop_inv (fun k ρ => ∃ p' found s3 s6 s7 s8 s9, ρ = [.ow (.lst p') .bor, .d (.int most), .d (.int room), s3, .ow (.lst found) .own, .ow (.lst ((wrote found).map D.int)) .own, s6, s7, s8, s9] ∧ Fr s3 ∧ Fr s6 ∧ Fr s7 ∧ Fr s8 ∧ Fr s9 ∧ LogOk found ∧ (∀ d ∈ found, SmOk room d) ∧ found.length = k ∧ Pot (c + 1 + 5 * k) p') _ 0 _ ⟨p1, [], .un, .un, .un, .un, .un, rfl, Fr.un, Fr.un, Fr.un, Fr.un, Fr.un, ⟨by simp, by simp [wrote]⟩, by simp, rfl, hp1⟩ (fun j dd ρ hj hI => ?_) fun ρ hI => ?_
  · obtain ⟨p2, found, s3, s6, s7, s8, s9, rfl, f3, f6, f7, f8, f9, lo, sm, hlen, hp2⟩ := hI
    obtain ⟨hjl, rfl⟩ := rng_at hj
    have wl := wrote_len (ds := found)
    repeat infer_instance
    refine any_wp hp2 (by omega) (.inl rfl) (by decide) (by decide) fun kd p3 hkd hp3 => ?_
    have hkd : kd ∈ [D.str "write", D.str "read", D.str "read"] := hkd
    repeat infer_instance
    refine draw_wp hp3 (by omega) (by omega) (by omega) fun v p4 hv1 hv2 hp4 => ?_
    repeat infer_instance
    refine draw_wp hp4 (by omega) (by omega) (by omega) fun b p5 hb1 hb2 hp5 => ?_
    have hkd2 : ∃ ks : Str, kd = .str ks := by
      simp only [List.mem_cons, List.not_mem_nil, or_false] at hkd
      rcases hkd with rfl | rfl | rfl <;> exact ⟨_, rfl⟩
    obtain ⟨ks, rfl⟩ := hkd2
    repeat infer_instance
    refine b_and2 ?_
    repeat infer_instance
    refine b_and2 ?_
    repeat infer_instance
    refine x_ninI rfl rfl ?_
    repeat infer_instance
    refine ⟨fun h => ?_, fun h => ?_⟩
    · have hk : ks = "write" ∧ 0 < v ∧ v ∉ wrote found := by simpa using h
      repeat infer_instance
      refine x_append rfl (.inl rfl) (by rw [List.length_map]; omega) ?_
      repeat infer_instance
      refine draw_wp hp5 (by omega) (by omega) (by omega) fun e p6 he1 he2 hp6 => ?_
      repeat infer_instance
      refine x_append rfl (.inl rfl) (by omega) ?_
      repeat infer_instance
      have e1 : (wrote (found ++ [.tup [.str "write", .int v, .int b, .int (b + e)]])).map D.int = (wrote found).map D.int ++ [.int v] := by
        rw [wrote_app, List.map_append]; rfl
      have hk1 := hk.1
      subst hk1
      refine ⟨p6, found ++ [.tup [.str "write", .int v, .int b, .int (b + e)]], .d (.int (0 + (j : Int))), .d (.int b), .d (.str "write"), .d (.int v), s9, by rw [e1]; rfl, Fr.dat, Fr.dat, Fr.dat, Fr.dat, f9, lo.write (by omega) (by omega) (by omega) (by omega) (by omega) hk.2.2, sm_app sm ⟨_, v, b, b + e, rfl, by omega, by omega, by omega, by omega, by omega⟩, by simp; omega, hp6.mono (by omega)⟩
    · repeat infer_instance
      refine x_addL rfl rfl (by simp; omega) ?_
      repeat infer_instance
      refine x_addL rfl rfl (by simp; omega) ?_
      repeat infer_instance
      refine x_addL rfl rfl (by simp; omega) ?_
      repeat infer_instance
      refine any_wp hp5 (by omega) (.inl rfl) (by simp; omega) (by simp; omega) fun wd p6 hwd hp6 => ?_
      have hw : ∃ w : Int, wd = .int w ∧ 0 ≤ w ∧ w ≤ 4 := by
        simp only [List.mem_append, List.mem_map, List.mem_singleton, List.mem_cons, List.not_mem_nil, or_false] at hwd
        rcases hwd with ((⟨w, hw, rfl⟩ | rfl) | (⟨w, hw, rfl⟩ | rfl)) | rfl
        · have := wrote_sm sm hw; have := wrote_bd lo hw; exact ⟨w, rfl, by omega, by omega⟩
        · exact ⟨0, rfl, by omega, by omega⟩
        · have := wrote_sm sm hw; have := wrote_bd lo hw; exact ⟨w, rfl, by omega, by omega⟩
        · exact ⟨0, rfl, by omega, by omega⟩
        · exact ⟨v, rfl, by omega, by omega⟩
      obtain ⟨w, rfl, hw1, hw2⟩ := hw
      repeat infer_instance
      refine draw_wp hp6 (by omega) (by omega) (by omega) fun e p7 he1 he2 hp7 => ?_
      repeat infer_instance
      refine x_append rfl (.inl rfl) (by omega) ?_
      repeat infer_instance
      have e1 : (wrote (found ++ [.tup [.str "read", .int w, .int b, .int (b + e)]])).map D.int = (wrote found).map D.int := by
        rw [wrote_app, List.map_append]; exact List.append_nil _
      refine ⟨p7, found ++ [.tup [.str "read", .int w, .int b, .int (b + e)]], .d (.int (0 + (j : Int))), .d (.int b), .d (.str ks), .d (.int w), .ow (.lst ((wrote found).map D.int ++ [.int 0])) .own, by rw [e1]; rfl, Fr.dat, Fr.dat, Fr.dat, Fr.dat, Fr.own, lo.read (by omega) (by omega) (by omega) (by omega) (by omega), sm_app sm ⟨_, w, b, b + e, rfl, by omega, by omega, by omega, by omega, by omega⟩, by simp; omega, hp7.mono (by omega)⟩
  · obtain ⟨p2, found, s3, s6, s7, s8, s9, rfl, f3, f6, f7, f8, f9, lo, sm, hlen, hp2⟩ := hI
    have hl : found.length = r.toNat := by simpa using hlen
    exact q p2 found s3 _ s6 s7 s8 s9 lo sm (by omega) (hp2.mono (by simp; omega))
theorem wildS_wp {p : List D} {c : Nat} {most room : Int} {Q : Val → DEnv → Prop} {X : Ex → DEnv → Prop} (hp : Pot c p) (h0 : 0 ≤ most) (hm : most ≤ 200) (hr : 1 ≤ room) (hr2 : room ≤ 100000000000000) (hc : c < 900000000)
    (q : ∀ (l : Log) p', l.Ok → (l.length : Int) ≤ most → (∀ o ∈ l, o.v ≤ 4 ∧ 0 ≤ o.b ∧ o.b < room ∧ o.e ≤ o.b + room / 2) → Pot (c + 6001) p' → Q (.d l.d) [.ow (.lst p') .bor, .d (.int most), .d (.int room)]) : (s_l_wild [.ow (.lst p) .bor, .d (.int most), .d (.int room)]).wp Q X := by
  unfold s_l_wild e_l_wild
  refine f_fn rfl ?_
  repeat infer_instance
  refine wildS_loop hp h0 (by omega) hr hr2 hc fun p' found s3 wr s6 s7 s8 s9 lo sm hl hp' => ?_
  repeat infer_instance
  refine mixed_wp hp' (.inr (.inl rfl)) lo.len4.1 lo.len4.2 (by omega) (by omega) fun es p2 pm hp2 => ?_
  repeat infer_instance
  have := pm.length_eq
  obtain ⟨l, rfl, ho⟩ := (lo.perm pm).typ (by omega)
  refine q l p2 ho (by rw [List.length_map] at this; omega) (fun o hm => ?_) (hp2.mono (by omega))
  obtain ⟨k, v, b, e, hd, h1, h2, h3, h4, h5⟩ := sm o.d (pm.mem_iff.mp (List.mem_map.mpr ⟨o, hm, rfl⟩))
  cases hd
  exact ⟨h2, h3, h4, h5⟩
end
end CM
set_option maxHeartbeats 1000000
namespace CM
open PySem PySem.Spec PyProof.Rows L2 DL
/-! lists that can be shown, counted part by part -/
structure GL (k n : Nat) (ds : List D) : Prop where
  good : goodL ds = true
  short : shortL ds = true
  dep : depL ds ≤ k
  cnt : cntL ds ≤ n
theorem GL.mono {k n k' n' : Nat} {ds : List D} (h : GL k n ds) (hk : k ≤ k') (hn : n ≤ n') : GL k' n' ds := ⟨h.good, h.short, Nat.le_trans h.dep hk, Nat.le_trans h.cnt hn⟩
theorem GL.nil {k n : Nat} : GL k n [] := ⟨rfl, rfl, Nat.zero_le _, Nat.zero_le _⟩
theorem GL.cons {k n m : Nat} {d : D} {ds : List D} (h : Gd k n d) (h2 : GL k m ds) : GL k (n + m) (d :: ds) := by
  refine ⟨by simp [goodL, h.good, h2.good], by simp [shortL, h.short, h2.short], ?_, ?_⟩
  · simp only [depL]; exact Nat.max_le.mpr ⟨h.dep, h2.dep⟩
  · simp only [cntL]; exact Nat.add_le_add h.cnt h2.cnt
theorem GL.app {k n m : Nat} : ∀ {ds es : List D}, GL k n ds → GL k m es → GL k (n + m) (ds ++ es)
  | [], es, h, h2 => h2.mono (Nat.le_refl _) (by omega)
  | d :: ds, es, h, h2 => by
    obtain ⟨h1, h3, h4, h5⟩ := h
    simp only [goodL, Bool.and_eq_true] at h1
    simp only [shortL, Bool.and_eq_true] at h3
    simp only [depL] at h4
    simp only [cntL] at h5
    have hd : Gd k d.cnt d := ⟨h1.1, h3.1, Nat.le_trans (Nat.le_max_left _ _) h4, Nat.le_refl _⟩
    have hr : GL k (cntL ds) ds := ⟨h1.2, h3.2, Nat.le_trans (Nat.le_max_right _ _) h4, Nat.le_refl _⟩
    exact (GL.cons hd (hr.app h2)).mono (Nat.le_refl _) (by omega)
theorem GL.lst {k n : Nat} {ds : List D} (h : GL k n ds) : Gd (k + 1) (n + 1) (.lst ds) := ⟨by simpa [D.good] using h.good, by simpa [D.short] using h.short, by simpa [D.dep] using h.dep, by simp only [D.cnt]; have := h.cnt; omega⟩
theorem GL.tup {k n : Nat} {ds : List D} (h : GL k n ds) : Gd (k + 1) (n + 1) (.tup ds) := ⟨by simpa [D.good] using h.good, by simpa [D.short] using h.short, by simpa [D.dep] using h.dep, by simp only [D.cnt]; have := h.cnt; omega⟩
theorem GL.of {k n : Nat} {ds : List D} (h : ∀ x ∈ ds, Gd k n x) : GL k (n * ds.length) ds := by
  induction ds with
  | nil => exact GL.nil
  | cons d ds ih => exact (GL.cons (h d List.mem_cons_self) (ih fun x hx => h x (List.mem_cons_of_mem _ hx))).mono (Nat.le_refl _) (by rw [List.length_cons, Nat.mul_succ]; omega)
theorem GL.flat {α : Type} {k n : Nat} {as : List α} {f : α → List D} (h : ∀ a ∈ as, GL k n (f a)) : GL k (n * as.length) (as.flatMap f) := by
  induction as with
  | nil => exact GL.nil
  | cons a as ih =>
    rw [List.flatMap_cons]
    exact ((h a List.mem_cons_self).app (ih fun x hx => h x (List.mem_cons_of_mem _ hx))).mono (Nat.le_refl _) (by rw [List.length_cons, Nat.mul_succ]; omega)
theorem nat_gd {i : Nat} (h : i ≤ 100000) : Gd 0 1 (.int (i : Nat)) := Gd.nat (by omega) (by omega)
theorem word_gd (x : Str) (h : (D.str x).good = true ∧ (D.str x).short = true) : Gd 0 1 (.str x) := ⟨h.1, h.2, Nat.le_refl _, Nat.le_refl _⟩
theorem Flt.gd {f : Flt} {n : Nat} (h : f.In n) (hn : n ≤ 100000) : Gd 1 6 f.d := by
  have b : ∀ i ∈ f.ixs, Gd 0 1 (.int (i : Nat)) := fun i hi => nat_gd (by have := h i hi; omega)
  cases f with
  | unw r => exact (GL.tup (GL.cons (word_gd "unwritten" ⟨by decide +kernel, by decide +kernel⟩) (GL.cons (b r (by simp [Flt.ixs])) (GL.nil (n := 0))))).mono (by decide) (by decide)
  | early r w => exact (GL.tup (GL.cons (word_gd "early" ⟨by decide +kernel, by decide +kernel⟩) (GL.cons (b r (by simp [Flt.ixs])) (GL.cons (b w (by simp [Flt.ixs])) (GL.nil (n := 0)))))).mono (by decide) (by decide)
  | crossed a c d e => exact (GL.tup (GL.cons (word_gd "crossed" ⟨by decide +kernel, by decide +kernel⟩) (GL.cons (b a (by simp [Flt.ixs])) (GL.cons (b c (by simp [Flt.ixs])) (GL.cons (b d (by simp [Flt.ixs])) (GL.cons (b e (by simp [Flt.ixs])) (GL.nil (n := 0)))))))).mono (by decide) (by decide)
  | late c d => exact (GL.tup (GL.cons (word_gd "late" ⟨by decide +kernel, by decide +kernel⟩) (GL.cons (b c (by simp [Flt.ixs])) (GL.cons (b d (by simp [Flt.ixs])) (GL.nil (n := 0)))))).mono (by decide) (by decide)
end CM
set_option maxHeartbeats 2000000
namespace CM
open PySem PySem.Spec PyProof.Rows L2 DL
end CM
set_option maxHeartbeats 1000000
namespace CM
open PySem PySem.Spec PyProof.Rows L2 DL
/-! a fault that is one at all is so by one that is given, whose bound is not less -/
def Flt.bi (l : Log) : Flt → Int
  | .unw _ => 0
  | .early r w => (l.at w).b - (l.at r).e
  | .crossed a b c d => min ((l.at b).b - (l.at a).e) ((l.at d).b - (l.at c).e)
  | .late c d => (l.at d).b - (l.at c).e
def Flt.isU : Flt → Bool
  | .unw _ => true
  | _ => false
theorem pairs_in {l : Log} {t a b : Int} : ∀ {vs : List Int}, vs.Pairwise (· < ·) → a ∈ vs → b ∈ vs → a < b → l.bef t a b = true → l.bef t b a = true → pairF l a b ∈ pairsOf l t vs
  | [], _, h, _, _, _, _ => by simp at h
  | v :: vs, hp, ha, hb, hab, h1, h2 => by
    obtain ⟨p1, p2⟩ := List.pairwise_cons.mp hp
    show pairF l a b ∈ (vs.filter fun b => l.bef t v b && l.bef t b v).map (pairF l v) ++ pairsOf l t vs
    rw [List.mem_append]
    rcases List.mem_cons.mp ha with ea | ma
    · subst ea
      rcases List.mem_cons.mp hb with eb | mb
      · omega
      · exact .inl (List.mem_map.mpr ⟨b, List.mem_filter.mpr ⟨mb, by rw [h1, h2]; rfl⟩, rfl⟩)
    · rcases List.mem_cons.mp hb with eb | mb
      · have := p1 a ma; omega
      · exact .inr (pairs_in p2 ma mb hab h1 h2)
theorem fe_le {l : Log} {i : Nat} {v : Int} (ok : l.Ok) (hi : i < l.length) (e : (l.at i).v = v) : l.fe v ≤ (l.at i).e := by
  by_cases h0 : v = 0
  · unfold Log.fe LOWEST
    rw [if_pos h0]
    have o := ok.ops _ (List.mem_of_getElem? (at_get hi))
    have := o.b; have := o.be
    omega
  · have hv : v ∈ l.vals := at_v.mpr ⟨i, hi, e⟩
    rw [fe_fi hv h0]
    exact (fi_ok hv).fm i hi e
theorem le_lb {l : Log} {i : Nat} {v : Int} (hi : i < l.length) (e : (l.at i).v = v) : (l.at i).b ≤ l.lb v := by
  have hv : v ∈ l.vals := at_v.mpr ⟨i, hi, e⟩
  rw [lb_la hv]
  exact (fi_ok hv).am i hi e
theorem somes_of {l : Log} {v : Int} (h : v ∈ l.vals) (hw : v = 0 ∨ v ∈ l.wr) : v ∈ l.somes := by
  unfold Log.somes
  refine List.mem_filter.mpr ⟨h, ?_⟩
  rcases hw with rfl | hw
  · simp
  · simp [hw]
theorem bef_of {l : Log} {t a b : Int} (hab : a ≠ b) (h : l.fe a + t < l.lb b) : l.bef t a b = true := bef_iff.mpr ⟨hab, h⟩
/-- the pair of two values, the lesser one first -/
theorem pair_bi {l : Log} {t a b : Int} (ok : l.Ok) (ht : t ≤ 10000000000000000) (ha : a ∈ l.somes) (hb : b ∈ l.somes) (hab : a ≠ b) (h1 : l.fe a + t < l.lb b) (h2 : l.fe b + t < l.lb a) :
    ∃ g ∈ l.flts t, g.isU = false ∧ (a ≠ 0 → b ≠ 0 → g.bi l = min (l.lb b - l.fe a) (l.lb a - l.fe b)) ∧ (a = 0 → g.bi l = l.lb a - l.fe b) ∧ (b = 0 → g.bi l = l.lb b - l.fe a) := by
  have key : ∀ a b : Int, a ∈ l.somes → b ∈ l.somes → a < b → l.fe a + t < l.lb b → l.fe b + t < l.lb a → ∃ g ∈ l.flts t, g.isU = false ∧ (a ≠ 0 → g.bi l = min (l.lb b - l.fe a) (l.lb a - l.fe b)) ∧ (a = 0 → g.bi l = l.lb a - l.fe b) := fun a b ha hb hab h1 h2 => by
    have va := somes_mem ha
    have vb := somes_mem hb
    have b0 : b ≠ 0 := by have := (vals_bd ok va).1; omega
    refine ⟨pairF l a b, List.mem_append_right _ (pairs_in ((vals_pw l).filter _) ha hb hab (bef_of (by omega) h1) (bef_of (by omega) h2)), ?_, fun a0 => ?_, fun a0 => ?_⟩
    · unfold pairF; split <;> rfl
    · unfold pairF
      rw [if_neg a0, fe_fi va a0, fe_fi vb b0, lb_la va, lb_la vb]
      rfl
    · unfold pairF
      rw [if_pos a0, fe_fi vb b0, lb_la va]
      rfl
  have va := (vals_bd ok (somes_mem ha)).1
  have vb := (vals_bd ok (somes_mem hb)).1
  rcases Int.lt_or_gt_of_ne hab with z | z
  · obtain ⟨g, hg, hu, h3, h4⟩ := key a b ha hb z h1 h2
    exact ⟨g, hg, hu, fun a0 _ => h3 a0, h4, fun b0 => by omega⟩
  · obtain ⟨g, hg, hu, h3, h4⟩ := key b a hb ha z h2 h1
    exact ⟨g, hg, hu, fun _ b0 => by rw [h3 b0, Int.min_comm], fun a0 => by omega, h4⟩
theorem dom {l : Log} {t : Int} {f : Flt} (ok : l.Ok) (ht : t ≤ 10000000000000000) (hf : f.In l.length) (h : f.is l t = true) (hw : ∀ i ∈ f.ixs, (l.at i).v = 0 ∨ (l.at i).v ∈ l.wr) :
    f.isU = false ∧ ∃ g ∈ l.flts t, g.isU = false ∧ f.bi l ≤ g.bi l := by
  cases f with
  | unw r =>
    simp only [Flt.is, Bool.and_eq_true, Bool.not_eq_true', decide_eq_true_eq, decide_eq_false_iff_not] at h
    rcases hw r (by simp [Flt.ixs]) with z | z
    · exact absurd z h.1.2
    · exact absurd z h.2
  | early r w =>
    simp only [Flt.is, sureB, Bool.and_eq_true, Bool.not_eq_true', decide_eq_true_eq] at h
    obtain ⟨⟨⟨h1, h2⟩, h3⟩, h4⟩ := h
    have hr := hf r (by simp [Flt.ixs])
    have hwl := hf w (by simp [Flt.ixs])
    have wx : l.wix (l.at r).v = w := by rw [h3]; exact wix_of ok.nd (at_get hwl) h2
    have o := (ok.ops _ (List.mem_of_getElem? (at_get hwl))).wr h2
    refine ⟨rfl, .early r w, List.mem_append_left _ (List.mem_append_right _ (List.mem_map.mpr ⟨r, mem_early.mpr ⟨hr, h1, by omega, ?_, by rw [wx]; exact h4⟩, by rw [wx]⟩)), rfl, Int.le_refl _⟩
    exact mem_wr.mpr ⟨l.at w, List.mem_of_getElem? (at_get hwl), h2, h3.symm⟩
  | late c d =>
    simp only [Flt.is, sureB, Bool.and_eq_true, Bool.not_eq_true', decide_eq_true_eq] at h
    obtain ⟨⟨⟨h1, h2⟩, h3⟩, h4⟩ := h
    have hc := hf c (by simp [Flt.ixs])
    have hd := hf d (by simp [Flt.ixs])
    have vc : (l.at c).v ∈ l.vals := at_v.mpr ⟨c, hc, rfl⟩
    have v0 : (0 : Int) ∈ l.vals := at_v.mpr ⟨d, hd, h3⟩
    have f1 := fe_le ok hc rfl
    have f2 := le_lb hd h3
    have f3 := le_lb hc rfl
    have oc := ok.ops _ (List.mem_of_getElem? (at_get hc))
    have f0 : l.fe 0 = -1000000000000000000 := by unfold Log.fe; rw [if_pos rfl]; rfl
    have ocb := oc.b
    obtain ⟨g, hg, hu, _, g2, _⟩ := pair_bi (a := 0) (b := (l.at c).v) ok ht (somes_of v0 (.inl rfl)) (somes_of vc (.inr ((hw c (by simp [Flt.ixs])).resolve_left h1))) (by omega) (by omega) (by omega)
    refine ⟨rfl, g, hg, hu, ?_⟩
    rw [g2 rfl]
    show (l.at d).b - (l.at c).e ≤ _
    omega
  | crossed a b c d =>
    simp only [Flt.is, sureB, Bool.and_eq_true, decide_eq_true_eq] at h
    obtain ⟨⟨⟨⟨⟨⟨h1, h2⟩, h3⟩, h4⟩, h5⟩, h6⟩, h7⟩ := h
    have ha := hf a (by simp [Flt.ixs])
    have hb := hf b (by simp [Flt.ixs])
    have hc := hf c (by simp [Flt.ixs])
    have hd := hf d (by simp [Flt.ixs])
    have va : (l.at a).v ∈ l.vals := at_v.mpr ⟨a, ha, rfl⟩
    have vb : (l.at b).v ∈ l.vals := at_v.mpr ⟨b, hb, rfl⟩
    have f1 := fe_le ok ha rfl
    have f2 := le_lb hb rfl
    have f3 := fe_le ok hc h2.symm
    have f4 := le_lb hd h1.symm
    obtain ⟨g, hg, hu, g1, _, _⟩ := pair_bi (a := (l.at a).v) (b := (l.at b).v) ok ht (somes_of va (.inr ((hw a (by simp [Flt.ixs])).resolve_left h4))) (somes_of vb (.inr ((hw b (by simp [Flt.ixs])).resolve_left h5))) h3 (by omega) (by omega)
    refine ⟨rfl, g, hg, hu, ?_⟩
    rw [g1 h4 h5]
    show min ((l.at b).b - (l.at a).e) ((l.at d).b - (l.at c).e) ≤ _
    omega
/-- there is some that is given if there is any -/
theorem some_of {l : Log} {t : Int} {f : Flt} (ok : l.Ok) (ht : t ≤ 10000000000000000) (hf : f.In l.length) (h : f.is l t = true) : l.flts t ≠ [] := by
  by_cases hw : ∀ i ∈ f.ixs, (l.at i).v = 0 ∨ (l.at i).v ∈ l.wr
  · obtain ⟨_, g, hg, _⟩ := dom ok ht hf h hw
    exact List.ne_nil_of_mem hg
  · simp only [Classical.not_forall, not_or] at hw
    obtain ⟨i, hi, h0, hn⟩ := hw
    have hil := hf i hi
    refine List.ne_nil_of_mem (a := .unw i) (List.mem_append_left _ (List.mem_append_left _ (List.mem_map.mpr ⟨i, mem_unw.mpr ⟨hil, ?_⟩, rfl⟩)))
    have hwf : (l.at i).w = false := by
      rw [Bool.eq_false_iff]
      intro z
      exact hn (mem_wr.mpr ⟨l.at i, List.mem_of_getElem? (at_get hil), z, rfl⟩)
    simp [Flt.is, hwf, h0, hn]
end CM
set_option maxHeartbeats 1000000
namespace CM
open PySem PySem.Spec PyProof.Rows L2 DL
/-! dict(pairs), the keys whole numbers -/
theorem e_as {ρ ρ' : DEnv} {f : EM} {Q : Val → DEnv → Prop} {X : Ex → DEnv → Prop} (e : ρ = ρ') (q : (f ρ').wp Q X) : (f ρ).wp Q X := by subst e; exact q
theorem s_as {ρ ρ' : DEnv} {f : SM} {P : Po} (e : ρ = ρ') (q : (f ρ').wp P) : (f ρ).wp P := by subst e; exact q
/-! first_fault, can_explain -/
end CM
set_option maxHeartbeats 1000000
namespace CM
open PySem PySem.Spec PyProof.Rows L2 DL
/-! the gaps of a log: by how much it is amiss; the least tolerance -/
/-! the law's own -/
/-! gaps -/
end CM
set_option maxHeartbeats 1000000
namespace CM
open PySem PySem.Spec PyProof.Rows L2 DL
theorem perm_map {α β : Type} {f : α → β} {es bs : List β} (h : es.Perm bs) : ∀ {m : List α}, bs = m.map f → ∃ l : List α, es = l.map f ∧ l.Perm m := by
  induction h with
  | nil => intro m e; exact ⟨m, e, .refl _⟩
  | @cons x es bs h ih =>
    intro m e
    cases m with
    | nil => cases e
    | cons a m =>
      rw [List.map_cons] at e
      cases e
      obtain ⟨l, e1, p⟩ := ih rfl
      exact ⟨a :: l, by rw [List.map_cons, e1], p.cons a⟩
  | swap x y es =>
    intro m e
    match m, e with
    | [], e => cases e
    | [a], e => cases e
    | a :: b :: m, e =>
      rw [List.map_cons, List.map_cons] at e
      cases e
      exact ⟨b :: a :: m, rfl, .swap a b m⟩
  | trans _ _ ih1 ih2 =>
    intro m e
    obtain ⟨l, e1, p1⟩ := ih2 e
    obtain ⟨l2, e2, p2⟩ := ih1 e1
    exact ⟨l2, e2, p2.trans p1⟩
theorem Log.Ok.perm {l m : Log} (ok : m.Ok) (p : l.Perm m) : l.Ok := ⟨fun o ho => ok.ops o (p.mem_iff.mp ho), (((p.filter _).map _).nodup_iff).mpr ok.nd, by rw [p.length_eq]; exact ok.len⟩
end CM
set_option maxHeartbeats 1000000
namespace CM
open PySem PySem.Spec PyProof.Rows L2 DL
/-! the faults within a tolerance are those within 0 whose bound is greater -/
theorem x_neSame {ρ : DEnv} {x y : Val} {Q : Val → DEnv → Prop} {X : Ex → DEnv → Prop} {a b : D} {k n : Nat} (h1 : x.peek ρ = some a) (h2 : y.peek ρ = some b) (g : Gd k n a) (hk : k ≤ 64) (e : b = a) (q : Q (.d (.bl false)) ρ) : (opV neV' x y ρ).wp Q X := by
  subst e
  exact x_ne h1 h2 (g.eq g hk hk) (by rw [eqG_refl g.good]; exact q)
end CM
set_option maxHeartbeats 1000000
namespace CM
open PySem PySem.Spec PyProof.Rows L2 DL
/-! the law's own marks and faults -/
end CM
set_option maxHeartbeats 1000000
namespace CM
open PySem PySem.Spec PyProof.Rows L2 DL
/-! orders that explain a log -/
def surB (l : Log) (t : Int) (i j : Nat) : Bool := decide ((l.at i).e + t < (l.at j).b)
def nxt (l : Log) (v : Int) (i : Nat) : Int := if (l.at i).w then (l.at i).v else v
/-- each read has the value of the last write ahead of it -/
def rrB (l : Log) : Int → List Nat → Bool
  | _, [] => true
  | v, i :: is => decide ((l.at i).v = nxt l v i) && rrB l (nxt l v i) is
/-- none stands ahead of one that is surely before it -/
def pwB (l : Log) (t : Int) : List Nat → Bool
  | [] => true
  | i :: is => (!is.any fun j => surB l t j i) && pwB l t is
structure Expl (l : Log) (t : Int) (os : List Nat) : Prop where
  perm : os.Perm (List.range l.length)
  rr : rrB l 0 os = true
  pw : pwB l t os = true
theorem pwB_iff {l : Log} {t : Int} : ∀ {os : List Nat}, pwB l t os = true ↔ os.Pairwise fun i j => ¬ (l.at j).e + t < (l.at i).b
  | [] => by simp [pwB]
  | i :: is => by
    unfold pwB
    rw [Bool.and_eq_true, pwB_iff, List.pairwise_cons]
    refine and_congr_left fun _ => ?_
    simp [surB]
/-- what is seen at a place: the write that is last ahead of it, and the value since then -/
theorem rr_split {l : Log} : ∀ {as : List Nat} {i : Nat} {bs : List Nat} {v : Int}, rrB l v (as ++ i :: bs) = true →
    ((l.at i).v = v ∧ ∀ j ∈ as ++ [i], (l.at j).v = v ∧ (l.at j).w = false) ∨ ∃ cs k ds, as ++ [i] = cs ++ k :: ds ∧ (l.at k).w = true ∧ ∀ j ∈ k :: ds, (l.at j).v = (l.at i).v
  | [], i, bs, v, h => by
    have h : (decide ((l.at i).v = nxt l v i) && rrB l (nxt l v i) bs) = true := h
    rw [Bool.and_eq_true, decide_eq_true_eq] at h
    by_cases hw : (l.at i).w = true
    · exact .inr ⟨[], i, [], rfl, hw, fun j hj => by rw [List.mem_singleton.mp hj]⟩
    · have e : (l.at i).v = v := by rw [h.1]; unfold nxt; rw [if_neg hw]
      refine .inl ⟨e, fun j hj => ?_⟩
      rw [List.mem_singleton.mp hj]
      exact ⟨e, by simpa using hw⟩
  | a :: as, i, bs, v, h => by
    have h : (decide ((l.at a).v = nxt l v a) && rrB l (nxt l v a) (as ++ i :: bs)) = true := h
    rw [Bool.and_eq_true, decide_eq_true_eq] at h
    rcases rr_split h.2 with ⟨h1, h2⟩ | ⟨cs, k, ds, h1, h2, h3⟩
    · by_cases hw : (l.at a).w = true
      · refine .inr ⟨[], a, as ++ [i], rfl, hw, fun j hj => ?_⟩
        rcases List.mem_cons.mp hj with e | hj
        · rw [e, h1, h.1]
        · rw [(h2 j hj).1, h1]
      · have e : nxt l v a = v := by unfold nxt; rw [if_neg hw]
        rw [e] at h1 h2 h
        refine .inl ⟨h1, fun j hj => ?_⟩
        rcases List.mem_cons.mp hj with z | hj
        · rw [z]; exact ⟨h.1, by simpa using hw⟩
        · exact h2 j hj
    · exact .inr ⟨a :: cs, k, ds, by rw [List.cons_append, h1]; rfl, h2, h3⟩
theorem Expl.mem {l : Log} {t : Int} {os : List Nat} (x : Expl l t os) {i : Nat} : i ∈ os ↔ i < l.length := by
  rw [x.perm.mem_iff, List.mem_range]
theorem Expl.nd {l : Log} {t : Int} {os : List Nat} (x : Expl l t os) : os.Nodup := x.perm.nodup_iff.mpr List.nodup_range
theorem Expl.at {l : Log} {t : Int} {os : List Nat} (x : Expl l t os) {i : Nat} (h : i < l.length) : ∃ as bs, os = as ++ i :: bs := List.append_of_mem (x.mem.mpr h)
/-- i stands ahead of j -/
def Ahead (os : List Nat) (i j : Nat) : Prop := ∃ as bs cs, os = as ++ i :: bs ++ j :: cs
theorem ahead_sure {l : Log} {t : Int} {os : List Nat} (x : Expl l t os) {i j : Nat} (hi : i < l.length) (hj : j < l.length) (hij : i ≠ j) (s : (l.at i).e + t < (l.at j).b) : Ahead os i j := by
  obtain ⟨as, bs, e⟩ := x.at hi
  have hjm : j ∈ as ++ i :: bs := by rw [← e]; exact x.mem.mpr hj
  rcases List.mem_append.mp hjm with h | h
  · obtain ⟨cs, ds, e2⟩ := List.append_of_mem h
    have pw := pwB_iff.mp x.pw
    rw [e, e2, List.append_assoc, List.pairwise_append] at pw
    have := (List.pairwise_cons.mp pw.2.1).1 i (by simp)
    exact absurd s this
  · rcases List.mem_cons.mp h with h | h
    · exact absurd h.symm hij
    · obtain ⟨cs, ds, e2⟩ := List.append_of_mem h
      exact ⟨as, cs, ds, by rw [e, e2]; simp⟩
theorem idx_lt {i j : Nat} {as bs cs : List Nat} (nd : (as ++ i :: bs ++ j :: cs).Nodup) : List.idxOf i (as ++ i :: bs ++ j :: cs) < List.idxOf j (as ++ i :: bs ++ j :: cs) := by
  have n2 : j ∉ as ++ i :: bs := fun z => by
    rw [List.nodup_append] at nd
    exact nd.2.2 j z j List.mem_cons_self rfl
  have e1 : List.idxOf j (as ++ i :: bs ++ j :: cs) = List.idxOf j (j :: cs) + (as ++ i :: bs).length := by rw [List.idxOf_append, if_neg n2]
  have e2 : List.idxOf i (as ++ i :: bs ++ j :: cs) = List.idxOf i (as ++ i :: bs) := by rw [List.idxOf_append, if_pos (by simp)]
  have e3 : List.idxOf i (as ++ i :: bs) < (as ++ i :: bs).length := List.idxOf_lt_length_of_mem (by simp)
  omega
theorem ahead_idx {os : List Nat} (nd : os.Nodup) {i j : Nat} (a : Ahead os i j) : os.idxOf i < os.idxOf j := by
  obtain ⟨a1, a2, a3, e1⟩ := a
  rw [e1] at nd ⊢
  exact idx_lt nd
/-- the write of a value, and what stands between it and an operation of the value -/
theorem Expl.back {l : Log} {t : Int} {os : List Nat} (x : Expl l t os) {i : Nat} (hi : i < l.length) (h0 : (l.at i).v ≠ 0) :
    ∃ k, k < l.length ∧ (l.at k).w = true ∧ (l.at k).v = (l.at i).v ∧ os.idxOf k ≤ os.idxOf i ∧ ∀ j, j < l.length → os.idxOf k ≤ os.idxOf j → os.idxOf j ≤ os.idxOf i → (l.at j).v = (l.at i).v := by
  obtain ⟨as, bs, e⟩ := x.at hi
  have rr := x.rr
  rw [e] at rr
  rcases rr_split rr with ⟨h1, _⟩ | ⟨cs, k, ds, e2, hw, hb⟩
  · exact absurd h1 h0
  · have e3 : os = cs ++ (k :: ds) ++ bs := by
      have : as ++ i :: bs = (as ++ [i]) ++ bs := by simp
      rw [e, this, e2]
    have hk : k ∈ os := by rw [e3]; simp
    have nd := x.nd
    have len : as.length + 1 = cs.length + ds.length + 1 := by have := congrArg List.length e2; simp at this; omega
    have n1 : i ∉ as := fun z => by
      rw [e, List.nodup_append] at nd
      exact nd.2.2 i z i List.mem_cons_self rfl
    have n2 : k ∉ cs := fun z => by
      rw [e3, List.append_assoc, List.nodup_append] at nd
      exact nd.2.2 k z k (by simp) rfl
    have pi : os.idxOf i = as.length := by rw [e, List.idxOf_append, if_neg n1]; simp
    have pk : os.idxOf k = cs.length := by rw [e3, List.append_assoc, List.idxOf_append, if_neg n2]; simp
    refine ⟨k, x.mem.mp hk, hw, hb k List.mem_cons_self, by omega, fun j hj h1 h2 => ?_⟩
    have hjm := x.mem.mpr hj
    have hjl := List.idxOf_lt_length_of_mem hjm
    have gj : os[os.idxOf j]? = some j := by rw [List.getElem?_eq_getElem hjl, List.getElem_idxOf]
    generalize os.idxOf j = p at h1 h2 gj hjl
    rw [e3, List.append_assoc, List.getElem?_append_right (by omega), List.getElem?_append_left (by simp; omega)] at gj
    exact hb j (List.mem_of_getElem? gj)
theorem Expl.zero {l : Log} {t : Int} {os : List Nat} (ok : l.Ok) (x : Expl l t os) {i : Nat} (hi : i < l.length) (h0 : (l.at i).v = 0) : ∀ j, j < l.length → os.idxOf j ≤ os.idxOf i → (l.at j).v = 0 := by
  obtain ⟨as, bs, e⟩ := x.at hi
  have rr := x.rr
  rw [e] at rr
  rcases rr_split rr with ⟨_, h2⟩ | ⟨cs, k, ds, e2, hw, hb⟩
  · intro j hj hij
    have nd := x.nd
    have n1 : i ∉ as := fun z => by
      rw [e, List.nodup_append] at nd
      exact nd.2.2 i z i List.mem_cons_self rfl
    have pi : os.idxOf i = as.length := by rw [e, List.idxOf_append, if_neg n1]; simp
    have hjl := List.idxOf_lt_length_of_mem (x.mem.mpr hj)
    have gj : os[os.idxOf j]? = some j := by rw [List.getElem?_eq_getElem hjl, List.getElem_idxOf]
    have e3 : os = (as ++ [i]) ++ bs := by rw [e]; simp
    generalize os.idxOf j = p at hij gj hjl
    rw [e3, List.getElem?_append_left (by simp; omega)] at gj
    exact (h2 j (List.mem_of_getElem? gj)).1
  · have hk : k ∈ as ++ [i] := by rw [e2]; simp
    have hkl : k < l.length := x.mem.mp (by rw [e]; simp at hk ⊢; rcases hk with h | h; exact .inl h; exact .inr (.inl h))
    have := (ok.ops _ (List.mem_of_getElem? (at_get hkl))).wr hw
    have := hb k List.mem_cons_self
    omega
/-- an order that explains the log: no fault -/
theorem Expl.none {l : Log} {t : Int} {os : List Nat} (ok : l.Ok) (h0 : 0 ≤ t) (x : Expl l t os) {f : Flt} (hf : f.In l.length) : f.is l t = false := by
  have nd := x.nd
  have ne : ∀ {i j : Nat}, i < l.length → (l.at i).e + t < (l.at j).b → i ≠ j := fun {i j} hi s e => by
    subst e
    have := (ok.ops _ (List.mem_of_getElem? (at_get hi))).be
    omega
  have wu : ∀ {i j : Nat}, i < l.length → j < l.length → (l.at i).w = true → (l.at j).w = true → (l.at i).v = (l.at j).v → i = j := fun {i j} hi hj h1 h2 e => wr_inj ok.nd (at_get hi) (at_get hj) h1 h2 e
  rw [Bool.eq_false_iff]
  intro h
  cases f with
  | unw r =>
    have hr := hf r (by simp [Flt.ixs])
    simp only [Flt.is, Bool.and_eq_true, Bool.not_eq_true', decide_eq_true_eq, decide_eq_false_iff_not] at h
    obtain ⟨k, hk, hw, hv, _⟩ := x.back hr h.1.2
    exact h.2 (mem_wr.mpr ⟨l.at k, List.mem_of_getElem? (at_get hk), hw, hv⟩)
  | early r w =>
    have hr := hf r (by simp [Flt.ixs])
    have hw := hf w (by simp [Flt.ixs])
    simp only [Flt.is, sureB, Bool.and_eq_true, Bool.not_eq_true', decide_eq_true_eq] at h
    obtain ⟨⟨⟨h1, h2⟩, h3⟩, h4⟩ := h
    have := (ok.ops _ (List.mem_of_getElem? (at_get hw))).wr h2
    obtain ⟨k, hk, kw, kv, le, _⟩ := x.back hr (by omega)
    have := wu hk hw kw h2 (by omega)
    subst this
    have := ahead_idx nd (ahead_sure x hr hk (ne hr h4) h4)
    omega
  | late c d =>
    have hc := hf c (by simp [Flt.ixs])
    have hd := hf d (by simp [Flt.ixs])
    simp only [Flt.is, sureB, Bool.and_eq_true, Bool.not_eq_true', decide_eq_true_eq] at h
    obtain ⟨⟨⟨h1, h2⟩, h3⟩, h4⟩ := h
    have a := ahead_idx nd (ahead_sure x hc hd (ne hc h4) h4)
    exact h1 (x.zero ok hd h3 c hc (by omega))
  | crossed a b c d =>
    have ha := hf a (by simp [Flt.ixs])
    have hb := hf b (by simp [Flt.ixs])
    have hc := hf c (by simp [Flt.ixs])
    have hd := hf d (by simp [Flt.ixs])
    simp only [Flt.is, sureB, Bool.and_eq_true, decide_eq_true_eq] at h
    obtain ⟨⟨⟨⟨⟨⟨h1, h2⟩, h3⟩, h4⟩, h5⟩, h6⟩, h7⟩ := h
    have p1 := ahead_idx nd (ahead_sure x ha hb (ne ha h6) h6)
    have p2 := ahead_idx nd (ahead_sure x hc hd (ne hc h7) h7)
    obtain ⟨ka, ka1, ka2, ka3, ka4, ka5⟩ := x.back ha h4
    obtain ⟨kb, kb1, kb2, kb3, kb4, kb5⟩ := x.back hb h5
    obtain ⟨kc, kc1, kc2, kc3, kc4, kc5⟩ := x.back hc (by omega)
    obtain ⟨kd, kd1, kd2, kd3, kd4, kd5⟩ := x.back hd (by omega)
    have e1 := wu ka1 kd1 ka2 kd2 (by omega)
    have e2 := wu kb1 kc1 kb2 kc2 (by omega)
    subst e1
    subst e2
    rcases Nat.lt_or_ge (os.idxOf ka) (os.idxOf kb) with z | z
    · have q := kd5 kb kb1 (by omega) (by omega)
      omega
    · have q := kb5 ka ka1 (by omega) (by omega)
      omega
end CM
set_option maxHeartbeats 1000000
namespace CM
open PySem PySem.Spec PyProof.Rows L2 DL
/-! without a fault there is an order -/
structure Blk (l : Log) (t : Int) (v : Int) (os : List Nat) : Prop where
  nd : os.Nodup
  mem : ∀ i, i ∈ os ↔ i < l.length ∧ (l.at i).v = v
  wf : v ∈ l.wr → ∃ is, os = l.wix v :: is
  pw : os.Pairwise fun i j => ¬ (l.at j).e + t < (l.at i).b
/-- operations of the value that is there -/
theorem rrB_same {l : Log} {v : Int} : ∀ {as : List Nat}, (∀ i ∈ as, (l.at i).v = v) → rrB l v as = true
  | [], _ => rfl
  | a :: as, h => by
    have e := h a List.mem_cons_self
    have e2 : nxt l v a = v := by unfold nxt; split <;> simp [e]
    show (decide ((l.at a).v = nxt l v a) && rrB l (nxt l v a) as) = true
    rw [e2, Bool.and_eq_true, decide_eq_true_eq]
    exact ⟨e, rrB_same fun i hi => h i (List.mem_cons_of_mem _ hi)⟩
theorem Blk.rr {l : Log} {t v s : Int} {os : List Nat} (b : Blk l t v os) (h : v ∈ l.wr ∨ s = v) : rrB l s os = true := by
  have hv : ∀ i ∈ os, (l.at i).v = v := fun i hi => ((b.mem i).mp hi).2
  rcases h with h | h
  · obtain ⟨is, e⟩ := b.wf h
    subst e
    obtain ⟨_, w1, w2⟩ := wix_at h
    have e2 : nxt l s (l.wix v) = v := by unfold nxt; rw [if_pos w1, w2]
    show (decide ((l.at (l.wix v)).v = nxt l s (l.wix v)) && rrB l (nxt l s (l.wix v)) is) = true
    rw [e2, Bool.and_eq_true, decide_eq_true_eq]
    exact ⟨w2, rrB_same fun i hi => hv i (List.mem_cons_of_mem _ hi)⟩
  · rw [h]; exact rrB_same hv
/-! there is a row -/
end CM
set_option maxHeartbeats 1000000
namespace CM
open PySem PySem.Spec PyProof.Rows L2 DL
/-! the program's and the law's look at orders -/
/-! the law's own look -/
/-! all orders -/
end CM
set_option maxHeartbeats 1000000
namespace CM
open PySem PySem.Spec PyProof.Rows L2 DL
/-! moments along an order -/
def nb (l : Log) : Option Int → Nat → Int
  | none, i => (l.at i).b
  | some m, i => max m (l.at i).b
end CM
set_option maxHeartbeats 1000000
namespace CM
open PySem PySem.Spec PyProof.Rows L2 DL
/-! a log with a hidden order -/
/-- each read has the value that stands -/
def Right : Int → Log → Prop
  | _, [] => True
  | v, o :: os => (o.w = true ∨ o.v = v) ∧ Right o.v os
def lastV : Int → Log → Int
  | v, [] => v
  | _, o :: os => lastV o.v os
theorem lastV_app {o : Op} : ∀ {l : Log} {v : Int}, lastV v (l ++ [o]) = o.v
  | [], _ => rfl
  | a :: l, _ => lastV_app (l := l)
theorem Right.app {o : Op} : ∀ {l : Log} {v : Int}, Right v l → (o.w = true ∨ o.v = lastV v l) → Right v (l ++ [o])
  | [], _, _, h => ⟨h, trivial⟩
  | a :: l, _, ⟨h1, h2⟩, h => ⟨h1, Right.app (l := l) h2 h⟩
structure Hid (off w t : Int) (l : Log) : Prop where
  rg : Right 0 l
  lv : lastV 0 l = w
  pw : l.Pairwise fun a b => a.b ≤ b.e + 2 * off
  tb : ∀ o ∈ l, o.b ≤ t + off
theorem Hid.nil {off t : Int} : Hid off 0 t [] := ⟨trivial, rfl, List.Pairwise.nil, fun o h => nomatch h⟩
theorem Hid.app {off w t t' : Int} {l : Log} {o : Op} (h : Hid off w t l) (ht : t ≤ t') (hr : o.w = true ∨ o.v = w) (hb : o.b ≤ t' + off) (he : t' - off ≤ o.e) : Hid off o.v t' (l ++ [o]) := by
  refine ⟨h.rg.app (by rw [h.lv]; exact hr), lastV_app, ?_, fun x hx => ?_⟩
  · rw [List.pairwise_append]
    refine ⟨h.pw, List.pairwise_singleton _ _, fun a ha b hb => ?_⟩
    rw [List.mem_singleton.mp hb]
    have := h.tb a ha
    omega
  · rcases List.mem_append.mp hx with hx | hx
    · have := h.tb x hx; omega
    · rw [List.mem_singleton.mp hx]; exact hb
theorem rr_drop {l : Log} : ∀ {os : Log} {k : Nat} {v : Int}, l.drop k = os → Right v os → rrB l v ((List.range os.length).map (k + ·)) = true
  | [], _, _, _, _ => rfl
  | o :: os, k, v, h, hr => by
    have hk : l[k]? = some o := by
      have := congrArg List.head? h
      rwa [List.head?_drop] at this
    have e := at_of hk
    have h2 : l.drop (k + 1) = os := by rw [← List.drop_drop, h]; rfl
    have ih := rr_drop h2 hr.2
    rw [List.length_cons, List.range_succ_eq_map, List.map_cons, List.map_map]
    have em : (List.range os.length).map ((k + ·) ∘ Nat.succ) = (List.range os.length).map (k + 1 + ·) := List.map_congr_left fun j _ => by show k + (j + 1) = k + 1 + j; omega
    rw [em]
    show (decide ((l.at (k + 0)).v = nxt l v (k + 0)) && rrB l (nxt l v (k + 0)) _) = true
    rw [Nat.add_zero]
    have en : nxt l v k = o.v := by
      unfold nxt
      rw [e]
      rcases hr.1 with z | z
      · rw [if_pos z]
      · by_cases hw : o.w = true
        · rw [if_pos hw]
        · rw [if_neg hw, z]
    rw [en, e, ih]
    simp
theorem Hid.expl {off w t : Int} {l : Log} (h : Hid off w t l) : Expl l (2 * off) (List.range l.length) := by
  refine ⟨List.Perm.refl _, ?_, ?_⟩
  · have := rr_drop (l := l) (k := 0) rfl h.rg
    simpa using this
  · rw [pwB_iff]
    refine (List.Pairwise.and_mem.mp List.pairwise_lt_range).imp fun {i j} hh => ?_
    obtain ⟨h1, h2, h3⟩ := hh
    have h1 := List.mem_range.mp h1
    have h2 := List.mem_range.mp h2
    have := (List.pairwise_iff_getElem.mp h.pw) i j h1 h2 h3
    rw [at_of (List.getElem?_eq_getElem h1), at_of (List.getElem?_eq_getElem h2)]
    omega
theorem perm_none {l m : Log} {t : Int} (ok : l.Ok) (p : l.Perm m) (h : ∀ f : Flt, f.In m.length → f.is m t = false) : l.flts t = [] := by
  refine List.eq_nil_iff_forall_not_mem.mpr fun f hf => ?_
  obtain ⟨h1, h2⟩ := flts_is ok hf
  have ix : ∀ i, i < l.length → ∃ j, j < m.length ∧ m.at j = l.at i := fun i hi => by
    obtain ⟨j, hj⟩ := List.getElem?_of_mem (p.mem_iff.mp (List.mem_of_getElem? (at_get hi)))
    exact ⟨j, (List.getElem?_eq_some_iff.mp hj).1, at_of hj⟩
  have hw : ∀ v, v ∈ l.wr ↔ v ∈ m.wr := fun v => ((p.filter _).map _).mem_iff
  have contra : ∀ g : Flt, g.In m.length → g.is m t = true → False := fun g hg hi => by
    rw [h g hg] at hi
    cases hi
  cases f with
  | unw r =>
    obtain ⟨j, hj, e⟩ := ix r (h1 r (by simp [Flt.ixs]))
    refine contra (.unw j) (fun i hi => by simp [Flt.ixs] at hi; omega) ?_
    simp only [Flt.is] at h2 ⊢
    rw [e]
    simpa [hw] using h2
  | early r w =>
    obtain ⟨j, hj, e⟩ := ix r (h1 r (by simp [Flt.ixs]))
    obtain ⟨k, hk, e2⟩ := ix w (h1 w (by simp [Flt.ixs]))
    refine contra (.early j k) (fun i hi => by simp [Flt.ixs] at hi; omega) ?_
    simp only [Flt.is, sureB] at h2 ⊢
    rw [e, e2]
    exact h2
  | crossed a b c d =>
    obtain ⟨j, hj, e⟩ := ix a (h1 a (by simp [Flt.ixs]))
    obtain ⟨k, hk, e2⟩ := ix b (h1 b (by simp [Flt.ixs]))
    obtain ⟨x, hx, e3⟩ := ix c (h1 c (by simp [Flt.ixs]))
    obtain ⟨y, hy, e4⟩ := ix d (h1 d (by simp [Flt.ixs]))
    refine contra (.crossed j k x y) (fun i hi => by simp [Flt.ixs] at hi; omega) ?_
    simp only [Flt.is, sureB] at h2 ⊢
    rw [e, e2, e3, e4]
    exact h2
  | late c d =>
    obtain ⟨j, hj, e⟩ := ix c (h1 c (by simp [Flt.ixs]))
    obtain ⟨k, hk, e2⟩ := ix d (h1 d (by simp [Flt.ixs]))
    refine contra (.late j k) (fun i hi => by simp [Flt.ixs] at hi; omega) ?_
    simp only [Flt.is, sureB] at h2 ⊢
    rw [e, e2]
    exact h2
/-- within twice the greatest move of a stamp no fault is left -/
theorem Hid.none {off w t : Int} {l m : Log} (h : Hid off w t m) (h0 : 0 ≤ off) (ok : l.Ok) (okm : m.Ok) (p : l.Perm m) : l.flts (2 * off) = [] :=
  perm_none ok p fun f hf => h.expl.none okm (by omega) hf
theorem opd_inj {a b : Op} (h : a.d = b.d) : a = b := by
  obtain ⟨w, v, x, y⟩ := a
  obtain ⟨w', v', x', y'⟩ := b
  have h : D.tup [.str (Op.k ⟨w, v, x, y⟩), .int v, .int x, .int y] = D.tup [.str (Op.k ⟨w', v', x', y'⟩), .int v', .int x', .int y'] := h
  injection h with h
  simp only [List.cons.injEq, D.int.injEq, D.str.injEq, and_true] at h
  obtain ⟨h1, rfl, rfl, rfl⟩ := h
  have : w = w' := by
    cases w <;> cases w'
    · rfl
    · have h1 : ("read" : Str) = ("write" : Str) := h1
      exact absurd h1 (by decide +kernel)
    · have h1 : ("write" : Str) = ("read" : Str) := h1
      exact absurd h1 (by decide +kernel)
    · rfl
  rw [this]
theorem ok_of {l : Log} (lo : LogOk (l.map Op.d)) (hl : l.length ≤ 200) : l.Ok := by
  obtain ⟨m, e, ok⟩ := lo.typ (by rw [List.length_map]; omega)
  have : l = m := (List.map_inj_right (fun a b h => opd_inj h)).mp e
  rw [this]
  exact ok
section
local macro_rules
  | `(tactic| infer_instance) => `(tactic| (first | with_reducible refine b_op ?_ | with_reducible refine b_cb ?_ | with_reducible refine b_un ?_ | with_reducible refine b_call ?_ | with_reducible refine b_cons ?_ | with_reducible refine b_nil ?_ | with_reducible refine b_C ?_ | with_reducible refine b_tup ?_ | with_reducible refine b_lst ?_ | with_reducible refine b_fz ?_ | with_reducible refine b_nsl ?_ | with_reducible refine b_nslD ?_ | with_reducible refine b_nslF ?_ | with_reducible refine b_nslS ?_ | with_reducible refine b_tst ?_ | with_reducible refine b_bT ?_ | with_reducible refine b_andK ?_ | with_reducible refine b_orK ?_ | with_reducible refine b_not ?_ | with_reducible refine b_eIf ?_ | with_reducible refine b_ok ?_ | with_reducible refine b_rng ?_ | with_reducible refine b_iseq ?_ | with_reducible refine b_yes ?_ | with_reducible refine s_skip ?_ | with_reducible refine s_drop ?_ | with_reducible refine s_ret ?_ | with_reducible refine s_retN ?_ | with_reducible refine s_break ?_ | with_reducible refine s_cont ?_ | with_reducible refine s_if ?_ | with_reducible refine s_asg ?_ | with_reducible refine s_par ?_ | with_reducible refine s_tgt ?_ | with_reducible refine s_for ?_ | with_reducible refine s_loop ?_ | with_reducible refine s_store ?_ | with_reducible refine s_asgsN ?_ | with_reducible refine f_d ?_ | with_reducible refine f_fr ?_ | ((with_reducible apply s_seqN); exact (rfl : _ = [_, _, _, _, _, _, _, _, _, _, _, _, _])) | ((with_reducible apply b_var_d); rfl) | ((with_reducible apply b_var_o); rfl) | ((with_reducible apply b_fzv); rfl) | ((with_reducible apply b_fzvA); rfl) | ((with_reducible apply s_asgV); rfl) | ((with_reducible apply s_asgs); rfl) | ((with_reducible apply s_asgsD); rfl; first | assumption | exact Fr.un | exact Fr.dat | exact Fr.own) | ((with_reducible apply s_asgsO); rfl; first | assumption | exact Fr.un | exact Fr.dat | exact Fr.own) | ((with_reducible apply s_asgF); rfl; first | assumption | exact Fr.un | exact Fr.dat | exact Fr.own) | ((with_reducible apply s_asgFO); rfl; first | assumption | exact Fr.un | exact Fr.dat | exact Fr.own) | ((with_reducible apply s_storeV); rfl) | ((with_reducible apply s_storeK); rfl) | ((with_reducible apply b_methL); rfl) | ((with_reducible apply b_methV); rfl) | ((with_reducible apply b_mkTup); rfl; exact Nat.le_of_ble_eq_true rfl) | ((with_reducible apply b_mkLst); rfl; exact Nat.le_of_ble_eq_true rfl) | ((with_reducible apply f_sl); rfl) | ((with_reducible apply f_sld); rfl) | ((with_reducible apply x_mul); rfl; rfl; (first | omega | decide)) | ((with_reducible apply x_mod); rfl; rfl; decide) | ((with_reducible apply x_div); rfl; rfl; (first | omega | decide)) | ((with_reducible apply b_opV); rfl; rfl; rfl) | ((with_reducible apply b_unV); rfl; rfl) | ((with_reducible apply b_callV); rfl; rfl) | ((with_reducible apply b_callF); rfl; rfl) | ((with_reducible apply b_rng1); (first | omega | decide)) | ((with_reducible apply b_rng2); (first | omega | decide))))
end
end CM
set_option maxHeartbeats 1000000
namespace CM
open PySem PySem.Spec PyProof.Rows L2 DL
/-! CMhid3: l_true with its hidden order and bounds of its stamps -/
def BdL (c : Int) (l : Log) : Prop := ∀ o ∈ l, -c ≤ o.b ∧ o.e ≤ c
theorem BdL.app {c : Int} {l : Log} {o : Op} (h : BdL c l) (h1 : -c ≤ o.b) (h2 : o.e ≤ c) : BdL c (l ++ [o]) := fun x hx => by
  rcases List.mem_append.mp hx with z | z
  · exact h x z
  · rw [List.mem_singleton.mp z]; exact ⟨h1, h2⟩
section
local macro_rules
  | `(tactic| infer_instance) => `(tactic| (first | with_reducible refine b_op ?_ | with_reducible refine b_cb ?_ | with_reducible refine b_un ?_ | with_reducible refine b_call ?_ | with_reducible refine b_cons ?_ | with_reducible refine b_nil ?_ | with_reducible refine b_C ?_ | with_reducible refine b_tup ?_ | with_reducible refine b_lst ?_ | with_reducible refine b_fz ?_ | with_reducible refine b_nsl ?_ | with_reducible refine b_nslD ?_ | with_reducible refine b_nslF ?_ | with_reducible refine b_nslS ?_ | with_reducible refine b_tst ?_ | with_reducible refine b_bT ?_ | with_reducible refine b_andK ?_ | with_reducible refine b_orK ?_ | with_reducible refine b_not ?_ | with_reducible refine b_eIf ?_ | with_reducible refine b_ok ?_ | with_reducible refine b_rng ?_ | with_reducible refine b_iseq ?_ | with_reducible refine b_yes ?_ | with_reducible refine s_skip ?_ | with_reducible refine s_drop ?_ | with_reducible refine s_ret ?_ | with_reducible refine s_retN ?_ | with_reducible refine s_break ?_ | with_reducible refine s_cont ?_ | with_reducible refine s_if ?_ | with_reducible refine s_asg ?_ | with_reducible refine s_par ?_ | with_reducible refine s_tgt ?_ | with_reducible refine s_for ?_ | with_reducible refine s_loop ?_ | with_reducible refine s_store ?_ | with_reducible refine s_asgsN ?_ | with_reducible refine f_d ?_ | with_reducible refine f_fr ?_ | ((with_reducible apply s_seqN); exact (rfl : _ = [_, _, _, _, _, _, _, _, _, _, _, _, _])) | ((with_reducible apply b_var_d); rfl) | ((with_reducible apply b_var_o); rfl) | ((with_reducible apply b_fzv); rfl) | ((with_reducible apply b_fzvA); rfl) | ((with_reducible apply s_asgV); rfl) | ((with_reducible apply s_asgs); rfl) | ((with_reducible apply s_asgsD); rfl; first | assumption | exact Fr.un | exact Fr.dat | exact Fr.own) | ((with_reducible apply s_asgsO); rfl; first | assumption | exact Fr.un | exact Fr.dat | exact Fr.own) | ((with_reducible apply s_asgF); rfl; first | assumption | exact Fr.un | exact Fr.dat | exact Fr.own) | ((with_reducible apply s_asgFO); rfl; first | assumption | exact Fr.un | exact Fr.dat | exact Fr.own) | ((with_reducible apply s_storeV); rfl) | ((with_reducible apply s_storeK); rfl) | ((with_reducible apply b_methL); rfl) | ((with_reducible apply b_methV); rfl) | ((with_reducible apply b_mkTup); rfl; exact Nat.le_of_ble_eq_true rfl) | ((with_reducible apply b_mkLst); rfl; exact Nat.le_of_ble_eq_true rfl) | ((with_reducible apply f_sl); rfl) | ((with_reducible apply f_sld); rfl) | ((with_reducible apply x_mul); rfl; rfl; (first | omega | decide)) | ((with_reducible apply x_mod); rfl; rfl; decide) | ((with_reducible apply x_div); rfl; rfl; (first | omega | decide)) | ((with_reducible apply b_opV); rfl; rfl; rfl) | ((with_reducible apply b_unV); rfl; rfl) | ((with_reducible apply b_callV); rfl; rfl) | ((with_reducible apply b_callF); rfl; rfl) | ((with_reducible apply b_rng1); (first | omega | decide)) | ((with_reducible apply b_rng2); (first | omega | decide))))
end
end CM
set_option maxHeartbeats 1000000
namespace CM
open PySem PySem.Spec PyProof.Rows L2 DL
/-! no fault, told by members; a further read -/
/-! ### a further read -/
def rd (v b e : Int) : Op := ⟨false, v, b, e⟩
end CM
set_option maxHeartbeats 1000000
namespace CM
open PySem PySem.Spec PyProof.Rows L2 DL
/-! readable, must_return -/
end CM
set_option maxHeartbeats 1000000
namespace CM
open PySem PySem.Spec PyProof.Rows L2 DL
/-! an order for a log without faults -/
end CM
set_option maxHeartbeats 1000000
namespace CM
open PySem PySem.Spec PyProof.Rows L2 DL
/-! moments that are shown, evidence for the least tolerance -/
end CM
set_option maxHeartbeats 1000000
namespace CM
open PySem PySem.Spec PyProof.Rows L2 DL
/-! the law's look at any moments of all operations; the faults that bar, the evidence -/
end CM
set_option maxHeartbeats 1000000
namespace CM
open PySem PySem.Spec PyProof.Rows L2 DL
/-! the faults that bar a smaller tolerance; the evidence; what shows the least tolerance -/
end CM
set_option maxHeartbeats 2000000
namespace CM
open PySem PySem.Spec PyProof.Rows L2 DL
/-! the look of the laws of orders at a fault whose indexes are of the log -/
end CM
set_option maxHeartbeats 2000000
/-! DL84: xs.index(i), a list of ints that is any expression. -/
namespace DL
open PySem PySem.Spec PyProof.Rows L2
variable [TabT]
def indexD : List D → Option Val
  | [.lst ds, .int i] => match intsD ds with
    | some ns => if i ∈ ns then some (.d (.int (ns.idxOf i : Nat))) else none
    | none => none
  | _ => none
def eIdxL (f : EM) (gl : M (List Val)) : EM := fun ρ => (f ρ).bind fun x ρ1 => match x.peek ρ1 with
  | some (.lst _) => (gl ρ1).bind fun ys ρ2 => callV indexD (x :: ys) ρ2
  | _ => .bad
section
variable {ρ : DEnv} {f : EM} {gl : M (List Val)} {x : Val} {xs : List Val} {Q : Val → DEnv → Prop} {X : Ex → DEnv → Prop}
def idxLV (gl : M (List Val)) (x : Val) : EM := fun ρ => match x.peek ρ with
  | some (.lst _) => (gl ρ).bind fun ys ρ2 => callV indexD (x :: ys) ρ2
  | _ => .bad
theorem b_idxL (q : (f ρ).wp (fun x ρ1 => (idxLV gl x ρ1).wp Q X) X) : (eIdxL f gl ρ).wp Q X := b_bind q
instance st_b_idxL : St ((eIdxL f gl ρ).wp Q X) ((f ρ).wp (fun x ρ1 => (idxLV gl x ρ1).wp Q X) X) := ⟨b_idxL⟩
end
end DL
set_option maxHeartbeats 1000000
/-! DL85: whether data of any depth does not stand in a list or a tuple. -/
namespace DL
open PySem PySem.Spec PyProof.Rows L2
end DL
set_option maxHeartbeats 2000000
/-! DL86: list(d), a dict that is data. -/
namespace DL
open PySem PySem.Spec PyProof.Rows L2
end DL
set_option maxHeartbeats 2000000
/-! DL87: whether data of any kind (empty dicts too) stands in a list of ints. -/
namespace DL
open PySem PySem.Spec PyProof.Rows L2
open PySem.SeqAt
end DL
set_option maxHeartbeats 2000000
/-! DL88: != with the empty list, of a list of any data. -/
namespace DL
open PySem PySem.Spec PyProof.Rows L2
end DL
set_option maxHeartbeats 2000000
/-! DL89: [one for log in logs for one in log], logs a tuple of tuples. -/
namespace DL
open PySem PySem.Spec PyProof.Rows L2
variable [TabT]
def isTupD : D → Bool
  | .tup _ => true
  | _ => false
def tupI : D → List D
  | .tup xs => xs
  | _ => []
def eCat (i j k : Nat) : EM := fun ρ => match ρ[i]? with
  | some (.d (.tup ds)) => if (ds.all isTupD = true ∧ (ds.flatMap tupI).length < 16777216) ∧ j < ρ.length ∧ k < ρ.length then .ok (.fr (.lst (ds.flatMap tupI))) ρ else .bad
  | _ => .bad
theorem flat_take (ds : List D) (i : Nat) : ((ds.take i).flatMap tupI).length ≤ (ds.flatMap tupI).length := by
  conv => rhs; rw [← List.take_append_drop i ds, List.flatMap_append, List.length_append]
  omega
section
variable {X : Cx} {W : WX} {tg iter tg1 iter1 elt : Expr} {own : List (Str × Nat)} {scope : Scope} {pos : Pos}
theorem cat_ok {i j k : Nat} {vs : List Nat} {σ : L2.St} {H : Hp} {Q : VK} (hj : j ∈ vs) (hk : k ∈ vs) (hjk : j ≠ k) (hq : tD X.K X.mg W (eCat i j k) σ H Q) :
    tLc2 (iTup X.K (tVar i)) (gName j) tYes (iTup X.K (tVar j)) (gName k) tYes (tVar k) vs [k] σ H Q := by
  obtain ⟨F, ρ, sr, q⟩ := hq
  unfold eCat at q
  cases hs : ρ[i]? with
  | none => rw [hs] at q; exact q.elim
  | some s =>
    rw [hs] at q
    cases s with
    | un => exact q.elim
    | ow c m => exact q.elim
    | d x =>
      cases x with
      | tup ds =>
        dsimp only at q
        split at q
        rotate_left
        · exact q.elim
        rename_i hc
        obtain ⟨⟨hall, hlen⟩, hjl, hkl⟩ := hc
        obtain ⟨ov, h1, v, rfl, rv⟩ := sr.slot i _ hs
        cases rv with
        | tup e r =>
          rename_i a xs
          have hxl := r.length
          refine ⟨.ref a, h1, a, rfl, ⟨xs, (RdLe.of sr.sub).sqT e⟩, fun D nD => ?_⟩
          have nF : F D = none := Same.free sr.sub nD
          have nO : ¬ Ow σ ρ D := fun ⟨i', c, m, z1, z2⟩ => by
            obtain ⟨ov, g1, a', g2, _, g4⟩ := sr.slot i' _ z1
            rw [z2] at g1; cases g1; cases g2
            obtain ⟨o, ho⟩ := g4.some
            rw [nD] at ho; cases ho
          have sm : ∀ acc, Same F (upd H D (.lst acc)) := fun acc b u e => by
            by_cases hb : b = D
            · subst hb; rw [nF] at e; cases e
            · rw [upd_ne hb]; exact sr.sub b u e
          have sq : ∀ {b : Addr} {ys : List V} acc, SqT X.K F b ys → SqT X.K (upd H D (.lst acc)) b ys := fun {b ys} acc h => (RdLe.of (sm acc)).sqT h
          have hsl : σ.length = ρ.length := sr.len
          refine ⟨fun i' m H' => m = ds.length - i' ∧ i' ≤ ds.length ∧ ∃ acc, H' = upd H D (.lst acc) ∧ RepL X.K F acc ((ds.take i').flatMap tupI), ⟨ds.length, rfl, Nat.zero_le _, [], rfl, .nil⟩, ?_⟩
          rintro i' m H' ⟨rfl, hi', acc, rfl, ra⟩
          by_cases hlt : i' < ds.length
          · have hx : xs[i']? = some (xs[i']'(by omega)) := List.getElem?_eq_getElem _
            obtain ⟨d, hd, rd⟩ := r.getV hx
            have hdm := List.mem_of_getElem? hd
            have hdt := List.all_eq_true.mp hall d hdm
            have tk : (ds.take (i' + 1)).flatMap tupI = (ds.take i').flatMap tupI ++ tupI d := by
              rw [List.take_add_one, hd, List.flatMap_append]
              simp
            have fl := flat_take ds (i' + 1)
            rw [tk, List.length_append] at fl
            cases d with
            | tup es =>
              refine .inr ⟨⟨xs, _, sq acc e, hx⟩, fun H2 => ∃ acc2, H2 = upd H D (.lst acc2) ∧ RepL X.K F acc2 ((ds.take (i' + 1)).flatMap tupI), fun H2 ⟨acc2, e2, r2⟩ => ⟨ds.length - (i' + 1), by omega, rfl, hlt, acc2, e2, r2⟩, fun x H2 ⟨eH, hy⟩ => ?_⟩
              subst eH
              have hxx := hy xs (sq acc e)
              rw [hx] at hxx
              cases hxx
              generalize xs[i']'(by omega) = y at rd
              cases rd with
              | tup e1 r1 =>
                rename_i b ys
                have hyl := r1.length
                have hwl : (wipe σ vs).length = σ.length := wipe_length σ vs
                refine ⟨wipe_off (S := [j]) ⟨List.length_set, fun t ht => List.getElem?_set_ne (fun z => ht (by rw [z]; exact List.mem_singleton.mpr rfl))⟩ (fun t ht => by rw [List.mem_singleton.mp ht]; exact hj), ?_⟩
                unfold tYes
                dsimp only
                rw [if_pos rfl]
                refine ⟨.ref b, by rw [List.getElem?_set_self (by omega)], b, rfl, ⟨ys, sq acc e1⟩, ?_⟩
                refine ⟨fun j' m H' => m = es.length - j' ∧ j' ≤ es.length ∧ ∃ acc, H' = upd H D (.lst acc) ∧ RepL X.K F acc ((ds.take i').flatMap tupI ++ es.take j'), ⟨es.length, rfl, Nat.zero_le _, acc, rfl, by rw [List.take_zero, List.append_nil]; exact ra⟩, ?_⟩
                rintro j' m H' ⟨rfl, hj', acc1, rfl, ra1⟩
                by_cases hlt1 : j' < es.length
                · have hy1 : ys[j']? = some (ys[j']'(by omega)) := List.getElem?_eq_getElem _
                  obtain ⟨f, hf, rf⟩ := r1.getV hy1
                  refine .inr ⟨⟨ys, _, sq acc1 e1, hy1⟩, fun H2 => ∃ acc2, H2 = upd H D (.lst acc2) ∧ RepL X.K F acc2 ((ds.take i').flatMap tupI ++ es.take (j' + 1)), fun H2 ⟨acc2, e2, r2⟩ => ⟨es.length - (j' + 1), by omega, rfl, hlt1, acc2, e2, r2⟩, fun x H2 ⟨eH, hz⟩ => ?_⟩
                  subst eH
                  have hzz := hz ys (sq acc1 e1)
                  rw [hy1] at hzz
                  cases hzz
                  generalize ys[j']'(by omega) = z at rf
                  have hl2 : (wipe ((wipe σ vs).set j (some (V.ref b))) [k]).length = σ.length := by rw [wipe_length, List.length_set, hwl]
                  refine ⟨wipe_off (S := [k]) ⟨List.length_set, fun t ht => List.getElem?_set_ne (fun z => ht (by rw [z]; exact List.mem_singleton.mpr rfl))⟩ (fun t ht => ht), ?_⟩
                  dsimp only
                  rw [if_pos rfl]
                  refine ⟨z, by rw [List.getElem?_set_self (by omega)], acc1, upd_same, ?_, acc1 ++ [z], ?_, ?_⟩
                  · have := ra1.length
                    rw [List.length_append, List.length_take] at this
                    have hs : sizeLine = 16777216 := sizeLine_eq
                    have : (tupI (DL.D.tup es)).length = es.length := rfl
                    omega
                  · funext c
                    by_cases hc : c = D
                    · subst hc; rw [upd_same, upd_same]
                    · rw [upd_ne hc, upd_ne hc, upd_ne hc]
                  · have et : es.take (j' + 1) = es.take j' ++ [f] := by rw [List.take_add_one, hf]; rfl
                    rw [et, ← List.append_assoc]
                    exact ra1.app (.one rf)
                · have : j' = es.length := by omega
                  subst this
                  refine .inl ⟨⟨ys, sq acc1 e1, by omega⟩, acc1, rfl, ?_⟩
                  rw [tk]
                  rw [List.take_length] at ra1
                  exact ra1
            | _ => cases hdt
          · have : i' = ds.length := by omega
            subst this
            rw [List.take_length] at ra
            refine .inl ⟨⟨xs, sq acc e, by omega⟩, ?_⟩
            exact q (.ref D) F _ (sr_other sr (Same.free sr.sub nD) nO (nk_none nD)) (ev_other .refl nD) ⟨D, rfl, nD, nF, ⟨acc, upd_same, ra⟩, nO⟩
      | _ => exact q.elim
end
end DL
set_option maxHeartbeats 2000000
/-! DL90: def f(*logs), called with data by place; [one for log in logs for one in log]. -/
namespace DL
open PySem PySem.Spec PyProof.Rows L2
variable [TabT]
section
variable {X : Cx} {W : WX} {x0 x1 x2 : Str} {p0 p1 p2 p3 p4 : Pos} {own : List (Str × Nat)} {scope : Scope} {pos : Pos}
theorem de_cat (i j k : Nat) (hc : X.calm = true) (hN : X.N.Nodup) (ok : BlkOk X.N X.env.scope scope own) (hj : j ∈ own.map (·.2)) (hk : k ∈ own.map (·.2)) (hjk : j ≠ k)
    (hi : PE X (.Name x0 p0) (tVar i)) (hi1 : ∀ (s : Shared) (H : Hp) (C : Addr) (cl : List (Str × Addr)) (fp : List Addr), PE (X.blk s H scope (compEnvC scope cl C X.env) fp) (.Name x1 p1) (tVar j))
    (hg : ∀ (s : Shared) (H : Hp) (C : Addr) (cl : List (Str × Addr)) (fp : List Addr), PG (X.blk s H scope (compEnvC scope cl C X.env) fp) (.Name x1 p2) (gName j))
    (hg1 : ∀ (s : Shared) (H : Hp) (C : Addr) (cl : List (Str × Addr)) (fp : List Addr), PG (X.blk s H scope (compEnvC scope cl C X.env) fp) (.Name x2 p3) (gName k))
    (he : ∀ (s : Shared) (H : Hp) (C : Addr) (cl : List (Str × Addr)) (fp : List Addr), PE (X.blk s H scope (compEnvC scope cl C X.env) fp) (.Name x2 p4) (tVar k)) :
    DE X W (.ListComp (.Name x2 p4) [⟨.Name x1 p2, .Name x0 p0, [], 0⟩, ⟨.Name x2 p3, .Name x1 p1, [], 0⟩] scope pos) (eCat i j k) :=
  pe_conseq (pe_lc2 (vs1 := [k]) hc hN (pi_tup hi) ok (fun t ht => by rw [List.mem_singleton.mp ht]; exact hk) hg (fun _ _ _ _ _ => pts_nil) (fun s H C cl fp => pi_tup (hi1 s H C cl fp)) hg1 (fun _ _ _ _ _ => pts_nil) he) fun σ H Q hq => cat_ok hj hk hjk hq
end
/-! ### a def whose one parameter takes all arguments -/
def spStar (K : PySem.W.Frag) (mg : Str → Option Value) (Fm : FM) : Sp := fun vs H Q E => vs.length ≤ sizeLine ∧ ∀ p, H p = none → spD K mg 1 Fm [V.ref p] (upd H p (.tup vs)) Q E
def GStar (P : Program) (w : World) (K : PySem.W.Frag) (mg : Str → Option Value) (base : Heap) (k : Nat) (f : Addr) (Fm : FM) : Prop :=
  ∀ (A : Around) (outer : List Env) (s : Shared) (H : Hp) (us : List Value) (vs : List V) (Q : VK) (E : XK), Room k A → NoGd A → Env0 P w K mg base A outer s H → Vals vs us → spStar K mg Fm vs H Q E → codeAny (model P w) A (.call (.ref f) ⟨us, []⟩) (CR (L2.CX P w) outer P w H s Q E) s
theorem GStar.mono {P : Program} {w : World} {K : PySem.W.Frag} {mg : Str → Option Value} {base : Heap} {j k : Nat} {f : Addr} {Fm : FM} (G : GStar P w K mg base j f Fm) (h : j ≤ k) : GStar P w K mg base k f Fm := fun A outer s H us vs Q E hr hG => G A outer s H us vs Q E (hr.mono h) hG
theorem gstar_of {P : Program} {w : World} {K : PySem.W.Frag} {mg : Str → Option Value} {base : Heap} {k : Nat} {x qual pv : Str} {st : Stmt} {f : Addr} {fd : FuncData} {N : List Str} {g : SM} (Fu : Fun K x qual st f fd) (S : FnScope N [pv] (defScope st)) (nl : Nat) (hNl : N.length = 1 + nl) 
    (hb : ∀ rest : List Value, bindArgs fd ⟨rest, []⟩ = (newTuple rest >>= fun t => pure [(pv, t)]))
    (hbody : ∀ (cdv : Value) (A : Around) (outer : List Env) (s : Shared) (H : Hp) (E : XK), Room k (A.deeper (envOfC qual (defScope st) s.heap.objs.size f cdv)) → NoGd (A.deeper (envOfC qual (defScope st) s.heap.objs.size f cdv)) →
      DSs (cxOf (L2.CX P w) P w K mg base N qual (defScope st) f cdv A outer s H E) (fun c d _ H' => E c d H') (defBody st) g) : GStar P w K mg base (k + 1) f (fnD 1 nl g) := by
  obtain ⟨oc, od, kV, doc, pm, an, cdv, ct, osl, rfl, lk, hcd⟩ := Fu.ex
  intro A outer s H us vs Q E hr hG e0 r ⟨hz, hsp⟩
  have hn : H s.heap.objs.size = none := e0.hok.fresh (Nat.le_refl _)
  have hl2 : us.length ≤ sizeLine := by rw [← r.length]; exact hz
  refine StX.run_bnd (ps := [pv]) lk hcd S hr e0 (G := fun xs H2 => ∃ p, H p = none ∧ xs = [V.ref p] ∧ H2 = upd H p (.tup vs)) (fun A' Ex Q' h => ?_) fun s2 H2 xs hG2 hr' => ?_
  · rw [hb us]
    refine wpAny_bind (wpAny_newTuple (wpAny_pure ?_) hl2)
    have new : ObjOk P w (upd H s.heap.objs.size (.tup vs)) (s.heap.push ({ cls := .type "tuple", data := .seq us.toArray } : Obj)) s.heap.objs.size (.tup vs) := ⟨hz, us, r, ⟨_, Heap.get?_push_size _ rfl, rfl, _, rfl⟩⟩
    have un := StX.un_laid (fs := frs outer) (s := s) (o := ({ cls := .type "tuple", data := .seq us.toArray } : Obj)) (u := .tup vs) hn
    exact h _ _ [V.ref s.heap.objs.size] [Value.ref s.heap.objs.size] (StX.env0_laid e0 new) un rfl (fun e s' => StX.cxUp outer s H _ _ E e s' un (fun b o q => Heap.get?_push_of_some _ q) rfl) (.cons rfl .nil) rfl ⟨_, hn, rfl, rfl⟩
  · obtain ⟨p, hp, rfl, rfl⟩ := hG2
    have hsp := hsp p hp
    obtain ⟨F, as, sr, hla, out⟩ := hsp
    refine ⟨_, hbody cdv A outer s2 _ E hr' hG, F, _, sr_start sr (by rw [hNl]; rfl), ?_⟩
    unfold fnD at out
    rw [if_pos hla] at out
    cases hg : g (as ++ List.replicate nl .un) with
    | nx ρ' => rw [hg] at out; exact fun σ' F' H' s' ev => leave_ok sr s' ev (x := .d .non) (v := .non) Rep.non out
    | rt x ρ' => rw [hg] at out; exact fun v σ' F' H' s' ev rv => leave_ok sr s' ev rv out
    | ex x ρ' =>
      rw [hg] at out
      exact fun c d σ' F' H' s' ev rv => let ⟨s2, ev2⟩ := finish_ok sr s' ev; out c d F' H' s2 ev2 rv
    | bk ρ' => rw [hg] at out; exact out.elim
    | ct ρ' => rw [hg] at out; exact out.elim
    | bad => rw [hg] at out; exact out.elim
/-! ### calls -/
def eCallS (Fm : FM) (g : M (List Val)) : EM := fun ρ => (g ρ).bind fun xs ρ1 => (mkTup xs ρ1).bind fun t ρ2 => callF Fm [t] ρ2
section
variable {X : Cx} {W : WX} {x : Str} {f : Addr} {Fm : FM} {e : Expr} {es : List Expr} {g : M (List Val)} {p pos : Pos} {k : Nat}
/-- f(e, ..) -/
theorem de_callS (G : GStar X.prog X.w X.K X.mg X.base k f Fm) (hr : Room k X.A) (hG : NoGd X.A) (tk : Takes X W) (hg : Gl X x) (hm : X.mg x = some (.ref f)) (hk : PySem.W.keepIn X.K (.ref f) = true) (ha : DA X W (e :: es) g)
    (hdb : (x == ("__debug__" : Str)) = false := by decide) (he : starEach (e :: es) X.env = (false, eval e X.env) :: starEach es X.env := by rfl) (hpl : (backTo pos (starEach es X.env)).any (·.1) = false := by rfl) : DE X W (.Call (.Name x p) (e :: es) [] pos) (eCallS Fm g) := by
  refine ⟨fun pins s σ H Q I hq => ?_⟩
  obtain ⟨F, ρ, sr, q⟩ := hq
  refine wpAny_Call_Name_kw (ld_glob I hg hm (PySem.W.callWith_K (h₀ := X.base) I.ok.mod.kin hk (thn (ha.run pos pins s σ H _ I ⟨F, ρ, sr, Out.bind (rel := relL X.K σ) q⟩) fun us s1 ⟨vs, H1, I1, r, xs, F1, ρ1, e1, s2, ev1, r1, o1⟩ => ⟨I1.kIn, wpAny_call ?_⟩) he hpl) hdb)
  have sp : spStar X.K X.mg Fm vs H1 Q (fun c d H => W c d σ H) := by
    unfold mkTup at o1
    split at o1
    · rename_i ds hd
      split at o1
      · rename_i hl
        have rr := dsL_ok r1.all hd
        refine ⟨by rw [rr.length, sizeLine_eq]; exact hl, fun q n => ?_⟩
        have gg := Gr.froz (o := .tup vs) s2.sub n
        have o1 : Out X.K X.mg (fun c d H => W c d σ H) (relV X.K σ) σ ρ F H (callF Fm [.d (.tup ds)] ρ1) Q := o1
        have vt : VR X.K σ H (upd F1 q (.tup vs)) (upd H1 q (.tup vs)) ρ1 (V.ref q) (.d (.tup ds)) := Gr.vtup s2 rr n
        have rl : VRL X.K σ H (upd F1 q (.tup vs)) (upd H1 q (.tup vs)) ρ1 [V.ref q] [.d (.tup ds)] := ⟨.cons vt .nil, fun i j c c' p h => by cases i with | zero => simp at h | succ i => simp at h⟩
        exact call_ok (ps := [("" : Str)]) (gg.sr s2) (ev1.trans gg.ev) rl rfl o1
      · exact o1.elim
    · exact o1.elim
  refine codeAny_mono (G X.A X.stack s1 H1 us vs Q _ hr hG I1.env0 r sp) fun r s' hq => ?_
  cases r with
  | error e => exact tk e s' (XE.of_call I1 (fun cls d H' h => h) hq)
  | ok fl =>
    cases fl with
    | ret u => exact I1.after hq
    | next => exact hq
    | brk => exact hq
    | cont => exact hq
end
/-! ### reading rules -/
section
variable {ρ : DEnv} {i j k : Nat} {ds : List D} {Fm : FM} {g : M (List Val)} {Q : Val → DEnv → Prop} {X : Ex → DEnv → Prop}
theorem b_cat (h : ρ[i]? = some (.d (.tup ds))) (ht : ds.all isTupD = true) (hl : (ds.flatMap tupI).length < 16777216) (hj : j < ρ.length) (hk : k < ρ.length) (q : Q (.fr (.lst (ds.flatMap tupI))) ρ) : (eCat i j k ρ).wp Q X := by
  unfold eCat
  rw [h]
  dsimp only
  rw [if_pos ⟨⟨ht, hl⟩, hj, hk⟩]
  exact q
theorem b_callS (q : (g ρ).wp (fun xs ρ1 => (mkTup xs ρ1).wp (fun t ρ2 => (callF Fm [t] ρ2).wp Q X) X) X) : (eCallS Fm g ρ).wp Q X := b_bind (R.wp_mono q (fun xs ρ1 h => b_bind h) fun _ _ h => h)
instance st_b_callS : St ((eCallS Fm g ρ).wp Q X) ((g ρ).wp (fun xs ρ1 => (mkTup xs ρ1).wp (fun t ρ2 => (callF Fm [t] ρ2).wp Q X) X) X) := ⟨b_callS⟩
end
end DL
set_option maxHeartbeats 2000000
/-! DL91: a def passes the thunk that it is given on to another one. -/
namespace DL
open PySem PySem.Spec PyProof.Rows L2
theorem un_deep {fs fs' : List Addr} {H H1 H2 : Hp} {h h1 h2 : Heap} (u1 : Un fs [] H H1 h h1) (u2 : Un fs' [] H1 H2 h1 h2) (hf : ∀ b ∈ fs', b ∈ fs ∨ h.get? b = none) : Un fs [] H H2 h h2 where
  keep := fun c ob q n hc hx => u2.keep c ob (u1.keep c ob q n hc hx) (u1.free c ob q n hx) (fun z => (hf c z).elim hc fun z => by rw [q] at z; cases z) hx
  slot := fun c ob q n hc hx => by
    obtain ⟨sl, e1⟩ := u1.slot c ob q n hc hx
    obtain ⟨sl', e2⟩ := u2.any e1 (u1.free c ob q n hx) hx
    exact ⟨sl', e2⟩
  free := fun c ob q n hx => by
    obtain ⟨o', e1⟩ := u1.there c ob q hx
    exact u2.free c o' e1 (u1.free c ob q n hx) hx
  there := fun c ob q hx => by
    obtain ⟨o', e1⟩ := u1.there c ob q hx
    exact u2.there c o' e1 hx
  tups := fun c xs q => u2.tups c xs (u1.tups c xs q)
  frzs := fun c ob xs q => u2.frzs c ob xs (u1.frzs c ob xs q)
  tbls := fun c ps q => by
    obtain ⟨m1, e1⟩ := u1.tbls c ps q
    obtain ⟨m2, e2⟩ := u2.tbls c _ e1
    exact ⟨m1 ++ m2, by rw [e2, Array.append_assoc]⟩
variable [TabT]
theorem ThunkAt.on {P : Program} {w : World} {K : PySem.W.Frag} {mg : Str → Option Value} {base : Heap} {k : Nat} {fs fs' : List Addr} {s s1 : Shared} {H H1 : Hp} {p : Addr} {r : RF} (T : ThunkAt P w K mg base k fs s H p r) (u : Un fs [] H H1 s.heap s1.heap) (hf : ∀ b ∈ fs', b ∈ fs ∨ s.heap.get? b = none) : ThunkAt P w K mg base k fs' s1 H1 p r := by
  obtain ⟨oc, od, fd, osl, hobj⟩ := T.obj
  refine ⟨⟨_, _, _, _, u.keep p _ hobj T.free T.nofs (by simp)⟩, u.free p _ hobj T.free (by simp), fun z => ?_, fun A outer s2 HZ Q E hr hG e0 un hsp => T.run A outer s2 HZ Q E hr hG e0 (un_deep u un hf) hsp⟩
  rcases hf p z with z | z
  · exact T.nofs z
  · rw [hobj] at z; cases z
theorem fr_deep {q : Str} {sc : Scope} {s : Shared} {f : Addr} {cd : Value} {outer : List Env} : ∀ b ∈ frs (envOfC q sc s.heap.objs.size f cd :: outer), b ∈ frs outer ∨ s.heap.get? b = none := fun b hb => by
  have e : frs (envOfC q sc s.heap.objs.size f cd :: outer) = s.heap.objs.size :: frs outer := rfl
  rw [e] at hb
  rcases List.mem_cons.mp hb with rfl | hb
  · refine .inr ?_
    cases h : s.heap.get? s.heap.objs.size with
    | none => rfl
    | some o => exact absurd (Heap.lt_size h) (Nat.lt_irrefl _)
  · exact .inl hb
end DL
set_option maxHeartbeats 2000000
/-! DL92: {k: e}, a dict of one written key and a value that is data. -/
namespace DL
open PySem PySem.Spec PyProof.Rows L2
variable [TabT]
def dict1V (k : Key) : Val → EM
  | .d d => fun ρ1 => .ok (.fr (.dic [k] [d])) ρ1
  | _ => fun _ => .bad
def eDict1 (k : Key) (f : EM) : EM := fun ρ => (f ρ).bind (dict1V k)
section
variable {k : Key} {f : EM} {d : D} {ρ : DEnv} {Q : Val → DEnv → Prop} {X : Ex → DEnv → Prop}
theorem b_dict1 (q : (f ρ).wp (fun x ρ1 => (dict1V k x ρ1).wp Q X) X) : (eDict1 k f ρ).wp Q X := b_bind q
theorem b_dict1V (q : Q (.fr (.dic [k] [d])) ρ) : (dict1V k (.d d) ρ).wp Q X := q
instance st_b_dict1 : St ((eDict1 k f ρ).wp Q X) ((f ρ).wp (fun x ρ1 => (dict1V k x ρ1).wp Q X) X) := ⟨b_dict1⟩
instance st_b_dict1V : St ((dict1V k (.d d) ρ).wp Q X) (Q (.fr (.dic [k] [d])) ρ) := ⟨b_dict1V⟩
end
end DL
set_option maxHeartbeats 2000000
/-! DL93: d.values() walked. -/
namespace DL
open PySem PySem.Spec PyProof.Rows L2
variable [TabT]
def valSrc (x : Val) (ρ : DEnv) : R Src := (x.fzA ρ).bind fun y ρ1 => match y with
  | .d (.dic ks ds) => .ok (ds, none) ρ1
  | _ => .bad
def iVal (f : EM) : IM := fun ρ => (f ρ).bind valSrc
/-! ### its reading -/
section
variable {ρ : DEnv} {QI : Src → DEnv → Prop} {X : Ex → DEnv → Prop}
theorem b_ival {f : EM} (q : (f ρ).wp (fun x ρ1 => (valSrc x ρ1).wp QI X) X) : (iVal f ρ).wp QI X := b_bind q
theorem b_valD {ks : List Key} {ds : List D} (q : QI (ds, none) ρ) : (valSrc (.d (.dic ks ds)) ρ).wp QI X := q
instance st_ival {f : EM} : St ((iVal f ρ).wp QI X) ((f ρ).wp (fun x ρ1 => (valSrc x ρ1).wp QI X) X) := ⟨b_ival⟩
instance st_valD {ks : List Key} {ds : List D} : St ((valSrc (.d (.dic ks ds)) ρ).wp QI X) (QI (ds, none) ρ) := ⟨b_valD⟩
end
end DL
set_option maxHeartbeats 2000000
/-! DL94: an instance that __init__ is still building: its fields are data, or objects of its own (dicts that are filled). -/
namespace DL
open PySem PySem.Spec PyProof.Rows L2
variable [TabT]
/-! ### data without instances -/
mutual
def D.nI : D → Bool
  | .tup xs => nIL xs
  | .lst xs => nIL xs
  | .dic _ vs => nIL vs
  | .obj _ _ vs => nIL vs
  | .ins _ _ _ => false
  | .set (_ :: _ :: _) => false
  | _ => true
def nIL : List D → Bool
  | [] => true
  | x :: xs => x.nI && nIL xs
end
theorem nIL_cons {x : D} {xs : List D} (h : nIL (x :: xs) = true) : x.nI = true ∧ nIL xs = true := by unfold nIL at h; simpa using h
structure DropLe (F F' : Hp) : Prop where
  «1» : ∀ a xs, F a = some (.lst xs) → F' a = some (.lst xs)
  «2» : ∀ a u, Rd F a (.tup u) → Rd F' a (.tup u)
  «3» : ∀ a u, Rd F a (.lst u) → Rd F' a (.lst u)
  fr : ∀ a o u, F a = some (.frz o u) → F' a = some (.frz o u)
  xo : ∀ a cls d, F a = some (xoO a cls d) → F' a = some (xoO a cls d)
  xd : ∀ a fs, F a = some (.xd fs) → F' a = some (.xd fs)
  x0 : ∀ a cls, F a = some (xo0 a cls) → F' a = some (xo0 a cls)
section
variable {K : PySem.W.Frag} {F F' : Hp}
theorem DropLe.sqT (h : DropLe F F') {a : Addr} {xs : List V} (s : SqT K F a xs) : SqT K F' a xs := by
  rcases s with s | s
  · exact .inl (h.2 _ _ s)
  · exact .inr s
theorem DropLe.sqL (h : DropLe F F') {a : Addr} {xs : List V} (s : SqL K F a xs) : SqL K F' a xs := by
  rcases s with s | s
  · exact .inl (h.3 _ _ s)
  · exact .inr s
mutual
theorem Rep.drop (h : DropLe F F') : ∀ {v : V} {d : D}, Rep K F v d → d.nI = true → Rep K F' v d
  | _, _, .non, _ => .non
  | _, _, .bl b, _ => .bl b
  | _, _, .int i, _ => .int i
  | _, _, .str x, _ => .str x
  | _, _, .lst e r, n => .lst (h.1 _ _ e) (RepL.drop' h r n)
  | _, _, .tup e r, n => .tup (h.sqT e) (RepL.drop' h r n)
  | _, _, .dic e l r, n => .dic (h.fr _ _ _ e) l (RepL.drop' h r n)
  | _, _, .scr e, _ => .scr (h.sqL e)
  | _, _, .ty n, _ => .ty n
  | _, _, .obj e1 e2 e3 l r, n => .obj (h.xo _ _ _ e1) e2 (h.xd _ _ e3) l (RepL.drop' h r n)
  | _, _, .ob0 e1 e2, _ => .ob0 (h.x0 _ _ e1) e2
  | _, _, .pt a, _ => .pt a
  | _, _, .opq a, _ => .opq a
  | _, _, .cch e, n => by simp [D.nI] at n
  | _, _, .ins e1 e2 l r, n => by simp [D.nI] at n
theorem RepL.drop' (h : DropLe F F') : ∀ {v : List V} {d : List D}, RepL K F v d → nIL d = true → RepL K F' v d
  | _, _, .nil, _ => .nil
  | _, _, .cons a b, n => .cons (Rep.drop h a (nIL_cons n).1) (RepL.drop' h b (nIL_cons n).2)
end
end
def dropA (F : Hp) (a : Addr) : Hp := fun b => if b = a then none else F b
theorem dropA_ne {F : Hp} {a b : Addr} (h : b ≠ a) : dropA F a b = F b := by unfold dropA; rw [if_neg h]
theorem dropA_self {F : Hp} {a : Addr} : dropA F a a = none := by unfold dropA; rw [if_pos rfl]
theorem drop_le {F : Hp} {a C dx : Addr} {fs : List (Str × V)} (h : F a = some (.ins C dx fs)) : DropLe F (dropA F a) where
  «1» := fun b xs e => by rw [dropA_ne (by rintro rfl; rw [h] at e; cases e)]; exact e
  «2» := fun b u e => by
    rcases e with e | ⟨o, e⟩
    · exact .inl (by rw [dropA_ne (by rintro rfl; rw [h] at e; cases e)]; exact e)
    · exact .inr ⟨o, by rw [dropA_ne (by rintro rfl; rw [h] at e; cases e)]; exact e⟩
  «3» := fun b u e => by
    rcases e with e | ⟨o, e⟩
    · exact .inl (by rw [dropA_ne (by rintro rfl; rw [h] at e; cases e)]; exact e)
    · exact .inr ⟨o, by rw [dropA_ne (by rintro rfl; rw [h] at e; cases e)]; exact e⟩
  fr := fun b o u e => by rw [dropA_ne (by rintro rfl; rw [h] at e; cases e)]; exact e
  xo := fun b c d e => by rw [dropA_ne (by rintro rfl; rw [h] at e; unfold xoO at e; cases e)]; exact e
  xd := fun b fs e => by rw [dropA_ne (by rintro rfl; rw [h] at e; cases e)]; exact e
  x0 := fun b c e => by rw [dropA_ne (by rintro rfl; rw [h] at e; unfold xo0 at e; cases e)]; exact e
/-! ### the half-built instance -/
inductive FV where
  | d (x : D) | ow (c : Cont)
abbrev Flds := List (Str × FV)
def FV.view : FV → D
  | .d x => x
  | .ow _ => .set []
abbrev vw (c : Str) (I : Flds) : D := .ins c (I.map (·.1)) (I.map fun p => p.2.view)
def Cont.nI : Cont → Bool
  | .lst xs => nIL xs
  | .dic _ vs => nIL vs
def okE (ρ : DEnv) : Bool := ρ.all fun s => match s with
  | .un => true
  | .d x => x.nI
  | .ow _ _ => false
theorem okE_get {ρ : DEnv} {i : Nat} {s : Slot} (h : okE ρ = true) (e : ρ[i]? = some s) : s = .un ∨ ∃ x, s = .d x ∧ x.nI = true := by
  have := List.all_eq_true.mp h s (List.mem_of_getElem? e)
  cases s with
  | un => exact .inl rfl
  | d x => exact .inr ⟨x, rfl, this⟩
  | ow c m => cases this
theorem okE_now {σ : L2.St} {ρ : DEnv} {b : Addr} (h : okE ρ = true) : ¬ Ow σ ρ b := fun ⟨i, c, m, e, _⟩ => by
  rcases okE_get h e with z | ⟨x, z, _⟩ <;> cases z
/-- what was there ahead of the making stays -/
structure EvB (F0 H0 F H : Hp) : Prop where
  ext : Same F0 F
  keep : ∀ b o, H0 b = some o → NT o → H b = some o
  newF : ∀ b, F0 b = none → F b ≠ none → H0 b = none
  dom : ∀ b, H0 b ≠ none → H b ≠ none
theorem EvB.refl {F H : Hp} : EvB F H F H := ⟨.refl _, fun _ _ e _ => e, fun _ e n => absurd e n, fun _ e => e⟩
theorem EvB.step {F0 H0 F H F' H' : Hp} {σ σ' : L2.St} {ρ ρ' : DEnv} (a : EvB F0 H0 F H) (no : ∀ b, ¬ Ow σ ρ b) (ev : Ev σ ρ F H σ' ρ' F' H') : EvB F0 H0 F' H' where
  ext := a.ext.trans ev.ext
  keep := fun b o e n => ev.keep b o (a.keep b o e n) (fun z => no b z.ow) n
  newF := fun b e n => by
    by_cases q : F b = none
    · rcases ev.newF b q n with z | z
      · cases hb : H0 b with
        | none => rfl
        | some o => exact absurd z (a.dom b (by rw [hb]; simp))
      · exact absurd z (no b)
    · exact a.newF b e q
  dom := fun b h => ev.dom b (a.dom b h)
/-- a field's value -/
def FR (K : PySem.W.Frag) (F H H0 : Hp) (a : Addr) (v : V) : FV → Prop
  | .d x => Rep K F v x ∧ x.nI = true
  | .ow c => ∃ p, v = .ref p ∧ p ≠ a ∧ F p = none ∧ H0 p = none ∧ CRep K F H p c ∧ c.nI = true
structure ST (K : PySem.W.Frag) (C a dx : Addr) (F0 H0 : Hp) (σ : L2.St) (ρ : DEnv) (I : Flds) (vs : List V) (F H : Hp) : Prop where
  sr : SR K F H σ ρ
  ev : EvB F0 H0 F H
  env : okE ρ = true
  s0 : σ[0]? = some (some (.ref a))
  r0 : ρ[0]? = some .un
  ins : H a = some (.ins C dx ((I.map (·.1)).zip vs))
  len : vs.length = I.length
  fa : F a = none
  na : H0 a = none
  fld : ∀ (i : Nat) (f : Str) (x : FV), I[i]? = some (f, x) → ∃ v, vs[i]? = some v ∧ FR K F H H0 a v x
  dist : ∀ (i j : Nat) (f g : Str) (c c' : Cont) (p : Addr), I[i]? = some (f, .ow c) → I[j]? = some (g, .ow c') → vs[i]? = some (.ref p) → vs[j]? = some (.ref p) → i = j
section
variable {K : PySem.W.Frag} {C a dx : Addr} {F0 H0 F H F' H' : Hp} {σ : L2.St} {ρ ρ1 : DEnv} {I : Flds} {vs : List V}
/-- the same instance in a later heap -/
theorem FR.mono {v : V} {x : FV} (h : FR K F H H0 a v x) (e : Same F F') (k : ∀ b o, H b = some o → F b = none → NT o → H' b = some o) (n : ∀ b, b ≠ a → F b = none → H b ≠ none → F' b = none) : FR K F' H' H0 a v x := by
  cases x with
  | d x => exact ⟨h.1.mono (.of e), h.2⟩
  | ow c =>
    obtain ⟨p, e1, e2, e3, e4, e5, e6⟩ := h
    obtain ⟨o, ho⟩ := e5.some
    exact ⟨p, e1, e2, n p e2 e3 (by rw [ho]; simp), e4, e5.mono (.of e) ((k p o ho e3 (e5.nt ho)).trans ho.symm), e6⟩
theorem okE_set0 (h : okE ρ = true) {x : D} : ∀ b, ¬ Ow σ (ρ.set 0 (.d x)) b := fun b ⟨i, c, m, e, _⟩ => by
  cases i with
  | zero =>
    by_cases hl : 0 < ρ.length
    · rw [List.getElem?_set_self hl] at e; cases e
    · rw [List.getElem?_eq_none (by rw [List.length_set]; omega)] at e; cases e
  | succ i =>
    rw [List.getElem?_set_ne (by omega)] at e
    rcases okE_get h e with z | ⟨x, z, _⟩ <;> cases z
/-- .. and it is its own again behind it -/
theorem ST.back {c : Str} {F1 H1 : Hp} (h : ST K C a dx F0 H0 σ ρ I vs F H) (s1 : SR K F1 H1 σ ρ1) (ev : Ev σ (ρ.set 0 (.d (vw c I))) (upd F a (.ins C dx ((I.map (·.1)).zip vs))) H σ ρ1 F1 H1) (ok : okE (ρ1.set 0 .un) = true) :
    F1 a = some (.ins C dx ((I.map (·.1)).zip vs)) ∧ ST K C a dx F0 H0 σ (ρ1.set 0 .un) I vs (dropA F1 a) H1 ∧ Same F (dropA F1 a) := by
  have fa1 : F1 a = some (.ins C dx ((I.map (·.1)).zip vs)) := ev.ext _ _ upd_same
  have sf0 : Same F (upd F a (.ins C dx ((I.map (·.1)).zip vs))) := froz_ext h.fa
  have sf : Same F (dropA F1 a) := fun b o e => by
    rw [dropA_ne (by rintro rfl; rw [h.fa] at e; cases e)]
    exact ev.ext _ _ (sf0 _ _ e)
  have no := okE_set0 (σ := σ) (x := vw c I) h.env
  have keep : ∀ b o, H b = some o → NT o → H1 b = some o := fun b o e n => ev.keep b o e (fun z => no b z.ow) n
  have ni : NT (.ins C dx ((I.map (·.1)).zip vs)) := fun ps z => by cases z
  have hl : 0 < ρ.length := (List.getElem?_eq_some_iff.mp h.r0).1
  have hl1 : 0 < ρ1.length := by rw [← s1.len, h.sr.len]; exact hl
  have nf : ∀ b, b ≠ a → F b = none → H b ≠ none → dropA F1 a b = none := fun b z e n => by
    rw [dropA_ne z]
    refine Classical.byContradiction fun q => ?_
    rcases ev.newF b (by rw [upd_ne z]; exact e) q with w | w
    · exact n w
    · exact no b w
  refine ⟨fa1, ⟨⟨by rw [List.length_set]; exact s1.len, fun b u e => ?_, fun i s e => ?_, fun i j c1 m c2 m' b e1 e2 e3 e4 => absurd ⟨i, c1, m, e1, e3⟩ (okE_now ok), s1.tab.tabs, fun p hp => ?_, fun b o e => sf _ _ (h.sr.tab.base _ _ e)⟩, ⟨h.ev.ext.trans sf, fun b o e n => keep b o (h.ev.keep b o e n) n, fun b e n => ?_, fun b n => ev.dom b (h.ev.dom b n)⟩, ok, h.s0, List.getElem?_set_self hl1, keep _ _ h.ins ni, h.len, dropA_self, h.na, fun i f x e => ?_, h.dist⟩, sf⟩
  · by_cases z : b = a
    · subst z; rw [dropA_self] at e; cases e
    · rw [dropA_ne z] at e; exact s1.sub b u e
  · cases i with
    | zero =>
      rw [List.getElem?_set_self hl1] at e
      cases e
      exact ⟨_, h.s0, trivial⟩
    | succ i =>
      have e' := e
      rw [List.getElem?_set_ne (by omega)] at e
      obtain ⟨ov, q1, q2⟩ := s1.slot _ _ e
      refine ⟨ov, q1, ?_⟩
      rcases okE_get ok e' with rfl | ⟨x, rfl, nx⟩
      · trivial
      · obtain ⟨v, q, r⟩ := q2; exact ⟨v, q, r.drop (drop_le fa1) nx⟩
  · by_cases z : p.1 = a
    · rw [z]; exact dropA_self
    · rw [dropA_ne z]; exact s1.tab.out p hp
  · have z : b ≠ a := fun z => by subst z; exact n dropA_self
    rw [dropA_ne z] at n
    by_cases q : F b = none
    · rcases ev.newF b (by rw [upd_ne z]; exact q) n with w | w
      · cases hb : H0 b with
        | none => rfl
        | some o => exact absurd w (h.ev.dom b (by rw [hb]; simp))
      · exact absurd w (no b)
    · exact h.ev.newF b e q
  · obtain ⟨v, q, r⟩ := h.fld i f x e
    exact ⟨v, q, r.mono sf (fun b o e _ n => keep b o e n) nf⟩
end
end DL
set_option maxHeartbeats 2000000
/-! DL95: __init__: values, tests, statements over the half-built instance. -/
namespace DL
open PySem PySem.Spec PyProof.Rows L2
variable [TabT]
abbrev MV := DEnv → Flds → Option (Val × DEnv)
abbrev MT := DEnv → Flds → Option (Bool × DEnv)
abbrev MI := DEnv → Flds → Option (DEnv × Flds)
section
variable {X : Cx} {W : WX} {C : Addr} {c : Str} {e e1 e2 k : Expr} {f : EM} {t : M Bool} {h h1 h2 : MV} {ht : MT} {g g1 g2 : MI} {st : Stmt} {sts sts' : List Stmt} {pos pos' : Pos}
/-- self.f[k], self.f a dict that is being filled -/
def FV.lk (I : Flds) (f : Str) : Option FV := I.lookup f
/-! ### statements -/
end
end DL
set_option maxHeartbeats 2000000
/-! DL96: __init__: stores into fields, loops, the end. -/
namespace DL
open PySem PySem.Spec PyProof.Rows L2
variable [TabT]
theorem nk_ins {b C dx : Addr} {fs : List (Str × V)} : ¬ KT b (.ins C dx fs) := fun z => by
  rcases z with ⟨ps, z⟩ | ⟨q, z⟩
  · cases z
  · unfold LamX.CodeO at z; cases z
section
variable {K : PySem.W.Frag} {C a dx : Addr} {F0 H0 F H F' H' : Hp} {σ σ' : L2.St} {ρ ρ' : DEnv} {I : Flds} {vs : List V}
/-- a step that changes no field -/
theorem ST.step (s : ST K C a dx F0 H0 σ ρ I vs F H) (sr : SR K F' H' σ' ρ') (ev : Ev σ ρ F H σ' ρ' F' H') (ok : okE ρ' = true) (e0 : σ'[0]? = σ[0]?) (r0 : ρ'[0]? = some .un) : ST K C a dx F0 H0 σ' ρ' I vs F' H' := by
  have no : ∀ b, ¬ Ow σ ρ b := fun b => okE_now s.env
  have keep : ∀ b o, H b = some o → NT o → H' b = some o := fun b o e n => ev.keep b o e (fun z => no b z.ow) n
  have nf : ∀ b, F b = none → H b ≠ none → F' b = none := fun b e n => by
    refine Classical.byContradiction fun q => ?_
    rcases ev.newF b e q with w | w
    · exact n w
    · exact no b w
  exact ⟨sr, s.ev.step no ev, ok, e0.trans s.s0, r0, keep _ _ s.ins (fun ps z => by cases z), s.len, nf a s.fa (by rw [s.ins]; simp), s.na, fun i f x e => let ⟨v, q, r⟩ := s.fld i f x e; ⟨v, q, r.mono ev.ext (fun b o e _ n => keep b o e n) fun b _ => nf b⟩, s.dist⟩
def setF (nm : Str) (fv : FV) : Flds → Flds
  | [] => []
  | (g, y) :: I => if (nm == g) = true then (g, fv) :: I else (g, y) :: setF nm fv I
theorem setF_len {nm : Str} {fv : FV} : ∀ {I : Flds}, (setF nm fv I).length = I.length
  | [] => rfl
  | (g, y) :: I => by unfold setF; split <;> simp [setF_len]
theorem setF_names {nm : Str} {fv : FV} : ∀ {I : Flds}, (setF nm fv I).map (·.1) = I.map (·.1)
  | [] => rfl
  | (g, y) :: I => by unfold setF; split <;> simp [setF_names]
/-- the object of a field is changed (o': what lies there now); frozen too, if F' says so -/
theorem ST.own (s : ST K C a dx F0 H0 σ ρ I vs F H) {nm : Str} {fv : FV} {c0 : Cont} {i : Nat} {p : Addr} {o o' : HO} (i1 : I[i]? = some (nm, .ow c0)) (i2 : vs[i]? = some (.ref p)) (i3 : (setF nm fv I)[i]? = some (nm, fv)) (i4 : ∀ j, j ≠ i → (setF nm fv I)[j]? = I[j]?)
    (hp : H p = some o) (nk : ¬ KT p o) (fr : F' = F ∨ F' = upd F p o') (r : FR K F' (upd H p o') H0 a (.ref p) fv) : ST K C a dx F0 H0 σ ρ (setF nm fv I) vs F' (upd H p o') := by
  obtain ⟨v, j1, p', j2, j3, j4, j5, j6, j7⟩ := s.fld i _ _ i1
  rw [i2] at j1
  cases j1
  cases j2
  have sf : Same F F' := by
    rcases fr with rfl | rfl
    · exact .refl _
    · exact froz_ext j4
  have fne : ∀ b, b ≠ p → F' b = F b := fun b z => by
    rcases fr with rfl | rfl
    · rfl
    · exact upd_ne z
  have no : ¬ Ow σ ρ p := okE_now s.env
  have sr1 : SR K F (upd H p o') σ ρ := sr_upd s.sr j4 no hp nk
  have sr2 : SR K F' (upd H p o') σ ρ := by
    rcases fr with rfl | rfl
    · exact sr1
    · refine ⟨sr1.len, fun b u e => ?_, fun i sl e => ?_, sr1.dist, s.sr.tab.frz hp nk j4⟩
      · by_cases z : b = p
        · subst z; rw [upd_same] at e ⊢; exact e
        · rw [upd_ne z] at e ⊢; exact s.sr.sub b u e
      · obtain ⟨ov, q1, q2⟩ := sr1.slot _ _ e
        refine ⟨ov, q1, ?_⟩
        rcases okE_get s.env e with rfl | ⟨x, rfl, _⟩
        · trivial
        · obtain ⟨v, q, r⟩ := q2; exact ⟨v, q, r.mono (.of sf)⟩
  refine ⟨sr2, ⟨s.ev.ext.trans sf, fun b o e n => ?_, fun b e n => ?_, fun b n => ?_⟩, s.env, s.s0, s.r0, ?_, by rw [setF_len]; exact s.len, ?_, s.na, fun j f x e => ?_, fun j k f g c c' q e1 e2 e3 e4 => ?_⟩
  · have hb : b ≠ p := fun z => by subst z; rw [j5] at e; cases e
    rw [upd_ne hb]; exact s.ev.keep b o e n
  · by_cases hb : b = p
    · subst hb; exact j5
    · rw [fne b hb] at n; exact s.ev.newF b e n
  · by_cases hb : b = p
    · subst hb; rw [upd_same]; simp
    · rw [upd_ne hb]; exact s.ev.dom b n
  · rw [upd_ne (Ne.symm j3), setF_names]; exact s.ins
  · rw [fne a (Ne.symm j3)]; exact s.fa
  · by_cases hj : j = i
    · subst hj
      rw [i3] at e
      cases e
      exact ⟨_, i2, r⟩
    · rw [i4 j hj] at e
      obtain ⟨v, q, rr⟩ := s.fld j f x e
      refine ⟨v, q, ?_⟩
      cases x with
      | d x => exact ⟨rr.1.mono (.of sf), rr.2⟩
      | ow c =>
        obtain ⟨p2, rfl, e2, e3, e4, e5, e6⟩ := rr
        have hne : p2 ≠ p := fun z => by subst z; exact hj (s.dist j i f nm c c0 p2 e i1 q i2)
        exact ⟨p2, rfl, e2, by rw [fne _ hne]; exact e3, e4, e5.mono (.of sf) (upd_ne hne), e6⟩
  · have low : ∀ {j : Nat} {f : Str} {c : Cont}, (setF nm fv I)[j]? = some (f, .ow c) → ∃ c2 f2, I[j]? = some (f2, .ow c2) := fun {j f c} e => by
      by_cases hj : j = i
      · subst hj; exact ⟨_, _, i1⟩
      · rw [i4 j hj] at e; exact ⟨_, _, e⟩
    obtain ⟨c2, f2, w1⟩ := low e1
    obtain ⟨c3, f3, w2⟩ := low e2
    exact s.dist j k f2 f3 c2 c3 q w1 w2 e3 e4
end
/-! ### o.f as a target -/
end DL
set_option maxHeartbeats 2000000
/-! DL97: __init__: a filled dict becomes data; the end: the instance is data. -/
namespace DL
open PySem PySem.Spec PyProof.Rows L2
/-! ### the making -/
end DL
set_option maxHeartbeats 2000000
/-! DL98: o.m() without arguments; calls in which a keyword-only parameter takes its default (a text). -/
namespace DL
open PySem PySem.Spec PyProof.Rows L2
end DL
set_option maxHeartbeats 2000000
/-! DL99: reading an __init__ (DL95 to DL97). -/
namespace DL
open PySem PySem.Spec PyProof.Rows L2
def MI.wp (g : MI) (ρ : DEnv) (I : Flds) (Q : DEnv → Flds → Prop) : Prop := match g ρ I with
  | some (ρ', I') => Q ρ' I'
  | none => False
def MV.wp (h : MV) (ρ : DEnv) (I : Flds) (Q : Val → DEnv → Prop) : Prop := match h ρ I with
  | some (x, ρ') => Q x ρ'
  | none => False
def MT.wp (h : MT) (ρ : DEnv) (I : Flds) (Q : Bool → DEnv → Prop) : Prop := match h ρ I with
  | some (x, ρ') => Q x ρ'
  | none => False
end DL
set_option maxHeartbeats 2000000
/-! DL100: sorted(set(t)) of a tuple of ints. -/
namespace DL
open PySem PySem.Spec PyProof.Rows L2
variable [TabT]
def setT (x : D) : Option (List Int) := match x with
  | .tup ds => match intsD ds with
    | some ns => if ns.length < 4000 then some ns else none
    | none => none
  | _ => none
def eSortSetT (f : EM) : EM := eUn (fun x => (setT x).map fun ns => .fr (.lst ((sortSetI ns).map D.int))) f
def sortSetTV (x : Val) : EM := unV (fun x => (setT x).map fun ns => .fr (.lst ((sortSetI ns).map D.int))) x
theorem b_sortSetT {f : EM} {ρ : DEnv} {Q : Val → DEnv → Prop} {X : Ex → DEnv → Prop} (q : (f ρ).wp (fun x ρ1 => (sortSetTV x ρ1).wp Q X) X) : (eSortSetT f ρ).wp Q X := b_un q
instance st_b_sortSetT {f : EM} {ρ : DEnv} {Q : Val → DEnv → Prop} {X : Ex → DEnv → Prop} : St ((eSortSetT f ρ).wp Q X) ((f ρ).wp (fun x ρ1 => (sortSetTV x ρ1).wp Q X) X) := ⟨b_sortSetT⟩
end DL
namespace CM
open PySem PySem.Spec PyProof.Rows L2 DL
/-! bad_values: slots 0 log, 1 tolerance, 2 fault -/
/-! height_at: slots 0 table, 1 place, 2 found, 3 here, 4 height -/
/-! Stretches_is_below: slots 0 self, 1 value, 2 place -/
/-! Stretches_sum_of: slots 0 self, 1 values, 2 value -/
/-! Stretches_inside: slots 0 self, 1 value, 2 other, 3 here, 4 found -/
/-! Stretches_gain: slots 0 self, 1 value, 2 other -/
/-! Stretches_raised: slots 0 self, 1 found, 2 value, 3 plain, 4 height, 5 place, 6 raiser, 7 entry -/
/-! Stretches_best: slots 0 self, 1 left, 2 found, 3 start, 4 place, 5 height, 6 value, 7 entry -/
/-! Stretches_set_aside: slots 0 self, 1 value, 2 kept, 3 gone -/
/-! is_table: slots 0 stretches, 1 value, 2 wide, 3 low, 4 high, 5 pair, 6 one, 7 other -/
/-! l_subsets: slots 0 some, 1 found, 2 one, 3 few -/
/-! l_slog: slots 0 pot_here, 1 off, 2 log_here -/
/-! l_stol: slots 0 pot_here, 1 log_here, 2 bound, 3 near -/
/-! l_fewest: slots 0 log_here, 1 tolerance_here, 2 is_many, 3 found, 4 gone, 5 weight, 6 one -/
/-! l_sweight: slots 0 log_here, 1 gone, 2 word, 3 one -/
/-! Stretches: slots 0 self, 1 log, 2 tolerance, 3 by, 4 operation, 5 value, 6 first, 7 last -/
/-! fewest_aside: slots 0 log, 1 tolerance, 2 by, 3 found -/
/-! aside: slots 0 log, 1 tolerance, 2 by -/
/-! heights: slots 0 log, 1 tolerance, 2 by, 3 place, 4 height, 5 value -/
/-! are_values: slots 0 stretches, 1 value, 2 one -/
/-! shows_aside: slots 0 log, 1 tolerance, 2 value, 3 by, 4 stretches, 5 last, 6 weight, 7 some, 8 table -/
end CM
set_option maxHeartbeats 4000000
/-! DL101: a tuple times any small int (0, 1 and negative ones too). -/
namespace L2
open PySem PySem.Spec PyProof.Rows
end L2
namespace DL
open PySem PySem.Spec PyProof.Rows L2
end DL
namespace CM
open PySem PySem.Spec PyProof.Rows L2 DL
/-! l_bad: slots 0 log_here, 1 tolerance_here, 2 one, 3 writes, 4 found -/
/-! l_is_low: slots 0 one, 1 place -/
/-! l_known: slots 0 log_here, 1 tolerance_here, 2 is_many, 3 found, 4 gone, 5 value, 6 first, 7 last, 8 many, 9 one -/
/-! l_wide: slots 0 known_here, 1 value, 2 begin, 3 end, 4 many -/
/-! l_gain: slots 0 known_here, 1 value, 2 wide_here, 3 begin, 4 end, 5 many, 6 other, 7 low, 8 high, 9 its -/
/-! l_height: slots 0 table, 1 place, 2 some, 3 here, 4 height_here -/
/-! l_is_table: slots 0 known_here, 1 table, 2 far, 3 pair, 4 value, 5 begin, 6 end, 7 many, 8 one, 9 two -/
/-! l_left_weight: slots 0 log_here, 1 tolerance_here, 2 is_many, 3 table, 4 wide_here, 5 low, 6 known_here, 7 total, 8 value, 9 begin, 10 end, 11 many -/
end CM
set_option maxHeartbeats 1000000
/-! DL102: sorted() of a tuple of data. -/
namespace DL
open PySem PySem.Spec PyProof.Rows L2
end DL
set_option maxHeartbeats 2000000
/-! DL103: a dict of an instance that holds answers that are known already: opened and closed. -/
namespace DL
open PySem PySem.Spec PyProof.Rows L2
end DL
set_option maxHeartbeats 2000000
/-! DL104: an __init__ of the form self.a = e; two plain statements; self.b = e'; self.c = {}, where c is a store of known answers. -/
namespace DL
open PySem PySem.Spec PyProof.Rows L2
variable [TabT]
/-! ### the making -/
/-! ### the half-built instance -/
structure HB (K : PySem.W.Frag) (C a dx : Addr) (F0 H0 : Hp) (σ : L2.St) (ρ : DEnv) (F H : Hp) (fs : List (Str × V)) : Prop where
  sr : SR K F H σ ρ
  ha : H a = some (.ins C dx fs)
  na : H0 a = none
  fa : F a = none
  ext : Same F0 F
  keep : ∀ b o, H0 b = some o → NT o → H b = some o
  newF : ∀ b, F0 b = none → F b ≠ none → H0 b = none
  dom : ∀ b, H0 b ≠ none → H b ≠ none
  own : ∀ b, Ow σ ρ b → H0 b = none ∧ b ≠ a
section
variable {K : PySem.W.Frag} {C a dx : Addr} {F0 H0 F H F' H' : Hp} {σ σ' : L2.St} {ρ ρ' : DEnv} {fs fs' : List (Str × V)}
theorem HB.step (h : HB K C a dx F0 H0 σ ρ F H fs) (sr : SR K F' H' σ' ρ') (ev : Ev σ ρ F H σ' ρ' F' H') : HB K C a dx F0 H0 σ' ρ' F' H' fs where
  sr := sr
  ha := ev.keep a _ h.ha (fun z => (h.own a z.ow).2 rfl) (fun ps z => by cases z)
  na := h.na
  fa := Classical.byContradiction fun z => by
    rcases ev.newF a h.fa z with w | w
    · rw [h.ha] at w; cases w
    · exact (h.own a w).2 rfl
  ext := h.ext.trans ev.ext
  keep := fun b o e n => ev.keep b o (h.keep b o e n) (fun z => by rw [(h.own b z.ow).1] at e; cases e) n
  newF := fun b e n => by
    by_cases q : F b = none
    · rcases ev.newF b q n with w | w
      · cases hb : H0 b with
        | none => rfl
        | some o => exact absurd w (h.dom b (by rw [hb]; simp))
      · exact (h.own b w).1
    · exact h.newF b e q
  dom := fun b e => ev.dom b (h.dom b e)
  own := fun b e => by
    rcases ev.own' b e with w | w
    · refine ⟨?_, fun z => by subst z; rw [h.ha] at w; cases w⟩
      cases hb : H0 b with
      | none => rfl
      | some o => exact absurd w (h.dom b (by rw [hb]; simp))
    · exact h.own b w
theorem HB.fld (h : HB K C a dx F0 H0 σ ρ F H fs) : HB K C a dx F0 H0 σ ρ F (upd H a (.ins C dx fs')) fs' where
  sr := sr_upd h.sr h.fa (fun z => (h.own a z).2 rfl) h.ha nk_ins
  ha := upd_same
  na := h.na
  fa := h.fa
  ext := h.ext
  keep := fun b o e n => by rw [upd_ne (fun z => by subst z; rw [h.na] at e; cases e)]; exact h.keep b o e n
  newF := h.newF
  dom := fun b e => by
    by_cases z : b = a
    · subst z; rw [upd_same]; simp
    · rw [upd_ne z]; exact h.dom b e
  own := h.own
end
end DL
set_option maxHeartbeats 2000000
/-! DL105: a method that looks for its answer among those that are known, works it out otherwise. -/
namespace DL
open PySem PySem.Spec PyProof.Rows L2
end DL
set_option maxHeartbeats 1000000
/-! DL106: reading rules for instances with a store of known answers. -/
namespace DL
open PySem PySem.Spec PyProof.Rows L2
end DL
set_option maxHeartbeats 2000000
/-! DL107: sorted(d), a dict with int keys; name += e, ints. -/
namespace DL
open PySem PySem.Spec PyProof.Rows L2
/-! ### name += e -/
end DL
namespace CM
open PySem PySem.Spec PyProof.Rows L2 DL
end CM
set_option maxHeartbeats 1000000
/-! DL108: a call by names alone that leaves the last parameter (a text) to its default. -/
namespace DL
open PySem PySem.Spec PyProof.Rows L2
end DL
set_option maxHeartbeats 1000000
/-! DL109: an exception is made and kept as a value. -/
namespace DL
open PySem PySem.Spec PyProof.Rows L2
end DL
set_option maxHeartbeats 1000000
/-! DL110: an exception made with arguments by name. -/
namespace PySem
end PySem
namespace DL
open PySem PySem.Spec PyProof.Rows L2
end DL
set_option maxHeartbeats 1000000
/-! DL111: an exception without fields, made and kept as a value. -/
namespace DL
open PySem PySem.Spec PyProof.Rows L2
end DL
set_option maxHeartbeats 1000000
/-! DL112: exceptions as values: the rules with bundles; reading. -/
namespace DL
open PySem PySem.Spec PyProof.Rows L2
/-! ### reading -/
end DL
set_option maxHeartbeats 1000000
/-! DL114: thunks that change what they captured: the call of the thunk, the statement that asks, the def. -/
namespace DL
open PySem PySem.Spec PyProof.Rows L2 LamX
/-- what a thunk does at a heap -/
abbrev TH := Hp → VK → XK → Prop
/-- a statement that asks its thunk once: the slots ahead of the asking, then by the thunk's outcome -/
abbrev Ask := DEnv → Option (RF → RS)
abbrev AskF := DEnv → Option (RF → RF)
section
variable [TabT] {K : PySem.W.Frag} {mg : Str → Option Value} {σ σ1 : L2.St} {ρ ρ1 : DEnv} {F H F0 H0 F1 H1 F2 H2 : Hp}
theorem no_ow_nil {a : Addr} : ¬ Ow [] [] a := fun ⟨i, c, m, h, _⟩ => by simp at h
theorem sr_bare (s : SR K F H σ ρ) : SR K F H [] [] := sr_nil s.sub s.tab
/-- all that is owned is new: seen from before -/
theorem nw_step (e0 : Ev [] [] F0 H0 [] [] F H) (nw : ∀ a, Ow σ ρ a → H0 a = none) (ev : Ev σ ρ F H σ1 ρ1 F1 H1) : Ev [] [] F0 H0 [] [] F1 H1 ∧ ∀ a, Ow σ1 ρ1 a → H0 a = none := by
  have back : ∀ {a : Addr}, H a = none → H0 a = none := fun {a} e => by
    cases q : H0 a with
    | none => rfl
    | some o => exact absurd e (e0.dom a (by rw [q]; simp))
  refine ⟨⟨e0.ext.trans ev.ext, fun a o e _ nt => ev.keep a o (e0.keep a o e (fun z => no_ow_nil z.ow) nt) (fun z => ?_) nt, fun a e n => ?_, fun a h => ev.dom a (e0.dom a h), fun i c m e => by simp at e, fun a z => absurd z no_ow_nil, fun a z => absurd z.ow no_ow_nil⟩, fun a z => ?_⟩
  · rw [nw a z.ow] at e; cases e
  · by_cases q : F a = none
    · rcases ev.newF a q n with z | z
      · exact .inl (back z)
      · exact .inl (nw a z)
    · exact e0.newF a e q
  · rcases ev.own' a z with z | z
    · exact back z
    · exact nw a z
/-- all owned things stand as they were -/
theorem sr_emb (s : SR K F H σ ρ) (e : Ev [] [] F H [] [] F1 H1) (s1 : SR K F1 H1 [] []) : SR K F1 H1 σ ρ ∧ Ev σ ρ F H σ ρ F1 H1 := by
  refine ⟨⟨s.len, s1.sub, fun i t h => ?_, s.dist, s1.tab⟩, ⟨e.ext, fun a o h n nt => e.keep a o h (fun z => no_ow_nil z.ow) nt, fun a h n => (e.newF a h n).imp id fun z => absurd z no_ow_nil, e.dom, fun i c m h _ => ⟨rfl, c, h, fun _ => rfl⟩, fun _ h => .inr h, fun _ h => .inr h⟩⟩
  obtain ⟨ov, h1, h2⟩ := s.slot i t h
  refine ⟨ov, h1, ?_⟩
  cases t with
  | un => trivial
  | d x => obtain ⟨v, q, r⟩ := h2; exact ⟨v, q, r.mono (.of e.ext)⟩
  | ow c m =>
    obtain ⟨a, q, fn, r⟩ := h2
    obtain ⟨o, ho⟩ := r.some
    have k := e.keep a o ho (fun z => no_ow_nil z.ow) (CRep.nt ho r)
    refine ⟨a, q, ?_, r.mono (.of e.ext) (k.trans ho.symm)⟩
    cases hF : F1 a with
    | none => rfl
    | some u =>
      rcases e.newF a fn (by rw [hF]; simp) with z | z
      · rw [ho] at z; cases z
      · exact absurd z no_ow_nil
/-- the data alone, later -/
theorem sr_dataE (s : SR K F H σ ρ) (h : Same F F1) (s1 : SR K F1 H1 [] []) : SR K F1 H1 σ (dataOnly ρ) := by
  refine ⟨by rw [dataOnly_len]; exact s.len, s1.sub, fun i t e => ?_, fun i j c m c' m' a e => ?_, s1.tab⟩
  · rcases dataOnly_get e with ⟨x, rfl, e2⟩ | ⟨rfl, t, e2⟩
    · obtain ⟨ov, h1, v, h2, r⟩ := s.slot i _ e2
      exact ⟨ov, h1, v, h2, r.mono (.of h)⟩
    · obtain ⟨ov, h1, _⟩ := s.slot i _ e2
      exact ⟨ov, h1, trivial⟩
  · rcases dataOnly_get e with ⟨x, e2, _⟩ | ⟨e2, _⟩ <;> cases e2
theorem ev_data (e : Ev [] [] F H [] [] F1 H1) : Ev [] [] F H σ (dataOnly ρ) F1 H1 :=
  ⟨e.ext, e.keep, e.newF, e.dom, fun i c m h => by simp at h, fun a z => absurd z dataOnly_now, fun a z => absurd z.ow dataOnly_now⟩
theorem ev_bare (e : Ev [] [] F H σ ρ F1 H1) : Ev [] [] F H [] [] F1 H1 :=
  ⟨e.ext, e.keep, e.newF, e.dom, fun i c m h => by simp at h, fun a z => absurd z no_ow_nil, fun a z => absurd z.ow no_ow_nil⟩
theorem OutS.sub {W : WX} {r : RS} {D D' : Ends} (h : OutS K mg W σ ρ F H r D) (h1 : ∀ σ H, D.nx σ H → D'.nx σ H) (h2 : ∀ v H, D.rt v H → D'.rt v H) (h3 : D.bk = D'.bk) (h4 : D.ct = D'.ct) : OutS K mg W σ ρ F H r D' := by
  cases r with
  | nx ρ' => exact fun σ' F' H' s e => h1 _ _ (h σ' F' H' s e)
  | bk ρ' => intro σ' F' H' s e; rw [← h3]; exact h σ' F' H' s e
  | ct ρ' => intro σ' F' H' s e; rw [← h4]; exact h σ' F' H' s e
  | rt x ρ' => exact fun v σ' F' H' s e r => h2 _ _ (h v σ' F' H' s e r)
  | ex x ρ' => exact h
  | bad => exact h
/-- the knowledge of the thunk, from (F0, H0) on -/
def ThKn (K : PySem.W.Frag) (mg : Str → Option Value) (W : WX) (th : TH) (F0 H0 : Hp) (k : RF → RS) (D : Ends) : Prop :=
  ∀ F1 H1, SR K F1 H1 [] [] → Ev [] [] F0 H0 [] [] F1 H1 → th H1 (fun v H2 => ∃ F2 d, SR K F2 H2 [] [] ∧ Same F1 F2 ∧ Rep K F2 v d ∧ OutS K mg W [] [] F2 H2 (k (.ret (.d d) [])) D)
    (fun c dd H2 => ∃ F2 x, SR K F2 H2 [] [] ∧ Same F1 F2 ∧ XR K mg F2 x c dd ∧ OutS K mg W [] [] F2 H2 (k (.ex x [])) D)
def ThKf (K : PySem.W.Frag) (mg : Str → Option Value) (E : XK) (th : TH) (F0 H0 : Hp) (k : RF → RF) (Q : VK) : Prop :=
  ∀ F1 H1, SR K F1 H1 [] [] → Ev [] [] F0 H0 [] [] F1 H1 → th H1 (fun v H2 => ∃ F2 d, SR K F2 H2 [] [] ∧ Same F1 F2 ∧ Rep K F2 v d ∧ OutF K mg E [] [] F2 H2 (k (.ret (.d d) [])) Q)
    (fun c dd H2 => ∃ F2 x, SR K F2 H2 [] [] ∧ Same F1 F2 ∧ XR K mg F2 x c dd ∧ OutF K mg E [] [] F2 H2 (k (.ex x [])) Q)
def tAsk (K : PySem.W.Frag) (mg : Str → Option Value) (W : WX) (th : TH) (B : Ask) : TS := fun D σ H => ∃ F0 H0 F ρ k, SR K F H σ ρ ∧ SR K F0 H0 [] [] ∧ Ev [] [] F0 H0 [] [] F H ∧ (∀ a, Ow σ ρ a → H0 a = none) ∧ B ρ = some k ∧ ThKn K mg W th F0 H0 k D
def spE (K : PySem.W.Frag) (mg : Str → Option Value) (n : Nat) (Bf : AskF) (th : TH) : Sp := fun vs H Q E => ∃ F as k, SR K F H (vs.map some) as ∧ as.length = n ∧ (∀ a, ¬ Ow (vs.map some) as a) ∧ Bf as = some k ∧ ThKf K mg E th F H k Q
end
def MonoT (th : TH) : Prop := ∀ H (Q Q' : VK) (E E' : XK), (∀ v H, Q v H → Q' v H) → (∀ c d H, E c d H → E' c d H) → th H Q E → th H Q' E'
/-- p, made at s, is a function without parameters that does th -/
structure ThunkE [TabT] (P : Program) (w : World) (K : PySem.W.Frag) (mg : Str → Option Value) (base : Heap) (k : Nat) (fs : List Addr) (s : Shared) (H : Hp) (p : Addr) (th : TH) : Prop where
  obj : PySem.W.FnAt p s.heap
  free : H p = none
  nofs : p ∉ fs
  mono : MonoT th
  run : ∀ (A : Around) (outer : List Env) (s1 : Shared) (HZ : Hp) (Q : VK) (E : XK), Room (k + 1) A → NoGd A → Env0 P w K mg base A outer s1 HZ → Un fs [] H HZ s.heap s1.heap → th HZ Q E →
    codeAny (model P w) A (.call (.ref p) ⟨[], []⟩) (CR (L2.CX P w) outer P w HZ s1 Q E) s1
/-- a def that calls its first argument, a thunk -/
structure GThE [TabT] (Γ : Around → Prop) (P : Program) (w : World) (K : PySem.W.Frag) (mg : Str → Option Value) (base : Heap) (k kt : Nat) (f : Addr) (fd : FuncData) (ps : List Str) (Bf : Addr → AskF) : Prop where
  run : ∀ (A : Around) (outer : List Env) (s : Shared) (H : Hp) (args : Args) (us : List Value) (vs : List V) (Q : VK) (E : XK) (p : Addr) (th : TH), Room k A → Γ A → Env0 P w K mg base A outer s H → BindsTo s fd args (ps.zip us) → Vals vs us → ThunkE P w K mg base kt (frs outer) s H p th →
    spE K mg ps.length (Bf p) th vs H Q E → codeAny (model P w) A (.call (.ref f) args) (CR (L2.CX P w) outer P w H s Q E) s
section
variable [TabT] {K : PySem.W.Frag} {mg : Str → Option Value} {σ σ1 : L2.St} {ρ ρ1 : DEnv} {F H F0 H0 F1 H1 F2 H2 : Hp} {th : TH} {W W' : WX} {D D' : Ends} {k k' : RF → RS}
theorem ThKn.sub (m : MonoT th) (h : ThKn K mg W th F0 H0 k D) (c : ∀ r F2 H2, SR K F2 H2 [] [] → OutS K mg W [] [] F2 H2 (k r) D → OutS K mg W' [] [] F2 H2 (k' r) D') : ThKn K mg W' th F0 H0 k' D' := fun F1 H1 s e =>
  m _ _ _ _ _ (fun v H2 ⟨F2, d, a, b, r, o⟩ => ⟨F2, d, a, b, r, c _ _ _ a o⟩) (fun cl dd H2 ⟨F2, x, a, b, r, o⟩ => ⟨F2, x, a, b, r, c _ _ _ a o⟩) (h F1 H1 s e)
theorem ThunkE.on {P : Program} {w : World} {base : Heap} {k : Nat} {fs fs' : List Addr} {s s1 : Shared} {p : Addr} (T : ThunkE P w K mg base k fs s H p th) (u : Un fs [] H H1 s.heap s1.heap) (hf : ∀ b ∈ fs', b ∈ fs ∨ s.heap.get? b = none) : ThunkE P w K mg base k fs' s1 H1 p th := by
  obtain ⟨oc, od, fd, osl, hobj⟩ := T.obj
  refine ⟨⟨_, _, _, _, u.keep p _ hobj T.free T.nofs (by simp)⟩, u.free p _ hobj T.free (by simp), fun z => ?_, T.mono, fun A outer s2 HZ Q E hr hG e0 un hsp => T.run A outer s2 HZ Q E hr hG e0 (un_deep u un hf) hsp⟩
  rcases hf p z with z | z
  · exact T.nofs z
  · rw [hobj] at z; cases z
end
/-! ### statements that ask -/
section
variable [TabT] {X : Cx} {W : WX} {th : TH} {B : Ask} {st : Stmt} {sts : List Stmt} {g : SM} {pos : Pos}
def preA (g : SM) (B : Ask) : Ask := fun ρ => match g ρ with
  | .nx ρ1 => B ρ1
  | _ => none
def postA (B : Ask) (g : SM) : Ask := fun ρ => (B ρ).map fun k r => match k r with
  | .nx ρ1 => g ρ1
  | r => r
theorem ask_pre (hd : DS X W st g) (h : PSs X sts (tAsk X.K X.mg W th B)) : PSs X (st :: sts) (tAsk X.K X.mg W th (preA g B)) := pss_conseq (pss_cons hd h) fun D σ H ⟨F0, H0, F, ρ, k, sr, s0, e0, nw, hB, kn⟩ => by
  unfold preA at hB
  cases hg : g ρ with
  | nx ρ1 =>
    rw [hg] at hB
    refine ⟨F, ρ, sr, ?_⟩
    rw [hg]
    intro σ' F' H' s ev
    obtain ⟨e1, nw1⟩ := nw_step e0 nw ev
    exact ⟨F0, H0, F', ρ1, k, s, s0, e1, nw1, hB, kn⟩
  | rt x ρ' => rw [hg] at hB; cases hB
  | bk ρ' => rw [hg] at hB; cases hB
  | ct ρ' => rw [hg] at hB; cases hB
  | ex x ρ' => rw [hg] at hB; cases hB
  | bad => rw [hg] at hB; cases hB
theorem ask_one (h : PS X st (tAsk X.K X.mg W th B)) : PSs X [st] (tAsk X.K X.mg W th B) := pss_conseq (pss_one h) fun D σ H hq => hq
theorem ask_post (m : MonoT th) (h : PS X st (tAsk X.K X.mg W th B)) (hd : DSs X W sts g) : PSs X (st :: sts) (tAsk X.K X.mg W th (postA B g)) := pss_conseq (pss_cons h hd) fun D σ H ⟨F0, H0, F, ρ, k, sr, s0, e0, nw, hB, kn⟩ => by
  unfold postA at hB
  cases q : B ρ with
  | none => rw [q] at hB; cases hB
  | some k0 =>
    rw [q] at hB
    cases hB
    refine ⟨F0, H0, F, ρ, k0, sr, s0, e0, nw, q, kn.sub m fun r F2 H2 s2 o => ?_⟩
    dsimp only at o
    cases hk : k0 r with
    | nx ρ1 => rw [hk] at o; exact fun σ' F' H' s ev => ⟨F', ρ1, s, o.from ev⟩
    | rt x ρ' => rw [hk] at o; exact o
    | bk ρ' => rw [hk] at o; exact o
    | ct ρ' => rw [hk] at o; exact o
    | ex x ρ' => rw [hk] at o; exact o
    | bad => rw [hk] at o; exact o
/-- the thunk stands in slot j -/
def isTh (j : Nat) (p : Addr) (ρ : DEnv) : Bool := match ρ[j]? with
  | some (.d (.set [q])) => decide (q = Int.ofNat p)
  | _ => false
theorem isTh_at {j : Nat} {p : Addr} {ρ : DEnv} {K : PySem.W.Frag} {F H : Hp} {σ : L2.St} (sr : SR K F H σ ρ) (h : isTh j p ρ = true) : σ[j]? = some (some (.ref p)) := by
  unfold isTh at h
  split at h
  · rename_i q e
    obtain ⟨ov, h1, v, h2, r⟩ := sr.slot j _ e
    have h := of_decide_eq_true h
    subst h2
    cases r with
    | pt a =>
      have : a = p := Int.ofNat.inj h
      rw [← this]; exact h1
  · cases h
def tAskE (th : TH) (W : WX) (j : Nat) (p : Addr) : TE := fun σ H Q => σ[j]? = some (some (.ref p)) ∧ th H Q (fun c d H' => W c d σ H')
theorem pe_ask {kt : Nat} {p : Addr} {a : Str} {p1 p2 : Pos} (j : Nat) (T : ThunkE X.prog X.w X.K X.mg X.base kt X.fs X.s_0 X.H_0 p th) (hex : X.ex = []) (hr : Room (kt + 1) X.A) (hG : NoGd X.A) (tk : Takes X W)
    (hN : X.N[j]? = some a := by rfl) (hv : Vis X.env.scope a := by first | exact .inl rfl | exact .inr (.inl rfl)) (hd : (a == ("__debug__" : Str)) = false := by decide) (hcd : (a == ("__classdict__" : Str)) = false := by decide) :
    PE X (.Call (.Name a p1) [] [] p2) (tAskE th W j p) := by
  refine ⟨fun pins s σ H Q I hq => ?_⟩
  obtain ⟨h1, q⟩ := hq
  refine wpAny_Call_Name_kw (thn ((pe_var (pos := p1) (i := j) hN hv hd hcd).run pins s σ H (fun v H1 => v = .ref p ∧ H1 = H) I ⟨.ref p, h1, rfl, rfl⟩) fun u s1 ⟨v, H1, I1, r1, q1⟩ => ?_)
  obtain ⟨ev, eH⟩ := q1
  subst ev
  rw [eH] at I1
  obtain rfl : u = Value.ref p := r1
  obtain ⟨oc, od, fd, osl, hobj⟩ := T.obj
  have nx : p ∉ X.ex := by rw [hex]; simp
  have of1 := I1.base.keep p _ hobj T.free T.nofs nx
  have un : Un X.fs [] X.H_0 H X.s_0.heap s1.heap := by
    have := I1.base
    rw [hex] at this
    exact this
  refine PySem.W.callWith_F0 ⟨_, _, _, _, of1⟩ (wpAny_call (codeAny_mono (T.run X.A X.stack s1 H Q (fun c d H => W c d σ H) hr hG I1.env0 un q) fun r' s' hq => ?_))
  cases r' with
  | error e => exact tk e s' (XE.of_call I1 (fun cls d H' h => h) hq)
  | ok fl =>
    cases fl with
    | ret u => exact I1.after hq
    | next => exact hq
    | brk => exact hq
    | cont => exact hq
/-- ask() -/
def expA (j : Nat) (p : Addr) : Ask := fun ρ => if isTh j p ρ = true then some fun r => match r with
  | .ret (.d _) _ => .nx (dataOnly ρ)
  | .ex x _ => .ex x (dataOnly ρ)
  | _ => .bad else none
theorem ask_expr {e : Expr} {j : Nat} {p : Addr} (m : MonoT th) (he : PE X e (tAskE th W j p)) (hs : swapsWith e none pos.line X.env = pure false := by rfl) : PS X (.Expr e pos) (tAsk X.K X.mg W th (expA j p)) := ps_conseq (ps_expr he hs) fun D σ H ⟨F0, H0, F, ρ, k, sr, s0, e0, nw, hB, kn⟩ => by
  unfold expA at hB
  split at hB
  · rename_i hj
    cases hB
    refine ⟨isTh_at sr hj, m _ _ _ _ _ (fun v H2 ⟨F2, d, a, b, r, o⟩ => ?_) (fun cl dd H2 ⟨F2, x, a, b, r, o⟩ => ?_) (kn F H (sr_bare sr) e0)⟩
    · exact o σ F2 H2 (sr_dataE sr b a) (ev_data .refl)
    · exact o cl dd σ F2 H2 (sr_dataE sr b a) (ev_data .refl) r
  · cases hB
/-- try: .. except .. as ..: .. -/
def tryA (es : List Str) (B : Ask) (cl : List (Str × Option Nat × SM)) : Ask := fun ρ => (B ρ).map fun k r => match k r with
  | .ex x ρ1 => if es.contains x.c = true then tryH es cl x ρ1 else .bad
  | r => r
theorem ask_try {es : List Str} {body : List Stmt} {h₀ : ExceptHandler} {hds : List ExceptHandler} {cl : List (Str × Option Nat × SM)} {l : List (Value × Option Nat × TS)} (m : MonoT th) (hmg : MgT.mg = X.mg) (hs : X.stack = X.env :: X.outer) (hf : X.env.frame = some X.env.locals) (hex : X.ex = []) (tk : Takes X W)
    (hb : ∀ (W : WX) (pn : List (Addr × Obj)) (xe : Value → Shared → Prop), Takes (X.tr pn xe) W → PassesOwn (model X.prog X.w) X.A X.env xe → PSs (X.tr pn xe) body (tAsk X.K X.mg W th B)) (hc : ClD X es (h₀ :: hds) cl l) : PS X (.Try body (h₀ :: hds) [] [] pos) (tAsk X.K X.mg W th (tryA es B cl)) :=
  ps_conseq (ps_try_cl (tb := fun W => tAsk X.K X.mg W th B) hs hf hex tk hb hc.cl) fun D σ H ⟨F0, H0, F, ρ, k, sr, s0, e0, nw, hB, kn⟩ => by
    unfold tryA at hB
    cases q : B ρ with
    | none => rw [q] at hB; cases hB
    | some k0 =>
      rw [q] at hB
      cases hB
      refine ⟨F0, H0, F, ρ, k0, sr, s0, e0, nw, q, kn.sub m fun r F2 H2 s2 o => ?_⟩
      dsimp only at o
      cases hk : k0 r with
      | nx ρ1 => rw [hk] at o; exact o
      | rt x ρ' => rw [hk] at o; exact o
      | bk ρ' => rw [hk] at o; exact o
      | ct ρ' => rw [hk] at o; exact o
      | bad => rw [hk] at o; exact o
      | ex x ρ1 =>
        rw [hk] at o
        dsimp only at o
        by_cases hx : es.contains x.c = true
        · rw [if_pos hx] at o
          exact fun cls dd σ' F' H' s e xr => tryH_ok hmg hc (List.contains_iff_mem.mp hx) s xr (o.from e)
        · rw [if_neg hx] at o
          exact o.elim
/-- f(ask) -/
def tPassE (K : PySem.W.Frag) (mg : Str → Option Value) (th : TH) (W : WX) (j : Nat) (p : Addr) (Bf : AskF) : TE := fun σ H Q => σ[j]? = some (some (.ref p)) ∧ spE K mg 1 Bf th [.ref p] H Q (fun c d H' => W c d σ H')
theorem pe_pass {k kt : Nat} {p f : Addr} {fd : FuncData} {q1 x a : Str} {Bf : Addr → AskF} {p1 p2 pos : Pos} (j : Nat) (G : GThE NoGd X.prog X.w X.K X.mg X.base k kt f fd [q1] Bf) (T : ThunkE X.prog X.w X.K X.mg X.base kt X.fs X.s_0 X.H_0 p th) (hex : X.ex = []) (hfr : ∀ b ∈ frs X.stack, b ∈ X.fs ∨ X.s_0.heap.get? b = none) (hr : Room k X.A) (hG : NoGd X.A) (tk : Takes X W) (hg : Gl X x) (hm : X.mg x = some (.ref f)) (hk : PySem.W.keepIn X.K (.ref f) = true) (hb : Binds X.K fd [q1] [])
    (hN : X.N[j]? = some a := by rfl) (hv : Vis X.env.scope a := by first | exact .inl rfl | exact .inr (.inl rfl)) (hd : (a == ("__debug__" : Str)) = false := by decide) (hcd : (a == ("__classdict__" : Str)) = false := by decide)
    (hdb : (x == ("__debug__" : Str)) = false := by decide) (he : starEach [.Name a p1] X.env = (false, eval (.Name a p1) X.env) :: starEach [] X.env := by rfl) (hpl : (backTo pos (starEach [] X.env)).any (·.1) = false := by rfl) :
    PE X (.Call (.Name x p2) [.Name a p1] [] pos) (tPassE X.K X.mg th W j p (Bf p)) := by
  refine ⟨fun pins s σ H Q I hq => ?_⟩
  obtain ⟨h1, q⟩ := hq
  refine wpAny_Call_Name_kw (ld_glob I hg hm (PySem.W.callWith_K (h₀ := X.base) I.ok.mod.kin hk (Calls.spliced_cons (thn ((pe_var (pos := p1) (i := j) hN hv hd hcd).run pins s σ H (fun v H1 => v = .ref p ∧ H1 = H) I ⟨.ref p, h1, rfl, rfl⟩) fun u s1 ⟨v, H1, I1, r1, q1⟩ => Calls.spliced_nil ⟨I1.kIn, wpAny_call ?_⟩)) he hpl) hdb)
  obtain ⟨ev, eH⟩ := q1
  subst ev
  rw [eH] at I1
  obtain rfl : u = Value.ref p := r1
  have un : Un X.fs [] X.H_0 H X.s_0.heap s1.heap := by
    have := I1.base
    rw [hex] at this
    exact this
  have hb' : BindsTo s1 fd ⟨[.ref p], []⟩ ([q1].zip [Value.ref p]) := hb s1 [.ref p] I1.kIn rfl
  refine codeAny_mono (G.run X.A X.stack s1 H ⟨[.ref p], []⟩ [.ref p] [.ref p] Q (fun c d H => W c d σ H) p th hr hG I1.env0 hb' (.cons rfl .nil) (T.on un hfr) q) fun r' s' hq => ?_
  cases r' with
  | error e => exact tk e s' (XE.of_call I1 (fun cls d H' h => h) hq)
  | ok fl =>
    cases fl with
    | ret u => exact I1.after hq
    | next => exact hq
    | brk => exact hq
    | cont => exact hq
/-- x = f(ask) -/
def passA (i j : Nat) (p : Addr) (Bf : AskF) : Ask := fun ρ => if isTh j p ρ = true then (Bf [.d (.set [Int.ofNat p])]).map fun k r => match k r with
  | .ret (.d d) _ => put i (.d d) (dataOnly ρ)
  | .ret (.fr c) _ => put i (.ow c .own) (dataOnly ρ)
  | .ex x _ => .ex x (dataOnly ρ)
  | _ => .bad else none
theorem ask_pass {e : Expr} (i : Nat) {j : Nat} {p : Addr} {x : Str} {pos' : Pos} {Bf : AskF} (m : MonoT th) (hN : X.N.Nodup) (he : PE X e (tPassE X.K X.mg th W j p Bf)) (hi : X.N[i]? = some x := by rfl) (hx : Loc X.env.scope x := by first | exact .inl rfl | exact .inr rfl) (hs : swapsWith e (some (.Name x pos')) pos.line X.env = pure false := by rfl) (hf : X.fn x = true ∨ X.env.scope.names.lookup x = some .local := by first | exact .inl rfl | exact .inr rfl) :
    PS X (.Assign [.Name x pos'] e pos) (tAsk X.K X.mg W th (passA i j p Bf)) := ps_conseq (ps_set hN hi hx he hs hf) fun D σ H ⟨F0, H0, F, ρ, k, sr, s0, e0, nw, hB, kn⟩ => by
  unfold passA at hB
  split at hB
  · rename_i hj
    cases hq : Bf [.d (.set [Int.ofNat p])] with
    | none => rw [hq] at hB; cases hB
    | some k0 =>
      rw [hq] at hB
      cases hB
      have tr : ∀ {F1 H1 F2 H2 : Hp} {r : RF}, Same F F1 → SR X.K F2 H2 [] [] → Same F1 F2 → OutS X.K X.mg W [] [] F2 H2 (match k0 r with | .ret (.d d) _ => put i (.d d) (dataOnly ρ) | .ret (.fr c) _ => put i (.ow c .own) (dataOnly ρ) | .ex x _ => .ex x (dataOnly ρ) | _ => .bad) D →
          OutF X.K X.mg (fun c d H' => W c d σ H') [] [] F2 H2 (k0 r) (fun v H' => D.nx (σ.set i (some v)) H') := fun {F1 H1 F2 H2 r} f1 a b o => by
        cases hk : k0 r with
        | bad => rw [hk] at o; exact o.elim
        | ex x as => rw [hk] at o; exact fun c d F' H' s e xr => o c d σ F' H' (sr_dataE sr ((f1.trans b).trans e.ext) (sr_bare s)) (ev_data (ev_bare e)) xr
        | ret y as =>
          rw [hk] at o
          cases y with
          | sl i => exact o.elim
          | d d =>
            dsimp only at o
            rcases put_cases (.d d) (dataOnly ρ) i with q | ⟨ρ', q⟩
            · rw [q] at o; exact o.elim
            · rw [q] at o
              intro v F' H' s e r
              obtain ⟨s2, ev2⟩ := put_ok (σb := []) (ρb := []) (Fb := F2) (Hb := H2) (s := .d d) (sr_dataE sr ((f1.trans b).trans e.ext) (sr_bare s)) (ev_data (ev_bare e)) r q
              exact o _ F' H' s2 ev2
          | fr c =>
            dsimp only at o
            rcases put_cases (.ow c .own) (dataOnly ρ) i with q | ⟨ρ', q⟩
            · rw [q] at o; exact o.elim
            · rw [q] at o
              intro v F' H' s e r
              obtain ⟨p', e', nb, nF, cr, no⟩ := r
              have nb : H2 p' = none := by
                rcases nb with z | ⟨j, c0, z, _⟩
                · exact z
                · simp at z
              obtain ⟨s2, ev2⟩ := put_ok (σb := []) (ρb := []) (Fb := F2) (Hb := H2) (v := v) (s := .ow c .own) (sr_dataE sr ((f1.trans b).trans e.ext) (sr_bare s)) (ev_data (ev_bare e)) ⟨rfl, p', e', nb, nF, cr, dataOnly_now⟩ q
              exact o _ F' H' s2 ev2
      refine ⟨isTh_at sr hj, F, [.d (.set [Int.ofNat p])], k0, ⟨rfl, sr.sub, fun t s e => ?_, fun t j c m c' m' a e => ?_, sr.tab⟩, rfl, fun a ⟨t, c, m', e, _⟩ => ?_, hq, fun F1 H1 s1 e1 => ?_⟩
      · cases t with
        | zero => cases e; exact ⟨_, rfl, _, rfl, .pt p⟩
        | succ t => simp at e
      · exfalso
        cases t with
        | zero => cases e
        | succ t => simp at e
      · cases t with
        | zero => cases e
        | succ t => simp at e
      · exact m _ _ _ _ _ (fun v H2 ⟨F2, d, a, b, r, o⟩ => ⟨F2, d, a, b, r, tr (H1 := H1) e1.ext a b o⟩) (fun cl dd H2 ⟨F2, x, a, b, r, o⟩ => ⟨F2, x, a, b, r, tr (H1 := H1) e1.ext a b o⟩) (kn F1 H1 s1 (e0.trans e1))
  · cases hB
end
/-! ### the def -/
section
variable [TabT]
def finE : RS → RF
  | .nx ρ => finish (.d .non) [] ρ
  | .rt x ρ => finish x [] ρ
  | .ex x _ => .ex x []
  | _ => .bad
def fnA (np nl : Nat) (B : Ask) : AskF := fun as => if as.length = np then (B (as ++ List.replicate nl .un)).map fun k r => finE (k r) else none
theorem gthE_of {Γ : Around → Prop} {P : Program} {w : World} {K : PySem.W.Frag} {mg : Str → Option Value} {base : Heap} {k : Nat} {x qual : Str} {st : Stmt} {f : Addr} {fd : FuncData} {N ps : List Str} {kt : Nat} {g : Addr → Ask} (Fu : Fun K x qual st f fd) (S : FnScope N ps (defScope st)) (nl : Nat) (hNl : N.length = ps.length + nl)
    (hbody : ∀ (cdv : Value) (A : Around) (outer : List Env) (s : Shared) (H : Hp) (E : XK) (p : Addr) (th : TH), Room k (A.deeper (envOfC qual (defScope st) s.heap.objs.size f cdv)) → Γ (A.deeper (envOfC qual (defScope st) s.heap.objs.size f cdv)) → ThunkE P w K mg base kt (frs outer) s H p th →
      PSs (cxOf (L2.CX P w) P w K mg base N qual (defScope st) f cdv A outer s H E) (defBody st) (tAsk K mg (fun c d _ H' => E c d H') th (g p))) (hΓ : ∀ A env, Γ A → Γ (A.deeper env) := by intro A env h; exact h) : GThE Γ P w K mg base (k + 1) kt f fd ps (fun p => fnA ps.length nl (g p)) := by
  obtain ⟨oc, od, kV, doc, pm, an, cdv, ct, osl, rfl, lk, hcd⟩ := Fu.ex
  refine ⟨fun A outer s H args us vs Q E p th hr hG e0 hb r T hsp => ?_⟩
  obtain ⟨F, as, k0, sr, hla, now, hB, kf⟩ := hsp
  have hl : vs.length = ps.length := by
    have := sr.len
    rw [List.length_map] at this
    omega
  have KX : K.In s.heap := e0.mod.kin.keeps fun b o e => (e0.bs b o e).1
  have lim : s.heap.NoLimit := e0.mod.nolimit.keeps fun b o e => (e0.bs b o e).1
  have hkind : ∀ y ∈ ps.zip us, (defScope st).names.lookup y.1 = some .local ∨ ((defScope st).names.lookup y.1 = some .cell ∧ ((cellsFrom (s.heap.objs.size + 1) (defScope st).names []).lookup y.1).isSome = true) := fun ⟨n, v⟩ hy => (S.par n (List.of_mem_zip hy).1).imp id fun q => ⟨q, PySem.W.cellsFrom_some _ _ _ (.inl q)⟩
  refine codeAny_call_function hr.depth (KX _ _ lk) rfl S.co S.gen rfl (PySem.W.codeRec_of KX hcd) (hb _ _ _ _ (wpAny_newFunctionEnv_cells S.kind hkind fun env he s1 y => ?_))
  subst he
  refine ⟨lim.keeps y.toInCall.keep, codeAny_func ?_⟩
  have I : Inv (cxOf (L2.CX P w) P w K mg base N qual (defScope st) f cdv A outer s H E) [] (L2.start N vs) H s1 := inv_start S hr.hd e0 hl r y
  have hN' : N.length = vs.length + nl := by rw [hl]; exact hNl
  have sr' : SR K F H (L2.start N vs) (as ++ List.replicate nl .un) := sr_start sr hN'
  have hll : vs.length = as.length := by rw [hl, hla]
  have reading : tAsk K mg (fun c d _ H' => E c d H') th (g p) { nx := fun _ H' => Q .non H', rt := Q } (L2.start N vs) H := by
    unfold fnA at hB
    rw [if_pos hla] at hB
    cases hg : g p (as ++ List.replicate nl .un) with
    | none => rw [hg] at hB; cases hB
    | some k1 =>
      rw [hg] at hB
      cases hB
      refine ⟨F, H, F, _, k1, sr', sr_bare sr, .refl, fun a z => absurd (ow_start hll z) (now a), hg, fun F1 H1 s1 e1 => ?_⟩
      have tr : ∀ {F2 H2 : Hp} {r : RF}, OutF K mg E [] [] F2 H2 (finE (k1 r)) Q → OutS K mg (fun c d _ H' => E c d H') [] [] F2 H2 (k1 r) { nx := fun _ H' => Q .non H', rt := Q } := fun {F2 H2 r} o => by
        cases hk : k1 r with
        | bad => rw [hk] at o; exact o
        | bk ρ' => rw [hk] at o; exact o.elim
        | ct ρ' => rw [hk] at o; exact o.elim
        | nx ρ' =>
          rw [hk] at o
          unfold finE finish argsBack at o
          exact fun σ' F' H' s e => o .non F' H' (sr_bare s) (ev_bare e) Rep.non
        | ex x ρ' => rw [hk] at o; exact fun c d σ' F' H' s e xr => o c d F' H' (sr_bare s) (ev_bare e) xr
        | rt x ρ' =>
          rw [hk] at o
          intro v σ' F' H' s e vr
          cases x with
          | d d => unfold finE finish argsBack at o; exact o v F' H' (sr_bare s) (ev_bare e) vr
          | fr c =>
            unfold finE finish argsBack at o
            obtain ⟨q, eq, nb, nF, cr, no⟩ := vr
            exact o v F' H' (sr_bare s) (ev_bare e) ⟨q, eq, .inl nb, nF, cr, no_ow_nil⟩
          | sl i =>
            have vr : σ'[i]? = some (some v) := vr
            unfold finE finish argsBack at o
            dsimp only at o
            cases hs : ρ'[i]? with
            | none => rw [hs] at o; exact o.elim
            | some t =>
              rw [hs] at o
              obtain ⟨ov, g1, g2⟩ := s.slot i _ hs
              rw [vr] at g1; cases g1
              cases t with
              | un => exact o.elim
              | d d =>
                obtain ⟨u, g2, g3⟩ := g2
                cases g2
                exact o v F' H' (sr_bare s) (ev_bare e) g3
              | ow c m =>
                cases m with
                | bor => exact o.elim
                | lck => exact o.elim
                | own =>
                  obtain ⟨q, eq, nF, cr⟩ := g2
                  cases eq
                  refine o (.ref q) F' H' (sr_bare s) (ev_bare e) ⟨q, rfl, .inl ?_, nF, cr, no_ow_nil⟩
                  rcases e.own' q ⟨i, c, .own, hs, vr⟩ with z | z
                  · exact z
                  · exact absurd z no_ow_nil
      exact T.mono _ _ _ _ _ (fun v H2 ⟨F2, d, a, b, r, o⟩ => ⟨F2, d, a, b, r, tr o⟩) (fun cl dd H2 ⟨F2, x, a, b, r, o⟩ => ⟨F2, x, a, b, r, tr o⟩) (kf F1 H1 s1 e1)
  refine wpAny_mono ((hbody cdv A outer s H E p th (hr.deeper _) (hΓ _ _ hG) T).run [] s1 _ H _ I reading) (fun fl s' hs => ?_) fun e s' hs => hs
  have fin : ∀ {σ' : L2.St} {H' : Hp} {v : V} {u : Value}, Inv (cxOf (L2.CX P w) P w K mg base N qual (defScope st) f cdv A outer s H E) [] σ' H' s' → RelV v u → Q v H' → CE outer P w H s Q u s' := fun {σ' H' v u} J rv q => ⟨v, H', J.os, J.bare, J.base, J.hok, rv, q⟩
  cases fl with
  | ret u => obtain ⟨v, σ', H', J, rv, q⟩ := hs; exact fin J rv q
  | next => obtain ⟨σ', H', J, q⟩ := hs; exact fin (v := V.non) (u := Value.none) J rfl q
  | brk => obtain ⟨_, _, _, q⟩ := hs; exact q.elim
  | cont => obtain ⟨_, _, _, q⟩ := hs; exact q.elim
end
end DL
set_option maxHeartbeats 1000000
/-! DL115: a lambda that may change what it captured, handed to a def with further data; readings. -/
namespace DL
open PySem PySem.Spec PyProof.Rows L2 LamX
section
variable [TabT] {X : Cx} {pins : List (Addr × Obj)} {σ : L2.St} {H : Hp} {s : Shared}
theorem thunkE_at {k : Nat} {p c' : Addr} {pm ctv : Value} {params : Arguments} {body : Expr} {scope : Scope} {g : EM} (I : Inv X pins σ H s) (L : LamS X.env.scope scope)
    (hf : s.heap.get? p = some (PySem.W.kla_obj "<lambda>" (X.env.qual ++ "<lambda>") params body scope (cloFrom X.env.cells scope.names []) pm c' ctv)) (hfn : H p = none) (hfr : p ∉ frs X.stack)
    (hbind : bindArgs (PySem.W.kla_fn "<lambda>" (X.env.qual ++ "<lambda>") params body scope (cloFrom X.env.cells scope.names []) pm (.ref c') ctv) ⟨[], []⟩ = pure [])
    (hbody : ∀ (A : Around) (outer : List Env) (s : Shared) (H : Hp) (E : XK), Room k (A.deeper (lamEnv X scope s.heap.objs.size p c')) → NoGd (A.deeper (lamEnv X scope s.heap.objs.size p c')) → DE (lamCx X A outer s H E scope p c') (fun c d _ H' => E c d H') body g) :
    ThunkE X.prog X.w X.K X.mg X.base k (frs X.stack) s H p (fun HZ Q E => HZ c' = some (CodeO c' (X.env.qual ++ "<lambda>")) ∧ tD X.K X.mg (fun c d _ H' => E c d H') g σ HZ Q) := by
  refine ⟨⟨_, _, _, _, hf⟩, hfn, hfr, fun HZ Q Q' E E' h1 h2 ⟨hz, F, ρ, sr, o⟩ => ⟨hz, F, ρ, sr, ?_⟩, fun A outer s1 HZ Q E hr hG e0 un hsp => ?_⟩
  · cases hg : g ρ with
    | ok x ρ' => rw [hg] at o; exact fun v F' H' s e r => h1 _ _ (o v F' H' s e r)
    | ex x ρ' => rw [hg] at o; exact fun c d F' H' s e r => h2 _ _ _ (o c d F' H' s e r)
    | bad => rw [hg] at o; exact o
  obtain ⟨hc, hsp⟩ := hsp
  have of1 := un.keep p _ hf hfn hfr (by simp)
  obtain ⟨⟨oc, vs, t, hoc, hdc, hvc⟩, _, _⟩ := e0.hok c' _ hc
  have lim : s1.heap.NoLimit := e0.mod.nolimit.keeps fun b o e => (e0.bs b o e).1
  refine PySem.W.kla_callFunE hr.depth of1 rfl L.co L.gen rfl ⟨c', oc, vs, t, rfl, hoc, hdc, hvc⟩ ?_
  rw [hbind]
  refine wpAny_pure (wpAny_newFunctionEnv (fun y hy => (L.own y hy).2) (fun y hy => absurd hy (by simp)) (fun h₁ hns hsb => ⟨lim.fresh _ hsb, ?_⟩) L.kind)
  show codeAny _ _ (.expr body (lamEnv X scope s1.heap.objs.size p c')) _ _
  have kp : ∀ b o, s1.heap.get? b = some o → h₁.get? b = some o := fun b o e => hsb.extBut b o (Nat.ne_of_lt (Heap.lt_size e)) (Heap.get?_push_of_some _ e)
  have J : Inv (lamCx X A outer s1 HZ E scope p c') [] σ HZ { s1 with heap := h₁, toks := s1.toks + ([] : List (Str × Value)).length } := lam_start2 I L e0 hr.hd un hns kp
  refine PySem.W.kla_codeExpr (wpAny_mono ((hbody A outer s1 HZ E (hr.deeper _) hG).run [] _ _ HZ Q J hsp) (fun v s' hq => ?_) fun e s' hq => hq)
  obtain ⟨w', H', J', rv, q⟩ := hq
  exact ⟨w', H', J'.os, J'.bare, J'.base, J'.hok, rv, q⟩
end
theorem codeO_nt {c : Addr} {q : Str} : NT (CodeO c q) := fun ps z => by unfold CodeO at z; cases z
/-- the arguments, if all of them are data -/
def datas (ρ : DEnv) : List Val → Option (List D)
  | [] => some []
  | x :: xs => match (match x with | .d d => some d | .sl i => (match ρ[i]? with | some (.d d) => some d | _ => none) | _ => none), datas ρ xs with
    | some d, some ds => some (d :: ds)
    | _, _ => none
/-- what the def with the thunk gives: t, by the data and the thunk's outcome -/
def resE (ρ : DEnv) : RF → R Val
  | .ret (.d d) _ => .ok (.d d) ρ
  | .ret (.fr c) _ => .ok (.fr c) ρ
  | .ex x _ => .ex x ρ
  | _ => .bad
def eCallE (t : List D → RF → RF) (g : EM) (g2 : M (List Val)) : EM := fun ρ => (g2 ρ).bind fun xs ρ1 => match datas ρ1 xs with
  | none => .bad
  | some ds => match g ρ1 with
    | .ok (.d d) ρ2 => resE ρ2 (t ds (.ret (.d d) []))
    | .ex x ρ2 => resE ρ2 (t ds (.ex x []))
    | _ => .bad
structure ThResE (Bf : Addr → AskF) (t : List D → RF → RF) : Prop where
  eq : ∀ p ds, (∀ r, t ds r = .bad) ∨ ∃ k, Bf p (.d (.set [Int.ofNat p]) :: ds.map .d) = some k ∧ ∀ r, t ds r = .bad ∨ k r = t ds r
theorem datas_sr [TabT] {K : PySem.W.Frag} {σ : L2.St} {ρ : DEnv} {Hb F H : Hp} (sr : SR K F H σ ρ) : ∀ {vs : List V} {xs : List Val} {ds : List D}, Paired (VR K σ Hb F H ρ) vs xs → datas ρ xs = some ds → RepL K F vs ds
  | _, _, ds, .nil, h => by cases h; exact .nil
  | _, _, ds, @Paired.cons _ _ _ v x vs xs a b, h => by
    unfold datas at h
    split at h
    · rename_i d ds' h1 h2
      cases h
      refine .cons ?_ (datas_sr sr b h2)
      cases x with
      | d d0 => cases h1; exact a
      | fr c => cases h1
      | sl i =>
        have a : σ[i]? = some (some v) := a
        dsimp only at h1
        cases hs : ρ[i]? with
        | none => rw [hs] at h1; cases h1
        | some t =>
          rw [hs] at h1
          cases t with
          | un => cases h1
          | ow c m => cases h1
          | d d0 =>
            cases h1
            obtain ⟨ov, g1, u, g2, g3⟩ := sr.slot i _ hs
            rw [a] at g1; cases g1; cases g2
            exact g3
    · cases h
theorem sr_thd [TabT] {K : PySem.W.Frag} {F H : Hp} {p : Addr} {vs : List V} {ds : List D} (hs : Same F H) (tb : TabOk F H) (r : RepL K F vs ds) : SR K F H ((V.ref p :: vs).map some) (.d (.set [Int.ofNat p]) :: ds.map .d) ∧ ∀ a, ¬ Ow ((V.ref p :: vs).map some) (.d (.set [Int.ofNat p]) :: ds.map .d) a := by
  have dat : ∀ {i : Nat} {s : Slot}, ((Slot.d (.set [Int.ofNat p])) :: ds.map Slot.d)[i]? = some s → ∃ x, s = .d x := fun {i s} e => by
    have := List.mem_of_getElem? e
    rcases List.mem_cons.mp this with rfl | h
    · exact ⟨_, rfl⟩
    · obtain ⟨x, _, rfl⟩ := List.mem_map.mp h
      exact ⟨x, rfl⟩
  refine ⟨⟨by simp [r.length], hs, fun i s e => ?_, fun i j c m c' m' a e => ?_, tb⟩, fun a ⟨i, c, m, e, _⟩ => ?_⟩
  · cases i with
    | zero => cases e; exact ⟨_, rfl, _, rfl, .pt p⟩
    | succ i =>
      rw [List.getElem?_cons_succ, List.getElem?_map] at e
      cases q : ds[i]? with
      | none => rw [q] at e; cases e
      | some d =>
        rw [q] at e; cases e
        obtain ⟨v, h1, h2⟩ := r.get q
        refine ⟨some v, ?_, v, rfl, h2⟩
        rw [List.map_cons, List.getElem?_cons_succ, List.getElem?_map, h1]
        rfl
  · obtain ⟨x, z⟩ := dat e; cases z
  · obtain ⟨x, z⟩ := dat e; cases z
section
variable [i0 : TabT] {Γ : Around → Prop} {X : Cx} {W : WX} {k kt : Nat} {f c P : Addr} {fd : FuncData} {ps : List Str} {Bf : Addr → AskF} {t : List D → RF → RF} {g : EM} {g2 : M (List Val)} {x : Str} {params : Arguments} {body : Expr} {es : List Expr} {scope : Scope} {lpos pos p1 : Pos}
theorem de_callE (T : ThResE Bf t) (G : GThE Γ X.prog X.w X.K X.mg X.base k kt f fd ps Bf) (hr : Room k X.A) (hG : Γ X.A) (tk : Takes X W) (hg : Gl X x) (hm : X.mg x = some (.ref f)) (hk : PySem.W.keepIn X.K (.ref f) = true) (hb : Binds X.K fd ps [])
    (hs : X.stack = X.env :: X.outer) (hfr : X.env.frame = some X.env.locals)
    (TB : TabB X.base X.mg c P) (hcode : X.env.code = .ref c) (hmT : (P, X.env.qual ++ "<lambda>") ∈ TabT.T) (hu : ∀ p ∈ TabT.T, p.1 = P → p.2 = X.env.qual ++ "<lambda>")
    (L : LamS X.env.scope scope) (hdef : defaultsOf params X.env = ([], []))
    (hbind : ∀ (q : Str) (cl : List (Str × Addr)) (pm cv ctv : Value), bindArgs (PySem.W.kla_fn "<lambda>" q params body scope cl pm cv ctv) ⟨[], []⟩ = pure [])
    (hbody : ∀ (A : Around) (outer : List Env) (s : Shared) (H : Hp) (E : XK) (p c' : Addr), Room kt (A.deeper (lamEnv X scope s.heap.objs.size p c')) → NoGd (A.deeper (lamEnv X scope s.heap.objs.size p c')) → DE (lamCx X A outer s H E scope p c') (fun c d _ H' => E c d H') body g)
    (ha : DA X W es g2) (hn : ∀ ρ xs ρ', g2 ρ = .ok xs ρ' → xs.length + 1 = ps.length)
    (hdb : (x == ("__debug__" : Str)) = false := by decide) (hst : backTo pos (starEach (.Lambda params body scope lpos :: es) X.env) = (false, eval (.Lambda params body scope lpos) X.env) :: backTo pos (starEach es X.env) := by rfl)
    (he : starEach (.Lambda params body scope lpos :: es) X.env = (false, eval (.Lambda params body scope lpos) X.env) :: starEach es X.env := by rfl) (hpl : (backTo pos (starEach es X.env)).any (·.1) = false := by rfl) :
    DE X W (.Call (.Name x p1) (.Lambda params body scope lpos :: es) [] pos) (eCallE t g g2) := by
  refine ⟨fun pins s σ H Q I hq => ?_⟩
  obtain ⟨F, ρ, sr, q⟩ := hq
  refine wpAny_Call_Name_kw (ld_glob I hg hm (PySem.W.callWith_K (h₀ := X.base) I.ok.mod.kin hk ?_ he hpl) hdb)
  rw [hst]
  refine Calls.spliced_cons (lam_make0 I TB hcode hmT hu sr.tab.tabs hdef (L.has I.ok) fun p c' pm ctv H1 s1 I1 kk dd T1 hf hfn hfL hfF hco htab hge => ?_)
  obtain ⟨sr1, ev1⟩ := sr_made sr hmT kk dd T1
  have hfr' : p ∉ frs X.stack := fun hmem => by
    rw [hs] at hmem
    obtain ⟨en, h1, h2⟩ := List.mem_filterMap.mp hmem
    rcases List.mem_cons.mp h1 with e | h1
    · subst e
      rw [hfr] at h2
      exact hfL (Option.some.inj h2).symm
    · exact hfF (List.mem_filterMap.mpr ⟨en, h1, h2⟩)
  have pin1 : Inv X ((p, _) :: pins) σ H1 s1 := ⟨I1.ok, I1.os, I1.bare, I1.base, I1.loc, I1.cell, I1.free, I1.freeC, fun u hu => by
    rcases List.mem_append.mp hu with z | z
    · exact I1.pin u (List.mem_append_left _ z)
    · rcases List.mem_cons.mp z with rfl | z
      · exact ⟨hf, hfn, hfL, hfF, fun v e => by cases e⟩
      · exact I1.pin u (List.mem_append_right _ z), I1.hok, I1.len⟩
  have q1 : Out X.K X.mg (fun c d H => W c d σ H) (relV X.K σ) σ ρ F H1 (eCallE t g g2 ρ) Q := Out.from q ev1 (relV_from ev1)
  refine thn (ha.run pos ((p, _) :: pins) s1 σ H1 _ pin1 ⟨F, ρ, sr1, Out.bind (rel := relL X.K σ) q1⟩) fun us s2 ⟨vs, H2, I2, rr, xs, F2, ρ2, e1, sr2, ev2, r2, o2⟩ => ⟨I2.kIn, wpAny_call ?_⟩
  obtain ⟨hf2, hfn2, _⟩ := I2.pin (p, _) (List.mem_append_right _ List.mem_cons_self)
  have I3 : Inv X pins σ H2 s2 := ⟨I2.ok, I2.os, I2.bare, I2.base, I2.loc, I2.cell, I2.free, I2.freeC, fun u hu => I2.pin u (by
    rcases List.mem_append.mp hu with z | z
    · exact List.mem_append_left _ z
    · exact List.mem_append_right _ (List.mem_cons_of_mem _ z)), I2.hok, I2.len⟩
  have th := thunkE_at (g := g) (k := kt) I3 L hf2 hfn2 hfr' (hbind _ _ _ _ _) (fun A outer s H E h1 h2 => hbody A outer s H E p c' h1 h2)
  have nM : ∀ {c : Addr}, H1 c = some (CodeO c (X.env.qual ++ "<lambda>")) → ¬ Mt σ ρ c := fun {c} e z => by
    obtain ⟨i, ct, m, z1, _, z2⟩ := z
    obtain ⟨ov, g1, a, g2, _, g3⟩ := sr1.slot i _ z1
    rw [z2] at g1; cases g1; cases g2
    exact CRep.kt e g3 (.inr ⟨_, rfl⟩)
  have hco2 : H2 c' = some (CodeO c' (X.env.qual ++ "<lambda>")) := ev2.keep c' _ hco (nM hco) codeO_nt
  have hl : xs.length + 1 = ps.length := hn _ _ _ e1
  have hu : (Value.ref p :: us).length = ps.length := by rw [List.length_cons, ← rr.length, r2.all.length, hl]
  have hb' : BindsTo s2 fd ⟨.ref p :: us, []⟩ (ps.zip (.ref p :: us)) := by
    have := hb s2 (.ref p :: us) I2.kIn (by rw [List.append_nil]; exact hu)
    rw [List.append_nil] at this
    exact this
  cases hds : datas ρ2 xs with
  | none => rw [hds] at o2; exact o2.elim
  | some ds =>
    rw [hds] at o2
    have rd := datas_sr sr2 r2.all hds
    obtain ⟨sr3, now⟩ := sr_thd (p := p) sr2.sub sr2.tab rd
    rcases T.eq p ds with hbad | ⟨kf, hB, hk2⟩
    · exfalso
      revert o2
      cases hg : g ρ2 with
      | bad => exact id
      | ex x ρ3 => dsimp only; rw [hbad]; exact id
      | ok y ρ3 => cases y <;> dsimp only <;> first | exact id | (rw [hbad]; exact id)
    · have emb : ∀ {F3 H3 : Hp}, SR X.K F3 H3 [] [] → Ev [] [] F2 H2 [] [] F3 H3 → SR X.K F3 H3 σ ρ2 ∧ Ev σ ρ F H1 σ ρ2 F3 H3 := fun {F3 H3} s e =>
        let ⟨a, b⟩ := sr_emb sr2 e s; ⟨a, ev2.trans b⟩
      have tr : ∀ {F4 H4 : Hp} {ρ3 : DEnv} {r : RF}, SR X.K F4 H4 σ ρ3 → Ev σ ρ F H1 σ ρ3 F4 H4 → Out X.K X.mg (fun c d H => W c d σ H) (relV X.K σ) σ ρ F H1 (resE ρ3 (t ds r)) Q → OutF X.K X.mg (fun c d H => W c d σ H) [] [] F4 H4 (kf r) Q := fun {F4 H4 ρ3 r} s4 e4 o => by
        rcases hk2 r with z | z
        · rw [z] at o; exact o.elim
        · rw [z]
          cases ht : t ds r with
          | bad => rw [ht] at o; exact o.elim
          | ex x as =>
            rw [ht] at o
            exact fun c d F' H' s e xr => let ⟨a, b⟩ := sr_emb s4 (ev_bare e) (sr_bare s); o c d F' H' a (e4.trans b) xr
          | ret y as =>
            rw [ht] at o
            cases y with
            | sl i => exact o.elim
            | d d => exact fun v F' H' s e r => let ⟨a, b⟩ := sr_emb s4 (ev_bare e) (sr_bare s); o v F' H' a (e4.trans b) r
            | fr ct =>
              intro v F' H' s e r
              obtain ⟨a, b⟩ := sr_emb s4 (ev_bare e) (sr_bare s)
              obtain ⟨p', e', nb, nF, cr, no⟩ := r
              have nb : H4 p' = none := by
                rcases nb with z | ⟨j, c0, z, _⟩
                · exact z
                · simp at z
              refine o v F' H' a (e4.trans b) ⟨p', e', ?_, nF, cr, fun ⟨i, c2, m2, w1, w2⟩ => ?_⟩
              · cases hH : H1 p' with
                | none => rfl
                | some u => exact absurd nb (e4.dom p' (by rw [hH]; simp))
              · obtain ⟨ov, g1, a', g2, _, g4⟩ := s4.slot i _ w1
                rw [w2] at g1; cases g1; cases g2
                obtain ⟨u, hu⟩ := g4.some
                rw [nb] at hu; cases hu
      refine codeAny_mono (G.run X.A X.stack s2 H2 ⟨.ref p :: us, []⟩ (.ref p :: us) (.ref p :: vs) Q (fun c d H => W c d σ H) p _ hr hG I3.env0 hb' (.cons rfl rr) th ⟨F2, _, kf, sr3, by rw [List.length_cons, List.length_map, ← rd.length, r2.all.length]; exact hl, now, hB, fun F3 H3 s3 e3 => ⟨e3.keep c' _ hco2 (fun z => no_ow_nil z.ow) codeO_nt, F3, ρ2, (emb s3 e3).1, ?_⟩⟩) fun r s' hq => ?_
      · have e23 := (emb s3 e3).2
        cases hg : g ρ2 with
        | bad => rw [hg] at o2; exact o2.elim
        | ex x ρ3 =>
          rw [hg] at o2
          exact fun c d F4 H4 s4 e4 xr => ⟨F4, x, sr_bare s4, e4.ext, xr, tr s4 (e23.trans e4) o2⟩
        | ok y ρ3 =>
          rw [hg] at o2
          cases y with
          | fr ct => exact o2.elim
          | sl i => exact o2.elim
          | d d => exact fun v F4 H4 s4 e4 r => ⟨F4, d, sr_bare s4, e4.ext, r, tr s4 (e23.trans e4) o2⟩
      · cases r with
        | error e => exact tk e s' (XE.of_call I3 (fun cls d H' h => h) hq)
        | ok fl =>
          cases fl with
          | ret u => exact I3.after hq
          | next => exact hq
          | brk => exact hq
          | cont => exact hq
end
end DL
set_option maxHeartbeats 1000000
/-! DL116: reading defs that ask, and their calls. -/
namespace DL
open PySem PySem.Spec PyProof.Rows L2
section
variable {ρ ρ1 : DEnv} {i j : Nat} {p : Addr} {es : List Str} {B : Ask} {Bf : AskF} {k : RF → RS} {kf : RF → RF} {g : SM} {cl : List (Str × Option Nat × SM)}
theorem isTh_of (h : ρ[j]? = some (.d (.set [Int.ofNat p]))) : isTh j p ρ = true := by
  unfold isTh
  rw [h]
  exact decide_eq_true rfl
def expK (ρ : DEnv) (r : RF) : RS := match r with
  | .ret (.d _) _ => .nx (dataOnly ρ)
  | .ex x _ => .ex x (dataOnly ρ)
  | _ => .bad
def passK (i : Nat) (ρ : DEnv) (k : RF → RF) (r : RF) : RS := match k r with
  | .ret (.d d) _ => put i (.d d) (dataOnly ρ)
  | .ret (.fr c) _ => put i (.ow c .own) (dataOnly ρ)
  | .ex x _ => .ex x (dataOnly ρ)
  | _ => .bad
def tryK (es : List Str) (cl : List (Str × Option Nat × SM)) (k : RF → RS) (r : RF) : RS := match k r with
  | .ex x ρ1 => if es.contains x.c = true then tryH es cl x ρ1 else .bad
  | r => r
def postK (k : RF → RS) (g : SM) (r : RF) : RS := match k r with
  | .nx ρ1 => g ρ1
  | r => r
theorem expA_eq (h : ρ[j]? = some (.d (.set [Int.ofNat p]))) : expA j p ρ = some (expK ρ) := by
  unfold expA
  rw [if_pos (isTh_of h)]
  rfl
theorem passA_eq (h : ρ[j]? = some (.d (.set [Int.ofNat p]))) (hB : Bf [.d (.set [Int.ofNat p])] = some kf) : passA i j p Bf ρ = some (passK i ρ kf) := by
  unfold passA
  rw [if_pos (isTh_of h), hB]
  rfl
theorem tryA_eq (h : B ρ = some k) : tryA es B cl ρ = some (tryK es cl k) := by
  unfold tryA
  rw [h]
  rfl
theorem postA_eq (h : B ρ = some k) : postA B g ρ = some (postK k g) := by
  unfold postA
  rw [h]
  rfl
theorem preA_eq (h : g ρ = .nx ρ1) (hB : B ρ1 = some k) : preA g B ρ = some k := by
  unfold preA
  rw [h]
  exact hB
theorem fnA_eq {np nl : Nat} {as : DEnv} (hl : as.length = np) (h : B (as ++ List.replicate nl .un) = some k) : fnA np nl B as = some fun r => finE (k r) := by
  unfold fnA
  rw [if_pos hl, h]
  rfl
theorem fE_wp {rs : RS} {Q : Val → DEnv → Prop} {X : Ex → DEnv → Prop} (q : rs.wp (Po.fn Q X [])) : (finE rs).wp Q X := by
  cases rs with
  | nx ρ => exact q
  | rt x ρ => exact q
  | ex x ρ =>
    have q : X x (argsBack [] ρ) := q
    unfold argsBack at q
    exact q
  | bk ρ => exact q.elim
  | ct ρ => exact q.elim
  | bad => exact q.elim
theorem th_retE {rs : RS} {y : Val} (h : (finE rs).wp (fun x as' => x = y ∧ as' = []) fun _ _ => False) : finE rs = .ret y [] := th_ret h
/-- the call: the data, the thunk's run, what the def makes of it -/
theorem b_callE {t : List D → RF → RF} {g : EM} {g2 : M (List Val)} {Q : Val → DEnv → Prop} {X : Ex → DEnv → Prop}
    (q : (g2 ρ).wp (fun xs ρ1 => ∃ ds, datas ρ1 xs = some ds ∧ (g ρ1).wp (fun x ρ2 => ∃ d y, x = .d d ∧ resE ρ2 (t ds (.ret (.d d) [])) = .ok y ρ2 ∧ Q y ρ2) (fun x ρ2 => ∃ y, resE ρ2 (t ds (.ex x [])) = .ok y ρ2 ∧ Q y ρ2)) X) : (eCallE t g g2 ρ).wp Q X := by
  unfold eCallE
  refine b_bind ?_
  cases h : g2 ρ with
  | bad => rw [h] at q; exact q.elim
  | ex x ρ1 => rw [h] at q; exact q
  | ok xs ρ1 =>
    rw [h] at q
    obtain ⟨ds, h1, q⟩ := q
    show (R.wp (match datas ρ1 xs with | none => R.bad | some ds => match g ρ1 with | .ok (.d d) ρ2 => resE ρ2 (t ds (.ret (.d d) [])) | .ex x ρ2 => resE ρ2 (t ds (.ex x [])) | _ => .bad) Q X)
    rw [h1]
    dsimp only
    cases h2 : g ρ1 with
    | bad => rw [h2] at q; exact q.elim
    | ex x ρ2 =>
      rw [h2] at q
      obtain ⟨y, e, q⟩ := q
      show (resE ρ2 (t ds (.ex x []))).wp Q X
      rw [e]
      exact q
    | ok x ρ2 =>
      rw [h2] at q
      obtain ⟨d, y, rfl, e, q⟩ := q
      show (resE ρ2 (t ds (.ret (.d d) []))).wp Q X
      rw [e]
      exact q
end
end DL
set_option maxHeartbeats 1000000
/-! DL117: an expression that asks first; if with a branch that asks and ends. -/
namespace DL
open PySem PySem.Spec PyProof.Rows L2
abbrev AskX := DEnv → Option (RF → R Val)
section
variable [TabT] {K : PySem.W.Frag} {mg : Str → Option Value} {σ σ1 : L2.St} {ρ ρ1 : DEnv} {F H F0 H0 F1 H1 F2 H2 : Hp}
theorem ev_undata (e : Ev σ (dataOnly ρ) F H σ1 ρ1 F1 H1) : Ev [] [] F H σ1 ρ1 F1 H1 :=
  ⟨e.ext, fun a o h _ nt => e.keep a o h (fun z => dataOnly_now z.ow) nt, fun a h n => (e.newF a h n).imp id fun z => absurd z dataOnly_now, e.dom, fun i c m h => by simp at h, fun a z => (e.own' a z).imp id fun z => absurd z dataOnly_now, fun a z => (e.mt' a z).imp id fun z => absurd z.ow dataOnly_now⟩
def tAskX (K : PySem.W.Frag) (mg : Str → Option Value) (W : WX) (th : TH) (B : AskX) : TE := fun σ H Q => ∃ F0 H0 F ρ k, SR K F H σ ρ ∧ Ev [] [] F0 H0 [] [] F H ∧ B ρ = some k ∧ ∀ F1 H1, SR K F1 H1 [] [] → Ev [] [] F0 H0 [] [] F1 H1 →
  th H1 (fun v H2 => ∃ F2 d, SR K F2 H2 [] [] ∧ Same F1 F2 ∧ Rep K F2 v d ∧ Out K mg (fun c d H => W c d σ H) (relV K σ) σ (dataOnly ρ) F2 H2 (k (.ret (.d d) [])) Q)
    (fun c dd H2 => ∃ F2 x, SR K F2 H2 [] [] ∧ Same F1 F2 ∧ XR K mg F2 x c dd ∧ Out K mg (fun c d H => W c d σ H) (relV K σ) σ (dataOnly ρ) F2 H2 (k (.ex x [])) Q)
theorem askX_sub {W : WX} {th : TH} {B B' : AskX} {Q Q' : VK} (m : MonoT th) (h : tAskX K mg W th B' σ H Q') (hB : ∀ ρ k', B' ρ = some k' → ∃ k, B ρ = some k ∧ ∀ r F2 H2 ρd, Out K mg (fun c d H => W c d σ H) (relV K σ) σ ρd F2 H2 (k' r) Q' → Out K mg (fun c d H => W c d σ H) (relV K σ) σ ρd F2 H2 (k r) Q) : tAskX K mg W th B σ H Q := by
  obtain ⟨F0, H0, F, ρ, k', sr, e0, h1, kn⟩ := h
  obtain ⟨k, h2, h3⟩ := hB ρ k' h1
  exact ⟨F0, H0, F, ρ, k, sr, e0, h2, fun F1 H1 s e => m _ _ _ _ _ (fun v H2 ⟨F2, d, a, b, r, o⟩ => ⟨F2, d, a, b, r, h3 _ _ _ _ o⟩) (fun c dd H2 ⟨F2, x, a, b, r, o⟩ => ⟨F2, x, a, b, r, h3 _ _ _ _ o⟩) (kn F1 H1 s e)⟩
end
section
variable [TabT] {X : Cx} {W : WX} {th : TH} {B : AskX} {e b : Expr} {pos : Pos} {f : EM}
def askB (j : Nat) (p : Addr) : AskX := fun ρ => if isTh j p ρ = true then some fun r => match r with
  | .ret (.d d) _ => .ok (.d d) (dataOnly ρ)
  | .ex x _ => .ex x (dataOnly ρ)
  | _ => .bad else none
theorem ax_ask {j : Nat} {p : Addr} (m : MonoT th) (he : PE X e (tAskE th W j p)) : PE X e (tAskX X.K X.mg W th (askB j p)) := pe_conseq he fun σ H Q ⟨F0, H0, F, ρ, k, sr, e0, hB, kn⟩ => by
  unfold askB at hB
  split at hB
  · rename_i hj
    cases hB
    refine ⟨isTh_at sr hj, m _ _ _ _ _ (fun v H2 ⟨F2, d, a, b, r, o⟩ => ?_) (fun cl dd H2 ⟨F2, x, a, b, r, o⟩ => ?_) (kn F H (sr_bare sr) e0)⟩
    · exact o v F2 H2 (sr_dataE sr b a) .refl r
    · exact o cl dd F2 H2 (sr_dataE sr b a) .refl r
  · cases hB
def callA (op : List D → Option Val) (B : AskX) : AskX := fun ρ => (B ρ).map fun k r => (k r).bind fun v ρ1 => callV op [v] ρ1
theorem ax_callB {x : Str} {id : String} {r : List V → Hp → VK → Prop} {op : List D → Option Val} {p : Pos} (m : MonoT th) (hc : CallR X (.builtin id) r) (s : CallS X.K r op) (hg : Gl X x) (hm : X.mg x = none) (hv : bootBuiltins x = some (.builtin id)) (ha : PE X e (tAskX X.K X.mg W th B)) (hn : x ≠ "__name__" := by decide) (hdb : (x == ("__debug__" : Str)) = false := by decide)
    (he : starEach [e] X.env = (false, eval e X.env) :: starEach [] X.env := by rfl) (hpl : (backTo pos (starEach [] X.env)).any (·.1) = false := by rfl) : PE X (.Call (.Name x p) [e] [] pos) (tAskX X.K X.mg W th (callA op B)) :=
  pe_conseq (pe_callB hc hg hm hv (pa_cons ha pa_nil he) hn hdb he hpl) fun σ H Q h => askX_sub m h fun ρ k' hk => by
    unfold callA at hk
    cases q : B ρ with
    | none => rw [q] at hk; cases hk
    | some k0 =>
      rw [q] at hk
      cases hk
      refine ⟨k0, rfl, fun rr F2 H2 ρd o => (Out.bind (rel := relV X.K σ) o).mono fun v H3 ⟨x, F3, ρ3, e3, s3, ev3, r3, o3⟩ => ?_⟩
      have rl : VRL X.K σ H2 F3 H3 ρ3 [v] [x] := ⟨.cons r3 .nil, fun i j c c' p h1 h2 _ _ => by
        cases i with
        | zero => cases j with
          | zero => rfl
          | succ j => simp at h2
        | succ i => simp at h1⟩
      exact callV_ok s s3 rl (o3.from ev3 (relV_from ev3))
def cmpA (op : D → D → Option Val) (B : AskX) (f : EM) : AskX := fun ρ => (B ρ).map fun k r => (k r).bind fun x ρ1 => (f ρ1).bind fun y ρ2 => opV op x y ρ2
theorem ax_cmp {o : CmpOp} {r : R2} {op : D → D → Option Val} (m : MonoT th) (ho : OpR X (compareOp o) r) (s : OpS X.K r op) (ha : PE X e (tAskX X.K X.mg W th B)) (hb : DE X W b f) (hm : behindInMarks o b = false := by rfl) : PE X (.Compare e [o] [b] pos) (tAskX X.K X.mg W th (cmpA op B f)) :=
  pe_conseq (pe_cmpR ho ha hb hm) fun σ H Q h => askX_sub m h fun ρ k' hk => by
    unfold cmpA at hk
    cases q : B ρ with
    | none => rw [q] at hk; cases hk
    | some k0 =>
      rw [q] at hk
      cases hk
      refine ⟨k0, rfl, fun rr F2 H2 ρd o => (Out.bind (rel := relV X.K σ) o).mono fun v H3 ⟨x, F3, ρ3, e3, s3, ev3, r3, o3⟩ => ?_⟩
      refine ⟨F3, ρ3, s3, ?_⟩
      have o4 := o3.from ev3 fun F' H' ρ' v x (h : VR X.K σ H3 F' H' ρ' v x) => VR.base h ev3.dom
      refine (Out.bind (rel := relV X.K σ) o4).mono fun w H4 ⟨y, F4, ρ4, e4, s4, ev4, r4, o5⟩ => ?_
      exact opV_ok s s4 (VR.ev r3 ev4) r4 (o5.from ev4 fun F' H' ρ' v x (h : VR X.K σ H4 F' H' ρ' v x) => VR.base h ev4.dom)
def retA (B : AskX) : Ask := fun ρ => (B ρ).map fun k r => (k r).bindS fun x ρ1 => .rt x ρ1
theorem ask_ret (m : MonoT th) (he : PE X e (tAskX X.K X.mg W th B)) : PS X (.Return (some e) pos) (tAsk X.K X.mg W th (retA B)) := ps_conseq (ps_ret he) fun D σ H ⟨F0, H0, F, ρ, k, sr, s0, e0, nw, hB, kn⟩ => by
  unfold retA at hB
  cases q : B ρ with
  | none => rw [q] at hB; cases hB
  | some k0 =>
    rw [q] at hB
    cases hB
    have tr : ∀ {F2 H2 : Hp} {r : RF}, OutS X.K X.mg W [] [] F2 H2 ((k0 r).bindS fun x ρ1 => .rt x ρ1) D → Out X.K X.mg (fun c d H => W c d σ H) (relV X.K σ) σ (dataOnly ρ) F2 H2 (k0 r) D.rt := fun {F2 H2 r} o => by
      cases hk : k0 r with
      | bad => rw [hk] at o; exact o.elim
      | ok x ρ' => rw [hk] at o; exact fun v F' H' s e rv => o v σ F' H' s (ev_undata e) rv
      | ex x ρ' => rw [hk] at o; exact fun c d F' H' s e xr => o c d σ F' H' s (ev_undata e) xr
    exact ⟨F0, H0, F, ρ, k0, sr, e0, q, fun F1 H1 s e => m _ _ _ _ _ (fun v H2 ⟨F2, d, a, b, r, o⟩ => ⟨F2, d, a, b, r, tr o⟩) (fun c dd H2 ⟨F2, x, a, b, r, o⟩ => ⟨F2, x, a, b, r, tr o⟩) (kn F1 H1 s e)⟩
/-- a branch that ends -/
def endK : RS → RS
  | .rt x ρ => .rt x ρ
  | .ex x ρ => .ex x ρ
  | _ => .bad
def ifA (t : M Bool) (B1 B2 : Ask) : Ask := fun ρ => match t ρ with
  | .ok true ρ1 => (B1 ρ1).map fun k r => endK (k r)
  | .ok false ρ1 => B2 ρ1
  | _ => none
theorem ask_if {c : Expr} {s1 rest : List Stmt} {t : M Bool} {B1 B2 : Ask} (m : MonoT th) (hc : DT X W c t) (h1 : PSs X s1 (tAsk X.K X.mg W th B1)) (h2 : PSs X rest (tAsk X.K X.mg W th B2)) : PSs X (.If c s1 [] pos :: rest) (tAsk X.K X.mg W th (ifA t B1 B2)) :=
  pss_conseq (pss_cons (ps_if hc h1 pss_nil) h2) fun D σ H ⟨F0, H0, F, ρ, k, sr, s0, e0, nw, hB, kn⟩ => by
    unfold ifA at hB
    cases ht : t ρ with
    | bad => rw [ht] at hB; cases hB
    | ex x ρ' => rw [ht] at hB; cases hB
    | ok v ρ1 =>
      rw [ht] at hB
      refine ⟨F, ρ, sr, ?_⟩
      rw [ht]
      intro v' F' H' s ev hv
      obtain rfl : v' = v := hv
      obtain ⟨e1, nw1⟩ := nw_step e0 nw ev
      cases v' with
      | false =>
        have hB : B2 ρ1 = some k := hB
        exact ⟨F0, H0, F', ρ1, k, s, s0, e1, nw1, hB, kn⟩
      | true =>
        have hB : (B1 ρ1).map (fun k r => endK (k r)) = some k := hB
        cases q : B1 ρ1 with
        | none => rw [q] at hB; cases hB
        | some k0 =>
          rw [q] at hB
          cases hB
          refine ⟨F0, H0, F', ρ1, k0, s, s0, e1, nw1, q, kn.sub m fun r F2 H2 s2 o => ?_⟩
          have o : OutS X.K X.mg W [] [] F2 H2 (endK (k0 r)) D := o
          cases hk : k0 r with
          | nx ρ' => rw [hk] at o; exact o.elim
          | bk ρ' => rw [hk] at o; exact o.elim
          | ct ρ' => rw [hk] at o; exact o.elim
          | bad => rw [hk] at o; exact o.elim
          | rt x ρ' => rw [hk] at o; exact o
          | ex x ρ' => rw [hk] at o; exact o
end
/-! ### readings -/
section
variable {ρ ρ1 : DEnv} {j : Nat} {p : Addr} {op : List D → Option Val} {op2 : D → D → Option Val} {f : EM} {B : AskX} {k : RF → R Val} {B1 B2 : Ask} {k1 : RF → RS} {t : M Bool}
def askKx (ρ : DEnv) (r : RF) : R Val := match r with
  | .ret (.d d) _ => .ok (.d d) (dataOnly ρ)
  | .ex x _ => .ex x (dataOnly ρ)
  | _ => .bad
def callK (op : List D → Option Val) (k : RF → R Val) (r : RF) : R Val := (k r).bind fun v ρ1 => callV op [v] ρ1
def cmpK (op2 : D → D → Option Val) (k : RF → R Val) (f : EM) (r : RF) : R Val := (k r).bind fun x ρ1 => (f ρ1).bind fun y ρ2 => opV op2 x y ρ2
def retK (k : RF → R Val) (r : RF) : RS := (k r).bindS fun x ρ1 => .rt x ρ1
theorem askB_eq (h : ρ[j]? = some (.d (.set [Int.ofNat p]))) : askB j p ρ = some (askKx ρ) := by
  unfold askB
  rw [if_pos (isTh_of h)]
  rfl
theorem callA_eq (h : B ρ = some k) : callA op B ρ = some (callK op k) := by
  unfold callA
  rw [h]
  rfl
theorem cmpA_eq (h : B ρ = some k) : cmpA op2 B f ρ = some (cmpK op2 k f) := by
  unfold cmpA
  rw [h]
  rfl
theorem retA_eq (h : B ρ = some k) : retA B ρ = some (retK k) := by
  unfold retA
  rw [h]
  rfl
theorem ifA_t (h : t ρ = .ok true ρ1) (h1 : B1 ρ1 = some k1) : ifA t B1 B2 ρ = some fun r => endK (k1 r) := by
  unfold ifA
  rw [h]
  dsimp only
  rw [h1]
  rfl
theorem ifA_f (h : t ρ = .ok false ρ1) (h1 : B2 ρ1 = some k1) : ifA t B1 B2 ρ = some k1 := by
  unfold ifA
  rw [h]
  exact h1
end
end DL
set_option maxHeartbeats 1000000
/-! DL118: a def with *args alone, called without arguments. -/
namespace DL
open PySem PySem.Spec PyProof.Rows L2
/-- an operation, as data; a log, as data; one that is a log if its operations are -/
def opW : D → Bool
  | .tup [.str k, .int v, .int b, .int e] => (decide (k = ("read" : Str)) || decide (k = ("write" : Str))) && (decide (-1000000000000000000000 ≤ v) && decide (v ≤ 1000000000000000000000)) && (decide (-1000000000000000000000 ≤ b) && decide (b ≤ 1000000000000000000000)) && (decide (-1000000000000000000000 ≤ e) && decide (e ≤ 1000000000000000000000))
  | _ => false
def okW : D → Bool
  | .tup ds => decide (ds.length ≤ 3000) && ds.all opW
  | _ => false
def wrW : D → Option Int
  | .tup [.str k, .int v, _, _] => if k = ("write" : Str) then some v else none
  | _ => none
def goodW : D → Bool
  | .tup ds => decide (ds.length ≤ 200) && decide (ds.filterMap wrW).Nodup
  | _ => false
open PySem PySem.Spec PyProof.Rows L2
section
variable [TabT] {X : Cx} {W : WX} {x : Str} {f : Addr} {Fm : FM} {p pos : Pos} {k : Nat}
theorem de_callS0 (G : GStar X.prog X.w X.K X.mg X.base k f Fm) (hr : Room k X.A) (hG : NoGd X.A) (tk : Takes X W) (hg : Gl X x) (hm : X.mg x = some (.ref f)) (hk : PySem.W.keepIn X.K (.ref f) = true)
    (hdb : (x == ("__debug__" : Str)) = false := by decide) : DE X W (.Call (.Name x p) [] [] pos) (eCallS Fm aNil) := by
  refine ⟨fun pins s σ H Q I hq => ?_⟩
  obtain ⟨F, ρ, sr, q⟩ := hq
  refine wpAny_Call_Name_kw (ld_glob I hg hm (PySem.W.callWith_K0 I.kIn hk (wpAny_call ?_)) hdb)
  have sp : spStar X.K X.mg Fm [] H Q (fun c d H => W c d σ H) := by
    refine ⟨Nat.zero_le _, fun q' n => ?_⟩
    have gg := Gr.froz (o := .tup []) sr.sub n
    have o1 : Out X.K X.mg (fun c d H => W c d σ H) (relV X.K σ) σ ρ F H (callF Fm [.d (.tup [])] ρ) Q := q
    have vt : VR X.K σ H (upd F q' (.tup [])) (upd H q' (.tup [])) ρ (V.ref q') (.d (.tup [])) := Gr.vtup sr .nil n
    have rl : VRL X.K σ H (upd F q' (.tup [])) (upd H q' (.tup [])) ρ [V.ref q'] [.d (.tup [])] := ⟨.cons vt .nil, fun i j c c' p h => by cases i with | zero => simp at h | succ i => simp at h⟩
    exact call_ok (ps := [("" : Str)]) (gg.sr sr) gg.ev rl rfl o1
  refine codeAny_mono (G X.A X.stack s H [] [] Q _ hr hG I.env0 .nil sp) fun r s' hq => ?_
  cases r with
  | error e => exact tk e s' (XE.of_call I (fun cls d H' h => h) hq)
  | ok fl =>
    cases fl with
    | ret u => exact I.after hq
    | next => exact hq
    | brk => exact hq
    | cont => exact hq
end
end DL
set_option maxHeartbeats 4000000
/-! DL119: a tuple times 1 is the tuple itself. -/
namespace DL
open PySem PySem.Spec PyProof.Rows L2
theorem tuple_mul1 (l : Addr) (items : Array Value) (n : Nat) (dd : Option Addr) (sl : Array (Option Value)) (u : Tok) :
    Meets (Builtin.«tuple.__mul__» ⟨[.ref l, .int 1 u], []⟩) (fun _ R s => s.heap.get? l = some { cls := .type "tuple", dict := dd, data := .seq items n, slots := sl } ∧ R (.ok (.ret (Value.ref l))) s) :=
  .of_wp fun prog w A R s h => by
    obtain ⟨hp, g, d, tk, os⟩ := s
    obtain ⟨hl, h⟩ := h
    have f1 := AutoSeq1.idx_int
    wp_walk using wpAny_loadPart' hl
    exact ⟨_, rfl, h⟩
def rRep1 (K : PySem.W.Frag) : R2 := fun x y H Q => ∃ l xs, x = .ref l ∧ y = .int 1 ∧ SqT K H l xs ∧ Q (.ref l) H
theorem op_rep1 {X : Cx} : OpR X (binaryOp .Mult) (rRep1 X.K) := by
  intro pins s σ H x y v u Q I rx ry h
  obtain ⟨l, xs, rfl, rfl, hT, q⟩ := h
  cases rx
  obtain ⟨t, rfl⟩ := ry
  obtain ⟨its, r, ⟨⟨cls, dd, data, sl⟩, ho, hc, n, hd⟩, hs⟩ := I.tuple hT
  simp only at hc hd
  subst hc hd
  refine wpAny_binaryOp_repeat_ref (T := "tuple") (U := "int") (by decide) ⟨_, ho, rfl⟩ (fun s' => typeIs_int s' 1 t) noFill_tuple_mul F.fills_int_mul F.slot_int_rmul repeat_tuple F.slot_int_index.lookup
    (call_meets F.slot_int_rmul (typeIs_int s 1 t) F.entry_int_rmul (F.args_int_rmul_2 _ _) (int_rmul_tuple 1 t l its.toArray n dd sl)
      ⟨ho, rfl, ⟨_, ho, rfl⟩, call_meets F.slot_tuple_mul ⟨_, ho, rfl⟩ F.entry_tuple_mul (F.args_tuple_mul_2 _ _) (tuple_mul1 l its.toArray n dd sl t) ⟨ho, ?_⟩⟩)
  exact ⟨.ref l, _, I, rfl, q⟩
section
variable [TabT]
def repT1 : D → D → Option Val
  | .tup xs, .int k => if k = 1 then some (.d (.tup xs)) else none
  | _, _ => none
theorem os_repT1 {K : PySem.W.Frag} : OpS K (rRep1 K) repT1 := by
  intro F H v w a b z Q s ra rb e q
  unfold repT1 at e
  split at e
  · obtain ⟨l, xs, rfl, hl, r⟩ := ra.tup s
    obtain rfl := rb.int
    split at e
    · rename_i h
      cases e
      subst h
      exact ⟨l, xs, rfl, rfl, hl, vn_d s q ra⟩
    · cases e
  · cases e
def repW : D → D → Option Val := fun a b => match repT a b with | some z => some z | none => repT1 a b
theorem de_mulW {X : Cx} {E : WX} {a b : Expr} {f g : EM} {pos : Pos} (ha : DE X E a f) (hb : DE X E b g) : DE X E (.BinOp a .Mult b pos) (eOp repW f g) := de_op (opr_u op_repT op_rep1) (os_or os_repT os_repT1) ha hb
end
theorem x_repW {ρ : DEnv} {x y : Val} {Q : Val → DEnv → Prop} {X : Ex → DEnv → Prop} {xs : List D} {k : Int} (h1 : x.peek ρ = some (.tup xs)) (h2 : y.peek ρ = some (.int k)) (h0 : 0 < xs.length) (hk : 1 ≤ k ∧ k ≤ 1000) (hl : xs.length ≤ 1000) (q : Q (.d (.tup (List.replicate k.toNat xs).flatten)) ρ) : (opV repW x y ρ).wp Q X := by
  refine b_opV h1 h2 ?_ q
  unfold repW repT
  by_cases h : 2 ≤ k
  · dsimp only
    rw [if_pos ⟨h0, h, hk.2, hl⟩]
  · obtain rfl : k = 1 := by omega
    dsimp only
    rw [if_neg (by omega)]
    show repT1 (.tup xs) (.int 1) = _
    have e : repT1 (.tup xs) (.int 1) = some (.d (.tup xs)) := rfl
    rw [e]
    simp
end DL
set_option maxHeartbeats 4000000
namespace K16
open PySem PySem.Spec PyProof.Rows L2 DL
noncomputable section
/-! is_integer (common: CM.s_is_integer): slots 0 value, 1 least, 2 greatest -/
def ps_is_integer : List Str := [("value" : Str), ("least" : Str), ("greatest" : Str)]
/-! are_stamps (common: CM.s_are_stamps): slots 0 begin, 1 end -/
def ps_are_stamps : List Str := [("begin" : Str), ("end" : Str)]
/-! is_operation (common: CM.s_is_operation): slots 0 value, 1 kind, 2 written, 3 begin, 4 end -/
def ps_is_operation : List Str := [("value" : Str)]
/-! is_log (common: CM.s_is_log): slots 0 value, 1 written, 2 one -/
def ps_is_log : List Str := [("value" : Str)]
/-! checked: slots 0 log -/
def ps_checked : List Str := [("log" : Str)]
def e_checked : SM := (sSeq (sIf (tNotM (tst (eCall CM.s_is_log (aCons (eVar 0) aNil))))
    (sRaise ("BadLog" : Str) [("value" : Str)] (aCons (eVar 0) aNil))
    sSkip)
    (sRet (eVar 0)))
def s_checked : FM := fnD 1 0 e_checked
/-! joined: slots 0 logs, 1 log, 2 one -/
def ps_joined : List Str := [("logs" : Str)]
def e_joined : SM := (sRet (eCall s_checked (aCons (eCallB tupleD (aCons (eCat 0 1 2) aNil)) aNil)))
def s_joined : FM := fnD 1 2 e_joined
/-! _law_pot (common: CM.s_l_pot): slots 0 _law_script, 1 _law_k, 2 _law_cell, 3 _law_own -/
def ps__law_pot : List Str := [("_law_script" : Str), ("_law_k" : Str)]
/-! _law_draw (common: CM.s_l_draw): slots 0 _law_pot_here, 1 _law_many, 2 _law_prime, 3 _law_mixed_here, 4 _law_digit -/
def ps__law_draw : List Str := [("_law_pot_here" : Str), ("_law_many" : Str)]
/-! _law_any (common: CM.s_l_any): slots 0 _law_pot_here, 1 _law_items -/
def ps__law_any : List Str := [("_law_pot_here" : Str), ("_law_items" : Str)]
/-! _law_mixed (common: CM.s_l_mixed): slots 0 _law_pot_here, 1 _law_items, 2 _law_left, 3 _law_found -/
def ps__law_mixed : List Str := [("_law_pot_here" : Str), ("_law_items" : Str)]
/-! _law_wild (common: CM.s_l_wild): slots 0 _law_pot_here, 1 _law_most, 2 _law_room, 3 _law_turn, 4 _law_found, 5 _law_written, 6 _law_begin, 7 _law_kind, 8 _law_value, 9 _law_some -/
def ps__law_wild : List Str := [("_law_pot_here" : Str), ("_law_most" : Str), ("_law_room" : Str)]
/-! _law_true (common: CM.s_l_true): slots 0 _law_pot_here, 1 _law_many, 2 _law_off, 3 _law_step, 4 _law_names, 5 _law_turn, 6 _law_found, 7 _law_value, 8 _law_time, 9 _law_kind, 10 _law_ends, 11 _law_begin, 12 _law_end -/
def ps__law_true : List Str := [("_law_pot_here" : Str), ("_law_many" : Str), ("_law_off" : Str), ("_law_step" : Str)]
/-! _law_caught: slots 0 _law_ask, 1 _law_caught_here, 2 error -/
def ps__law_caught : List Str := [("_law_ask" : Str)]
def e__law_caught (p : Addr) : Ask := (preA (sAsg 1 (eC .non))
    (postA (tryA [("BadLog" : Str)] (expA 0 p)
    ((("CellError" : Str), some 2, (sAsg 1 (eVar 2))) :: []))
    (sRet (eVar 1))))
def s__law_caught (p : Addr) : AskF := fnA 1 2 (e__law_caught p)
/-! _law_right_of: slots 0 _law_ask, 1 _law_whole, 2 _law_writes, 3 _law_caught_here, 4 _law_one -/
def ps__law_right_of : List Str := [("_law_ask" : Str), ("_law_whole" : Str)]
abbrev c1__law_right_of : EM := eLc [4] (iSeq (eVar 1)) (asgV 4) (tst (eOp eqV' (eOp idxD (eVar 4) (eC (.int 0))) (eC (.str ("write" : Str))))) (fz (eOp idxD (eVar 4) (eC (.int 1))))
def e__law_right_of (p : Addr) : Ask := (preA (sAsg 2 c1__law_right_of)
    (ifA (tAndM (tst (eOp leD (eCallB lenD (aCons (eVar 1) aNil)) (eC (.int 200)))) (tst (eOp eqV' (eLenSet (eVar 2)) (eCallB lenD (aCons (eVar 2) aNil)))))
    (retA (cmpA eqV' (callA reprX (askB 0 p)) (eCallB reprX (aCons (eVar 1) aNil))))
    (postA (passA 3 0 p (s__law_caught p))
    (sSeq (sIf (tOrM (tNotM (tst (eIsO [("BadLog" : Str)] ("BadLog" : Str) (eVar 3)))) (tst (eIsO [("BadLog" : Str)] ("BadOperation" : Str) (eVar 3))))
    (sRet (eC (.bl false)))
    sSkip)
    (sRet (eAnd (eIsO [("BadLog" : Str)] ("ValueError" : Str) (eVar 3)) (eOp eqV' (eCallB reprX (aCons (eAtO [("BadLog" : Str)] ("value" : Str) (eVar 3)) aNil)) (eCallB reprX (aCons (eVar 1) aNil)))))))))
def s__law_right_of (p : Addr) : AskF := fnA 2 3 (e__law_right_of p)
def t__law_right_of : List D → RF → RF
  | [due], .ret (.d d) _ => if (okW due && goodW due && okW d) = true then .ret (.d (.bl (decide (shownD d = shownD due)))) [] else .bad
  | [due], .ex ⟨c, [f], [d]⟩ _ => if c = ("BadLog" : Str) ∧ f = ("value" : Str) ∧ (okW due && !goodW due && okW d) = true then .ret (.d (.bl (decide (shownD d = shownD due)))) [] else .bad
  | _, _ => .bad
/-! _law_lifted: slots 0 _law_log, 1 _law_by, 2 _law_one -/
def ps__law_lifted : List Str := [("_law_log" : Str), ("_law_by" : Str)]
abbrev c1__law_lifted : EM := eLc [2] (iSeq (eVar 0)) (asgV 2) tYesD (fz (eTup (aCons (fz (eOp idxD (eVar 2) (eC (.int 0)))) (aCons (fz (eOp addD (eOp idxD (eVar 2) (eC (.int 1))) (eOp mulD (eVar 1) (eCallB intD (aCons (eOp gtD (eOp idxD (eVar 2) (eC (.int 1))) (eC (.int 0))) aNil))))) (aCons (fz (eOp idxD (eVar 2) (eC (.int 2)))) (aCons (fz (eOp idxD (eVar 2) (eC (.int 3)))) aNil))))))
def e__law_lifted : SM := (sRet (eCallB tupleD (aCons c1__law_lifted aNil)))
def s__law_lifted : FM := fnD 2 1 e__law_lifted
/-! _law_right: slots 0 _law_pot_here, 1 _law_turn, 2 _law_some, 3 _law_told, 4 _law_due, 5 _law_ten, 6 _law_many, 7 _law_read, 8 _law_one, 9 _law_other, 10 _law_third, 11 _law_kept, 12 _law_number, 13 _law_at -/
def ps__law_right : List Str := [("_law_pot_here" : Str)]
abbrev c1__law_right : EM := (fz (eCallS s_joined (aCons (eVar 8) (aCons (eVar 9) aNil))))
abbrev c2__law_right : EM := (fz (eCallS s_joined (aCons (eVar 9) (aCons (eVar 10) (aCons (eTup aNil) (aCons (eVar 8) aNil))))))
abbrev c3__law_right : EM := (fz (eCallS s_joined (aCons (eVar 8) (aCons (eVar 8) aNil))))
abbrev l1__law_right : SM := sFor (iRng (aCons (eC (.int 5)) aNil)) (asgV 1)
    (sSeq (sPar [8, 9] (aCons (nsl (eCall CM.s_l_wild (aCons (eVar 0) (aCons (eC (.int 8)) (aCons (eC (.int 9)) aNil))))) (aCons (nsl (eCall s__law_lifted (aCons (eCall CM.s_l_wild (aCons (eVar 0) (aCons (eC (.int 8)) (aCons (eC (.int 9)) aNil)))) (aCons (eCall CM.s_l_any (aCons (eVar 0) (aCons (eLst (aCons (eC (.int 0)) (aCons (eC (.int 10)) (aCons (fz (eOp powD (eC (.int 10)) (eC (.int 8)))) aNil)))) aNil))) aNil)))) aNil)))
    (sSeq (sPar [10, 11] (aCons (nsl (eCall s__law_lifted (aCons (eCall CM.s_l_true (aCons (eVar 0) (aCons (eC (.int 6)) (aCons (eC (.int 2)) (aCons (eC (.int 3)) aNil))))) (aCons (eCall CM.s_l_any (aCons (eVar 0) (aCons (eLst (aCons (eC (.int 0)) (aCons (eC (.int 100)) aNil))) aNil))) aNil)))) (aCons (nsl (eCallB reprX (aCons (eTup (aCons (fz (eVar 8)) (aCons (fz (eVar 9)) aNil))) aNil))) aNil)))
    (sSeq (sIf (tNotM (tst (eCallE t__law_right_of c1__law_right (aCons (eOp addD (eVar 8) (eVar 9)) aNil))))
    (sRet (eC (.bl false)))
    sSkip)
    (sSeq (sIf (tNotM (tst (eCallE t__law_right_of c2__law_right (aCons (eOp addD (eOp addD (eVar 9) (eVar 10)) (eVar 8)) aNil))))
    (sRet (eC (.bl false)))
    sSkip)
    (sIf (tOrM (tst (eOp neV' (eCallS s_joined (aCons (eVar 8) aNil)) (eVar 8))) (tOrM (tNotM (tst (eCallE t__law_right_of c3__law_right (aCons (eOp addD (eVar 8) (eVar 8)) aNil)))) (tst (eOp neV' (eCallB reprX (aCons (eTup (aCons (fz (eVar 8)) (aCons (fz (eVar 9)) aNil))) aNil)) (eVar 11)))))
    (sRet (eC (.bl false)))
    sSkip)))))
abbrev c4__law_right : EM := eLc [12] (iRng (aCons (eC (.int 1)) (aCons (eC (.int 8)) aNil))) (asgV 12) tYesD (fz (eCall s__law_lifted (aCons (eCall CM.s_l_wild (aCons (eVar 0) (aCons (eC (.int 4)) (aCons (eC (.int 9)) aNil)))) (aCons (eOp mulD (eC (.int 10)) (eVar 12)) aNil))))
abbrev c5__law_right : EM := (fz (eCallS s_joined (aCons (eOp idxD (eVar 2) (eC (.int 5))) (aCons (eOp idxD (eVar 2) (eC (.int 1))) (aCons (eOp idxD (eVar 2) (eC (.int 2))) (aCons (eTup aNil) (aCons (eOp idxD (eVar 2) (eC (.int 0))) (aCons (eOp idxD (eVar 2) (eC (.int 1))) aNil))))))))
abbrev c6__law_right : EM := eLc [13] (iRng (aCons (eC (.int 10)) aNil)) (asgV 13) tYesD (fz (eTup (aCons (fz (eTup (aCons (eC (.str ("read" : Str))) (aCons (fz (eOp modD (eVar 13) (eC (.int 3)))) (aCons (fz (eVar 13)) (aCons (fz (eOp addD (eVar 13) (eCall CM.s_l_draw (aCons (eVar 0) (aCons (eC (.int 9)) aNil))))) aNil)))))) aNil)))
abbrev c7__law_right : EM := eLc [8] (iSeq (eVar 5)) (asgV 8) tYesD (fz (eOp idxD (eVar 8) (eC (.int 0))))
abbrev c8__law_right : EM := (fz (eCallS s_joined (aCons (eOp repW (eVar 7) (eVar 6)) (aCons (eOp repW (eVar 7) (eOp subD (eC (.int 201)) (eVar 6))) aNil))))
def e__law_right : SM := (sSeq l1__law_right
    (sSeq (sAsg 2 c4__law_right)
    (sSeq (sAsg 3 (eCallS s_joined (aCons (eOp idxD (eVar 2) (eC (.int 0))) (aCons (eOp idxD (eVar 2) (eC (.int 1))) (aCons (eOp idxD (eVar 2) (eC (.int 2))) (aCons (eOp idxD (eVar 2) (eC (.int 3))) (aCons (eOp idxD (eVar 2) (eC (.int 4))) (aCons (eOp idxD (eVar 2) (eC (.int 5))) (aCons (eOp idxD (eVar 2) (eC (.int 6))) aNil)))))))))
    (sSeq (sAsg 4 (eOp addD (eOp addD (eOp addD (eOp idxD (eVar 2) (eC (.int 0))) (eOp idxD (eVar 2) (eC (.int 1)))) (eOp idxD (eVar 2) (eC (.int 2)))) (eOp idxD (eVar 2) (eC (.int 3)))))
    (sSeq (sIf (tst (eOp neV' (eVar 3) (eOp addD (eOp addD (eOp addD (eVar 4) (eOp idxD (eVar 2) (eC (.int 4)))) (eOp idxD (eVar 2) (eC (.int 5)))) (eOp idxD (eVar 2) (eC (.int 6))))))
    (sRet (eC (.bl false)))
    sSkip)
    (sSeq (sAsg 4 (eOp addD (eOp addD (eOp addD (eOp addD (eOp idxD (eVar 2) (eC (.int 5))) (eOp idxD (eVar 2) (eC (.int 1)))) (eOp idxD (eVar 2) (eC (.int 2)))) (eOp idxD (eVar 2) (eC (.int 0)))) (eOp idxD (eVar 2) (eC (.int 1)))))
    (sSeq (sIf (tNotM (tst (eCallE t__law_right_of c5__law_right (aCons (eVar 4) aNil))))
    (sRet (eC (.bl false)))
    sSkip)
    (sSeq (sAsg 5 c6__law_right)
    (sSeq (sAsg 3 (eCallS s_joined (aCons (eOp idxD (eVar 5) (eC (.int 0))) (aCons (eOp idxD (eVar 5) (eC (.int 1))) (aCons (eOp idxD (eVar 5) (eC (.int 2))) (aCons (eOp idxD (eVar 5) (eC (.int 3))) (aCons (eOp idxD (eVar 5) (eC (.int 4))) (aCons (eOp idxD (eVar 5) (eC (.int 5))) (aCons (eOp idxD (eVar 5) (eC (.int 6))) (aCons (eOp idxD (eVar 5) (eC (.int 7))) (aCons (eOp idxD (eVar 5) (eC (.int 8))) (aCons (eOp idxD (eVar 5) (eC (.int 9))) aNil))))))))))))
    (sSeq (sIf (tst (eOp neV' (eVar 3) (eCallB tupleD (aCons c7__law_right aNil))))
    (sRet (eC (.bl false)))
    sSkip)
    (sSeq (sPar [6, 7] (aCons (nsl (eCall CM.s_l_any (aCons (eVar 0) (aCons (eLst (aCons (eC (.int 100)) (aCons (eC (.int 150)) (aCons (eC (.int 199)) aNil)))) aNil)))) (aCons (nsl (eTup (aCons (fz (eTup (aCons (eC (.str ("read" : Str))) (aCons (eC (.int 0)) (aCons (eC (.int 1)) (aCons (eC (.int 2)) aNil)))))) aNil))) aNil)))
    (sSeq (sIf (tOrM (tst (eOp neV' (eCallS s_joined (aCons (eOp repW (eVar 7) (eVar 6)) (aCons (eOp repW (eVar 7) (eOp subD (eC (.int 200)) (eVar 6))) aNil))) (eOp repW (eVar 7) (eC (.int 200))))) (tOrM (tst (eOp neV' (eCallS s_joined aNil) (eTup aNil))) (tst (eOp neV' (eCallS s_joined (aCons (eTup aNil) (aCons (eTup aNil) aNil))) (eTup aNil)))))
    (sRet (eC (.bl false)))
    sSkip)
    (sRet (eCallE t__law_right_of c8__law_right (aCons (eOp repW (eVar 7) (eC (.int 201))) aNil)))))))))))))))
def s__law_right : FM := fnD 1 13 e__law_right
/-! law: slots 0 _law_script, 1 _law_k -/
def ps_law : List Str := [("_law_script" : Str)]
abbrev c1_law : EM := eLc [1] (iRng (aCons (eCallB maxD (aCons (eC (.int 1)) (aCons (eCallB minD (aCons (eC (.int 3)) (aCons (eCallB lenD (aCons (eVar 0) aNil)) aNil))) aNil))) aNil)) (asgV 1) tYesD (fz (eCall s__law_right (aCons (eCall CM.s_l_pot (aCons (eVar 0) (aCons (eVar 1) aNil))) aNil)))
def e_law : SM := (sRet (eCallB allD (aCons c1_law aNil)))
def s_law : FM := fnD 1 1 e_law
end
end K16
set_option maxHeartbeats 1000000
namespace K16
open PySem PySem.Spec PyProof.Rows L2 DL CM
/-- a log's operations as data with bounds -/
structure WB (l : Log) : Prop where
  len : l.length ≤ 3000
  bd : ∀ o ∈ l, (-1000000000000000000000 ≤ o.v ∧ o.v ≤ 1000000000000000000000) ∧ (-1000000000000000000000 ≤ o.b ∧ o.b ≤ 1000000000000000000000) ∧ -1000000000000000000000 ≤ o.e ∧ o.e ≤ 1000000000000000000000
theorem opW_of {x : D} (h : opW x = true) : ∃ o : Op, x = o.d ∧ ((-1000000000000000000000 ≤ o.v ∧ o.v ≤ 1000000000000000000000) ∧ (-1000000000000000000000 ≤ o.b ∧ o.b ≤ 1000000000000000000000) ∧ -1000000000000000000000 ≤ o.e ∧ o.e ≤ 1000000000000000000000) := by
  unfold opW at h
  split at h
  · rename_i k v b e
    simp only [Bool.and_eq_true, Bool.or_eq_true, decide_eq_true_eq] at h
    obtain ⟨⟨⟨hk, hv⟩, hb⟩, he⟩ := h
    rcases hk with rfl | rfl
    · exact ⟨⟨false, v, b, e⟩, rfl, hv, hb, he⟩
    · exact ⟨⟨true, v, b, e⟩, rfl, hv, hb, he⟩
  · cases h
theorem okW_of {d : D} (h : okW d = true) : ∃ l : Log, d = l.d ∧ WB l := by
  unfold okW at h
  split at h
  · rename_i ds
    simp only [Bool.and_eq_true, decide_eq_true_eq, List.all_eq_true] at h
    obtain ⟨hl, ha⟩ := h
    have : ∃ l : Log, ds = l.map Op.d ∧ ∀ o ∈ l, ((-1000000000000000000000 ≤ o.v ∧ o.v ≤ 1000000000000000000000) ∧ (-1000000000000000000000 ≤ o.b ∧ o.b ≤ 1000000000000000000000) ∧ -1000000000000000000000 ≤ o.e ∧ o.e ≤ 1000000000000000000000) := by
      clear hl
      induction ds with
      | nil => exact ⟨[], rfl, fun o h => (nomatch h)⟩
      | cons x ds ih =>
        obtain ⟨l, rfl, hb⟩ := ih fun y hy => ha y (List.mem_cons_of_mem _ hy)
        obtain ⟨o, rfl, ho⟩ := opW_of (ha x List.mem_cons_self)
        exact ⟨o :: l, rfl, fun p hp => by
          rcases List.mem_cons.mp hp with rfl | hp
          · exact ho
          · exact hb p hp⟩
    obtain ⟨l, rfl, hb⟩ := this
    exact ⟨l, rfl, by rw [List.length_map] at hl; exact hl, hb⟩
  · cases h
theorem wrW_d {l : Log} : (l.map Op.d).filterMap wrW = l.wr := by
  induction l with
  | nil => rfl
  | cons o l ih =>
    obtain ⟨w, v, b, e⟩ := o
    cases w
    · rw [List.map_cons, List.filterMap_cons_none (by rfl), ih]
      rfl
    · rw [List.map_cons, List.filterMap_cons_some (b := v) (by rfl), ih]
      rfl
theorem good_d {l : Log} : goodW l.d = (decide (l.length ≤ 200) && decide l.wr.Nodup) := by
  unfold Log.d goodW
  simp only [List.length_map, wrW_d]
theorem opd_gd {o : Op} (h : (-1000000000000000000000 ≤ o.v ∧ o.v ≤ 1000000000000000000000) ∧ (-1000000000000000000000 ≤ o.b ∧ o.b ≤ 1000000000000000000000) ∧ -1000000000000000000000 ≤ o.e ∧ o.e ≤ 1000000000000000000000) : Gd 1 5 o.d ∧ o.d.tiny = true := by
  obtain ⟨w, v, b, e⟩ := o
  obtain ⟨⟨v1, v2⟩, ⟨b1, b2⟩, e1, e2⟩ := h
  dsimp only at v1 v2 b1 b2 e1 e2
  have big : (2 : Nat) ^ 200 = 1606938044258990275541962092341162602522202993782792835301376 := by decide +kernel
  have big2 : (10 : Nat) ^ 64 = 10000000000000000000000000000000000000000000000000000000000000000 := by decide +kernel
  have gk : ∀ k : Str, (k = "read" ∨ k = "write") → (D.str k).good = true ∧ (D.str k).short = true ∧ (D.str k).tiny = true := fun k hk => by rcases hk with rfl | rfl <;> exact ⟨by decide +kernel, by decide +kernel, by decide +kernel⟩
  have key : ∀ k : Str, (k = "read" ∨ k = "write") → Gd 1 5 (.tup [.str k, .int v, .int b, .int e]) ∧ (D.tup [.str k, .int v, .int b, .int e]).tiny = true := fun k hk => by
    obtain ⟨g1, g2, g3⟩ := gk k hk
    refine ⟨⟨by simp_all [D.good, goodL], ?_, by simp [D.dep, depL], by simp [D.cnt, cntL]⟩, ?_⟩
    · simp only [D.short, shortL] at g2 ⊢
      simp only [Bool.and_eq_true, decide_eq_true_eq, Bool.and_true]
      refine ⟨by simpa using g2, ?_, ?_, ?_⟩ <;> (rw [big]; omega)
    · simp only [D.tiny, tinyL] at g3 ⊢
      simp only [Bool.and_eq_true, decide_eq_true_eq, Bool.and_true]
      refine ⟨by simpa using g3, ?_, ?_, ?_⟩ <;> (rw [big2]; omega)
  cases w
  · exact key "read" (.inl rfl)
  · exact key "write" (.inr rfl)
theorem tinyL_iff {xs : List D} : tinyL xs = true ↔ ∀ x ∈ xs, x.tiny = true := by
  induction xs with
  | nil => simp [tinyL]
  | cons x xs ih => simp [tinyL, ih]
theorem WB.gd {l : Log} (h : WB l) : Gd 2 15001 (Log.d l) ∧ (Log.d l).tiny = true := by
  refine ⟨Gd.tupN (k := 1) (n := 5) (ds := l.map Op.d) (fun x hx => ?_) (by have := h.len; rw [List.length_map]; omega), ?_⟩
  · obtain ⟨o, ho, rfl⟩ := List.mem_map.mp hx
    exact (opd_gd (h.bd o ho)).1
  · show tinyL (l.map Op.d) = true
    refine tinyL_iff.mpr fun x hx => ?_
    obtain ⟨o, ho, rfl⟩ := List.mem_map.mp hx
    exact (opd_gd (h.bd o ho)).2
theorem x_reprW {ρ : DEnv} {vs : List Val} {l : Log} {Q : Val → DEnv → Prop} {X : Ex → DEnv → Prop} (h1 : peekL ρ vs = some [l.d]) (h : WB l) (q : Q (.d (.str (shownD l.d))) ρ) : (callV reprX vs ρ).wp Q X :=
  b_callV h1 (h.gd.1.repr1T h.gd.2 (by decide) (by decide)) q
theorem checked_wp {m : Log} {ds : List D} {Q : Val → DEnv → Prop} {X : Ex → DEnv → Prop} (e : ds = m.map Op.d) (hl : m.length < 4000) (q1 : m.okB = true → Q (.d m.d) [.d m.d]) (q2 : m.okB = false → X ⟨"BadLog", ["value"], [m.d]⟩ [.d m.d]) : (s_checked [.d (.tup ds)]).wp Q X := by
  subst e
  show (s_checked [.d m.d]).wp Q X
  unfold s_checked e_checked; with_reducible refine f_fnW (by with_unfolding_all exact rfl) ?_
  (repeat (case orE => (fail "WU1"); (with_reducible refine islog_wp hl ?_)))
  cases h : m.okB with
  | true =>
    repeat fail "WU1"
    exact q1 h
  | false =>
    (repeat (case orE => (fail "WU1"); (with_reducible refine s_raise ?_); (with_reducible refine s_raiseV (by with_unfolding_all exact rfl) (by with_unfolding_all exact rfl) ?_)))
    exact q2 h
/-! the defs that ask -/
theorem caught_k {p : Addr} : ∃ k, s__law_caught p [.d (.set [Int.ofNat p])] = some k ∧ ∀ d as, k (.ex ⟨"BadLog", ["value"], [d]⟩ as) = .ret (.d (.obj "BadLog" ["value"] [d])) [] := by
  refine ⟨_, fnA_eq rfl (preA_eq (ρ1 := [.d (.set [Int.ofNat p]), .d .non, .un]) (by with_unfolding_all exact rfl) (postA_eq (tryA_eq (expA_eq (by with_unfolding_all exact rfl))))), fun d as => ?_⟩
  with_unfolding_all exact rfl
theorem nx_of {rs : RS} {ρ1 : DEnv} (h : rs.wp { nx := fun ρ => ρ = ρ1, rt := fun _ _ => False }) : rs = .nx ρ1 := by
  cases rs <;> first | exact congrArg RS.nx h | exact h.elim
theorem ok_of {α : Type} {r : R α} {b : α} {ρ1 : DEnv} (h : r.wp (fun v ρ => v = b ∧ ρ = ρ1) fun _ _ => False) : r = .ok b ρ1 := by
  cases r with
  | ok a ρ => obtain ⟨rfl, rfl⟩ := h; rfl
  | ex x ρ => exact h.elim
  | bad => exact h.elim
theorem val_of {α : Type} {r : R α} {b : α} (h : r.wp (fun v _ => v = b) fun _ _ => False) : ∃ ρ1, r = .ok b ρ1 := by
  cases r with
  | ok a ρ => exact ⟨ρ, congrArg (fun z => R.ok z ρ) h⟩
  | ex x ρ => exact h.elim
  | bad => exact h.elim
abbrev wrs (l : Log) : List D := (l.filter Op.w).map fun o => D.int o.v
theorem pre_eq {p : Addr} {l : Log} (h : WB l) : sAsg 2 c1__law_right_of [.d (.set [Int.ofNat p]), .d l.d, .un, .un, .un] = .nx [.d (.set [Int.ofNat p]), .d l.d, .ow (.lst (wrs l)) .own, .un, .un] := by
  have hl := h.len
  refine nx_of ?_
  repeat fail "WU5"
  with_unfolding_all exact rfl
abbrev testT : M Bool := tAndM (tst (eOp leD (eCallB lenD (aCons (eVar 1) aNil)) (eC (.int 200)))) (tst (eOp eqV' (eLenSet (eVar 2)) (eCallB lenD (aCons (eVar 2) aNil))))
theorem test_eq {p : Addr} {l : Log} (h : WB l) : testT [.d (.set [Int.ofNat p]), .d l.d, .ow (.lst (wrs l)) .own, .un, .un] = .ok (goodW l.d) [.d (.set [Int.ofNat p]), .d l.d, .ow (.lst (wrs l)) .own, .un, .un] := by
  have hl := h.len
  rw [good_d]
  refine ok_of ?_
  have hf := List.length_filter_le Op.w l
  (repeat (case orE => (fail "WU5"); (with_reducible refine x_lenSetM rfl (by omega) ?_)))
  refine ⟨?_, rfl⟩
  have e1 : decide ((l.length : Int) ≤ 200) = decide (l.length ≤ 200) := by
    rw [Bool.eq_iff_iff, decide_eq_true_eq, decide_eq_true_eq]
    omega
  have e2 : decide (((sortSetI ((l.filter Op.w).map Op.v)).length : Int) = ((l.filter Op.w).length : Int)) = decide l.wr.Nodup := by
    rw [Bool.eq_iff_iff, decide_eq_true_eq, decide_eq_true_eq, ← sortSet_nodup]
    rw [show Log.wr l = (l.filter Op.w).map Op.v from rfl, List.length_map]
    omega
  rw [e1, e2]
theorem ret_k {l m : Log} {ρ : DEnv} {x : DL.Slot} {as : DEnv} (hl : WB l) (hm : WB m) (h : ρ = [x, .d l.d, .un, .un, .un]) (hx : ∃ z, x = .d z) (ρ1 : DEnv) (hd : dataOnly ρ1 = ρ) :
    finE (endK (retK (cmpK eqV' (callK reprX (askKx ρ1)) (eCallB reprX (aCons (eVar 1) aNil))) (.ret (.d m.d) as))) = .ret (.d (.bl (decide (shownD m.d = shownD l.d)))) [] := by
  subst h
  obtain ⟨z, rfl⟩ := hx
  have e : ∃ ρ2, cmpK eqV' (callK reprX (askKx ρ1)) (eCallB reprX (aCons (eVar 1) aNil)) (.ret (.d m.d) as) = .ok (.d (.bl (decide (shownD m.d = shownD l.d)))) ρ2 := by
    refine val_of ?_
    show R.wp (R.bind (R.bind (R.ok (.d m.d) (dataOnly ρ1)) fun v ρ1 => callV reprX [v] ρ1) fun x ρ1 => (eCallB reprX (aCons (eVar 1) aNil) ρ1).bind fun y ρ2 => opV eqV' x y ρ2) _ _
    rw [hd]
    refine b_bind ?_
    show R.wp (callV reprX [.d m.d] _) _ _
    refine x_reprW (l := m) rfl hm ?_
    refine b_bind ?_
    (repeat (case orE => (fail "WU5"); (with_reducible refine x_reprW (by with_unfolding_all exact rfl) hl ?_)))
    rfl
  obtain ⟨ρ2, e⟩ := e
  unfold retK
  rw [e]
  with_unfolding_all exact rfl
abbrev postS : SM := sSeq (sIf (tOrM (tNotM (tst (eIsO [("BadLog" : Str)] ("BadLog" : Str) (eVar 3)))) (tst (eIsO [("BadLog" : Str)] ("BadOperation" : Str) (eVar 3))))
    (sRet (eC (.bl false)))
    sSkip)
    (sRet (eAnd (eIsO [("BadLog" : Str)] ("ValueError" : Str) (eVar 3)) (eOp eqV' (eCallB reprX (aCons (eAtO [("BadLog" : Str)] ("value" : Str) (eVar 3)) aNil)) (eCallB reprX (aCons (eVar 1) aNil)))))
theorem post_k {l m : Log} {z : D} (hl : WB l) (hm : WB m) : finE (postS [.d z, .d l.d, .un, .d (.obj "BadLog" ["value"] [m.d]), .un]) = .ret (.d (.bl (decide (shownD m.d = shownD l.d)))) [] := by
  refine th_retE (fE_wp ?_)
  (repeat (case orE => (with_reducible refine b_orW ?_); (with_reducible refine b_eAndK ?_); (fail "WU5"); (with_reducible refine b_isO ?_); (with_reducible refine b_isOV (by with_unfolding_all exact rfl) (by with_unfolding_all exact rfl) ?_); (with_reducible refine b_atO ?_); (with_reducible refine b_atOV (by with_unfolding_all exact rfl) (by with_unfolding_all exact rfl) (by with_unfolding_all exact rfl) ?_); (with_reducible refine x_reprW (l := m) (by with_unfolding_all exact rfl) hm ?_); (with_reducible refine x_reprW (l := l) (by with_unfolding_all exact rfl) hl ?_)))
  exact ⟨rfl, by with_unfolding_all exact rfl⟩
theorem t_ret {d due : D} {as : DEnv} (h : (okW due && goodW due && okW d) = true) : t__law_right_of [due] (.ret (.d d) as) = .ret (.d (.bl (decide (shownD d = shownD due)))) [] := by
  unfold t__law_right_of
  exact if_pos h
theorem t_retn {d due : D} {as : DEnv} (h : ¬ (okW due && goodW due && okW d) = true) : t__law_right_of [due] (.ret (.d d) as) = .bad := by
  unfold t__law_right_of
  exact if_neg h
theorem t_ex {d due : D} {as : DEnv} (h : (okW due && !goodW due && okW d) = true) : t__law_right_of [due] (.ex ⟨"BadLog", ["value"], [d]⟩ as) = .ret (.d (.bl (decide (shownD d = shownD due)))) [] := by
  unfold t__law_right_of
  exact if_pos ⟨rfl, rfl, h⟩
theorem t_exn {c f : Str} {d due : D} {as : DEnv} (h : ¬ (c = ("BadLog" : Str) ∧ f = ("value" : Str) ∧ (okW due && !goodW due && okW d) = true)) : t__law_right_of [due] (.ex ⟨c, [f], [d]⟩ as) = .bad := by
  unfold t__law_right_of
  exact if_neg h
theorem t_all {due : D} {k : RF → RF} (h1 : ∀ d as, t__law_right_of [due] (.ret (.d d) as) = .bad ∨ k (.ret (.d d) as) = t__law_right_of [due] (.ret (.d d) as)) (h2 : ∀ c f d as, t__law_right_of [due] (.ex ⟨c, [f], [d]⟩ as) = .bad ∨ k (.ex ⟨c, [f], [d]⟩ as) = t__law_right_of [due] (.ex ⟨c, [f], [d]⟩ as)) (r : RF) : t__law_right_of [due] r = .bad ∨ k r = t__law_right_of [due] r := by
  cases r with
  | bad => exact .inl rfl
  | ret x as =>
    cases x with
    | d d => exact h1 d as
    | fr c => exact .inl rfl
    | sl i => exact .inl rfl
  | ex x as =>
    obtain ⟨c, ns, vs⟩ := x
    match ns, vs with
    | [], _ => exact .inl rfl
    | f :: g :: ns, _ => exact .inl rfl
    | [f], [] => exact .inl rfl
    | [f], d :: e :: vs => exact .inl rfl
    | [f], [d] => exact h2 c f d as
theorem tr__law_right_of : ThResE s__law_right_of t__law_right_of := by
  refine ⟨fun p ds => ?_⟩
  match ds with
  | [] => exact .inl fun r => by cases r <;> rfl
  | _ :: _ :: _ => exact .inl fun r => by cases r <;> rfl
  | [due] =>
    by_cases hok : okW due = true
    · obtain ⟨l, rfl, hl⟩ := okW_of hok
      obtain ⟨kc, h1, h2⟩ := caught_k (p := p)
      rcases Bool.eq_false_or_eq_true (goodW l.d) with hg | hg
      · refine .inr ⟨_, fnA_eq rfl (preA_eq (pre_eq hl) (ifA_t (by exact (test_eq hl).trans (by rw [hg])) (retA_eq (cmpA_eq (callA_eq (askB_eq (by with_unfolding_all exact rfl))))))), t_all (fun d as => ?_) fun c f d as => ?_⟩
        · by_cases hd : okW d = true
          · obtain ⟨m, rfl, hm⟩ := okW_of hd
            exact .inr ((ret_k hl hm rfl ⟨_, rfl⟩ _ (by with_unfolding_all exact rfl)).trans (t_ret (by rw [hok, hg, hd]; rfl)).symm)
          · exact .inl (t_retn (by rw [hok, hg]; simpa using hd))
        · exact .inl (t_exn fun z => by have := z.2.2; rw [hok, hg] at this; simp at this)
      · refine .inr ⟨_, fnA_eq rfl (preA_eq (pre_eq hl) (ifA_f (by exact (test_eq hl).trans (by rw [hg])) (postA_eq (passA_eq (by with_unfolding_all exact rfl) h1)))), t_all (fun d as => ?_) fun c f d as => ?_⟩
        · exact .inl (t_retn (by rw [hok, hg]; simp))
        · by_cases hz : c = ("BadLog" : Str) ∧ f = ("value" : Str) ∧ okW d = true
          · obtain ⟨rfl, rfl, hd⟩ := hz
            obtain ⟨m, rfl, hm⟩ := okW_of hd
            refine .inr (Eq.trans ?_ (t_ex (by rw [hok, hg, hd]; rfl)).symm)
            have e : postK (passK 3 [.d (.set [Int.ofNat p]), .d l.d, .ow (.lst (wrs l)) .own, .un, .un] kc) postS (.ex ⟨"BadLog", ["value"], [m.d]⟩ as) = postS [.d (.set [Int.ofNat p]), .d l.d, .un, .d (.obj "BadLog" ["value"] [m.d]), .un] := by
              unfold postK passK
              rw [h2]
              with_unfolding_all exact rfl
            exact (congrArg finE e).trans (post_k hl hm)
          · exact .inl (t_exn fun z => hz ⟨z.1, z.2.1, by have := z.2.2; simp only [Bool.and_eq_true] at this; exact this.2⟩)
    · have hok : okW due = false := by simpa using hok
      refine .inl fun r => ?_
      have := t_all (due := due) (k := fun _ => .bad) (fun d as => .inl (t_retn (by rw [hok]; simp))) (fun c f d as => .inl (t_exn fun z => by have := z.2.2; rw [hok] at this; simp at this)) r
      rcases this with h | h
      · exact h
      · exact h.symm
end K16
set_option maxHeartbeats 1000000
namespace K16
open PySem PySem.Spec PyProof.Rows L2 DL CM
theorem flat_d {ls : List Log} : (ls.map Log.d).flatMap tupI = ls.flatten.map Op.d := by
  induction ls with
  | nil => rfl
  | cons l ls ih =>
    rw [List.map_cons, List.flatMap_cons, ih, List.flatten_cons, List.map_append]
    rfl
theorem cat_wp {ls : List Log} {s1 s2 : DL.Slot} {Q : Val → DEnv → Prop} {X : Ex → DEnv → Prop} (hl : ls.flatten.length ≤ 3000) (q : Q (.fr (.lst (ls.flatten.map Op.d))) [.d (.tup (ls.map Log.d)), s1, s2]) : (eCat 0 1 2 [.d (.tup (ls.map Log.d)), s1, s2]).wp Q X := by
  refine b_cat (ds := ls.map Log.d) rfl ?_ ?_ (by simp) (by simp) (by rw [flat_d]; exact q)
  · rw [List.all_map]
    exact List.all_eq_true.mpr fun l _ => rfl
  · rw [flat_d, List.length_map]
    omega
theorem join_wp {ls : List Log} {ds : List D} {Q : Val → DEnv → Prop} {X : Ex → DEnv → Prop} (e : ds = ls.map Log.d) (hl : ls.flatten.length ≤ 3000) (q1 : Log.okB ls.flatten = true → Q (.d (Log.d ls.flatten)) [.d (.tup ds)]) (q2 : Log.okB ls.flatten = false → X ⟨"BadLog", ["value"], [Log.d ls.flatten]⟩ [.d (.tup ds)]) : (s_joined [.d (.tup ds)]).wp Q X := by
  subst e
  unfold s_joined e_joined; with_reducible refine f_fnW (by with_unfolding_all exact rfl) ?_
  (repeat (case orE => (with_reducible refine e_as (f := eCat 0 1 2) (ρ' := [.d (.tup (ls.map Log.d)), .un, .un]) (by with_unfolding_all exact rfl) (cat_wp hl ?_)); (fail "WU3"); (with_reducible refine checked_wp (m := ls.flatten) rfl (by omega) (fun h => ?_) (fun h => ?_))))
  · with_unfolding_all exact q1 h
  · with_unfolding_all exact q2 h
theorem okB_good {l : Log} (h : ∀ o ∈ l, o.Ok) : l.okB = goodW l.d := by
  have : l.all Op.okB = true := List.all_eq_true.mpr fun o ho => by
    have oo := h o ho
    unfold Op.okB
    simp only [Bool.and_eq_true, decide_eq_true_eq]
    refine ⟨⟨⟨⟨?_, oo.hi⟩, oo.b⟩, oo.be⟩, oo.e⟩
    split
    · rename_i hw; exact oo.wr hw
    · exact oo.lo
  rw [good_d]
  unfold Log.okB
  rw [this, Bool.and_true]
theorem wb_of {l : Log} (h : ∀ o ∈ l, o.Ok) (hl : l.length ≤ 3000) : WB l := ⟨hl, fun o ho => by
  have := h o ho
  have a := this.lo
  have b := this.hi
  have c := this.b
  have d := this.be
  have e := this.e
  exact ⟨⟨by omega, by omega⟩, ⟨by omega, by omega⟩, by omega, by omega⟩⟩
theorem okW_d {l : Log} (h : WB l) : okW l.d = true := by
  unfold Log.d okW
  rw [Bool.and_eq_true, decide_eq_true_eq, List.length_map, List.all_map]
  refine ⟨h.len, List.all_eq_true.mpr fun o ho => ?_⟩
  obtain ⟨⟨a, b⟩, ⟨c, d⟩, e, f⟩ := h.bd o ho
  have key : ∀ k : Str, (k = "read" ∨ k = "write") → opW (.tup [.str k, .int o.v, .int o.b, .int o.e]) = true := fun k hk => by
    unfold opW
    simp only [Bool.and_eq_true, Bool.or_eq_true, decide_eq_true_eq]
    exact ⟨⟨⟨hk, a, b⟩, c, d⟩, e, f⟩
  obtain ⟨w, v, b', e'⟩ := o
  cases w
  · exact key "read" (.inl rfl)
  · exact key "write" (.inr rfl)
theorem t1 {l : Log} {ρ as : DEnv} (h : ∀ o ∈ l, o.Ok) (hl : l.length ≤ 3000) (hg : l.okB = true) : resE ρ (t__law_right_of [l.d] (.ret (.d l.d) as)) = .ok (.d (.bl true)) ρ := by
  rw [t_ret (by rw [okW_d (wb_of h hl), ← okB_good h, hg]; rfl), decide_eq_true rfl]
  rfl
theorem t2 {l : Log} {ρ as : DEnv} (h : ∀ o ∈ l, o.Ok) (hl : l.length ≤ 3000) (hg : l.okB = false) : resE ρ (t__law_right_of [l.d] (.ex ⟨"BadLog", ["value"], [l.d]⟩ as)) = .ok (.d (.bl true)) ρ := by
  rw [t_ex (by rw [okW_d (wb_of h hl), ← okB_good h, hg]; rfl), decide_eq_true rfl]
  rfl
def lf (b : Int) (v : Int) : Int := v + b * (if decide (0 < v) = true then 1 else 0)
theorem lf_pos {b v : Int} (h : 0 < v) : lf b v = v + b := by
  unfold lf
  rw [if_pos (decide_eq_true h)]
  omega
theorem lf_zero {b v : Int} (h : ¬ 0 < v) : lf b v = v := by
  unfold lf
  rw [if_neg (by simpa using h)]
  omega
def lfO (b : Int) (o : Op) : Op := ⟨o.w, lf b o.v, o.b, o.e⟩
theorem lifted_wp {m : Log} {b : Int} {Q : Val → DEnv → Prop} {X : Ex → DEnv → Prop} (hl : m.length ≤ 400) (hb : ∀ o ∈ m, o.Ok) (h0 : 0 ≤ b ∧ b ≤ 100000000) (q : Q (.d (Log.d (m.map (lfO b)))) [.d m.d, .d (.int b)]) : (s__law_lifted [.d m.d, .d (.int b)]).wp Q X := by
  unfold s__law_lifted e__law_lifted; with_reducible refine f_fnW (by with_unfolding_all exact rfl) ?_
  (repeat (case orE => (with_reducible refine comp_all (bs := m) (dd := Op.d) (g := fun o => Op.d (lfO b o)) (fun o ho => ?_) ?_); (fail "WU3")))
  · exact ⟨by with_unfolding_all exact rfl, by with_unfolding_all exact rfl⟩
  · repeat fail "WU3"
    have e : (m.map fun o => Op.d (lfO b o)) = (m.map (lfO b)).map Op.d := by rw [List.map_map]; rfl
    unfold Log.d at q
    rw [← e] at q
    with_unfolding_all exact q
/-- a lifted log of small values -/
theorem lift_ok {m : Log} {b : Int} (h : ∀ o ∈ m, o.Ok) (hv : ∀ o ∈ m, o.v ≤ 500000000) (h0 : 0 ≤ b ∧ b ≤ 100000000) : ∀ o ∈ m.map (lfO b), o.Ok := fun o ho => by
  obtain ⟨p, hp, rfl⟩ := List.mem_map.mp ho
  have oo := h p hp
  have v1 := hv p hp
  have v0 := oo.lo
  refine ⟨?_, fun hw => ?_, ?_, oo.b, oo.be, oo.e⟩
  · show 0 ≤ lf b p.v
    by_cases z : 0 < p.v
    · rw [lf_pos z]; omega
    · rw [lf_zero z]; exact v0
  · have := oo.wr hw
    show 1 ≤ lf b p.v
    rw [lf_pos (by omega)]; omega
  · show lf b p.v ≤ 1000000000
    by_cases z : 0 < p.v
    · rw [lf_pos z]; omega
    · rw [lf_zero z]; omega
end K16
set_option maxHeartbeats 1000000
namespace CM
open PySem PySem.Spec PyProof.Rows L2 DL
/-! CMhid5: l_true (and of its values) with its hidden order and bounds of its stamps -/
def BdU (c : Int) (l : Log) : Prop := ∀ o ∈ l, -c ≤ o.b ∧ o.e ≤ c ∧ o.v ≤ 100
theorem BdU.app {c : Int} {l : Log} {o : Op} (h : BdU c l) (h1 : -c ≤ o.b) (h2 : o.e ≤ c) (h3 : o.v ≤ 100) : BdU c (l ++ [o]) := fun x hx => by
  rcases List.mem_append.mp hx with z | z
  · exact h x z
  · rw [List.mem_singleton.mp z]; exact ⟨h1, h2, h3⟩
theorem hidu_write {found : List D} {l : Log} {off w t t' v b e c : Int} (hf : found = l.map Op.d) (h : Hid off w t l) (bd : BdU c l) (ht : t ≤ t') (hb : b ≤ t' + off) (he : t' - off ≤ e) (h1 : -c ≤ b) (h2 : e ≤ c) (h3 : v ≤ 100) : ∃ m : Log, found ++ [.tup [.str "write", .int v, .int b, .int e]] = m.map Op.d ∧ Hid off v t' m ∧ BdU c m :=
  ⟨l ++ [⟨true, v, b, e⟩], by rw [hf, List.map_append]; with_unfolding_all exact rfl, h.app (o := ⟨true, v, b, e⟩) ht (.inl rfl) hb he, bd.app h1 h2 h3⟩
theorem hidu_read {found : List D} {l : Log} {off w t t' b e c : Int} (hf : found = l.map Op.d) (h : Hid off w t l) (bd : BdU c l) (ht : t ≤ t') (hb : b ≤ t' + off) (he : t' - off ≤ e) (h1 : -c ≤ b) (h2 : e ≤ c) (h3 : w ≤ 100) : ∃ m : Log, found ++ [.tup [.str "read", .int w, .int b, .int e]] = m.map Op.d ∧ Hid off w t' m ∧ BdU c m :=
  ⟨l ++ [⟨false, w, b, e⟩], by rw [hf, List.map_append]; with_unfolding_all exact rfl, h.app (o := ⟨false, w, b, e⟩) ht (.inr rfl) hb he, bd.app h1 h2 h3⟩
section
local macro_rules
  | `(tactic| infer_instance) => `(tactic| (first | with_reducible refine b_op ?_ | with_reducible refine b_cb ?_ | with_reducible refine b_un ?_ | with_reducible refine b_call ?_ | with_reducible refine b_cons ?_ | with_reducible refine b_nil ?_ | with_reducible refine b_C ?_ | with_reducible refine b_tup ?_ | with_reducible refine b_lst ?_ | with_reducible refine b_fz ?_ | with_reducible refine b_nsl ?_ | with_reducible refine b_nslD ?_ | with_reducible refine b_nslF ?_ | with_reducible refine b_nslS ?_ | with_reducible refine b_tst ?_ | with_reducible refine b_bT ?_ | with_reducible refine b_andK ?_ | with_reducible refine b_orK ?_ | with_reducible refine b_not ?_ | with_reducible refine b_eIf ?_ | with_reducible refine b_ok ?_ | with_reducible refine b_rng ?_ | with_reducible refine b_iseq ?_ | with_reducible refine b_yes ?_ | with_reducible refine s_skip ?_ | with_reducible refine s_drop ?_ | with_reducible refine s_ret ?_ | with_reducible refine s_retN ?_ | with_reducible refine s_break ?_ | with_reducible refine s_cont ?_ | with_reducible refine s_if ?_ | with_reducible refine s_asg ?_ | with_reducible refine s_par ?_ | with_reducible refine s_tgt ?_ | with_reducible refine s_for ?_ | with_reducible refine s_loop ?_ | with_reducible refine s_store ?_ | with_reducible refine s_asgsN ?_ | with_reducible refine f_d ?_ | with_reducible refine f_fr ?_ | ((with_reducible apply s_seqN); exact (rfl : _ = [_, _, _, _, _, _, _, _, _, _, _, _, _])) | ((with_reducible apply b_var_d); rfl) | ((with_reducible apply b_var_o); rfl) | ((with_reducible apply b_fzv); rfl) | ((with_reducible apply b_fzvA); rfl) | ((with_reducible apply s_asgV); rfl) | ((with_reducible apply s_asgs); rfl) | ((with_reducible apply s_asgsD); rfl; first | assumption | exact Fr.un | exact Fr.dat | exact Fr.own) | ((with_reducible apply s_asgsO); rfl; first | assumption | exact Fr.un | exact Fr.dat | exact Fr.own) | ((with_reducible apply s_asgF); rfl; first | assumption | exact Fr.un | exact Fr.dat | exact Fr.own) | ((with_reducible apply s_asgFO); rfl; first | assumption | exact Fr.un | exact Fr.dat | exact Fr.own) | ((with_reducible apply s_storeV); rfl) | ((with_reducible apply s_storeK); rfl) | ((with_reducible apply b_methL); rfl) | ((with_reducible apply b_methV); rfl) | ((with_reducible apply b_mkTup); rfl; exact Nat.le_of_ble_eq_true rfl) | ((with_reducible apply b_mkLst); rfl; exact Nat.le_of_ble_eq_true rfl) | ((with_reducible apply f_sl); rfl) | ((with_reducible apply f_sld); rfl) | ((with_reducible apply x_mul); rfl; rfl; (first | omega | decide)) | ((with_reducible apply x_mod); rfl; rfl; decide) | ((with_reducible apply x_div); rfl; rfl; (first | omega | decide)) | ((with_reducible apply b_opV); rfl; rfl; rfl) | ((with_reducible apply b_unV); rfl; rfl) | ((with_reducible apply b_callV); rfl; rfl) | ((with_reducible apply b_callF); rfl; rfl) | ((with_reducible apply b_rng1); (first | omega | decide)) | ((with_reducible apply b_rng2); (first | omega | decide))))
theorem trueU_loop {p : List D} {c : Nat} {many off step t0 : Int} {ms : List Int} {P : Po} (hp : Pot c p) (A : TrueArgs many off step) (ht : -7 ≤ t0 ∧ t0 ≤ 100000000000000) (nd : ms.Nodup) (hl : (ms.length : Int) = many) (hb : ∀ m ∈ ms, 1 ≤ m ∧ m ≤ 100) (hc : c < 900000000)
    (q : ∀ p' found s5 s7 s8 s9 s10 s11 s12, (∃ (l : Log) (w t : Int), found = l.map Op.d ∧ Hid off w t l ∧ BdU (100000000000000 + 1001 * step + off + 8) l) → LogOk found → (found.length : Int) = many → Pot (c + 6000) p' → P.nx [.ow (.lst p') .bor, .d (.int many), .d (.int off), .d (.int step), .ow (.lst (ms.map D.int)) .own, s5, .ow (.lst found) .own, s7, s8, s9, s10, s11, s12]) :
    (l1_l_true [.ow (.lst p) .bor, .d (.int many), .d (.int off), .d (.int step), .ow (.lst (ms.map D.int)) .own, .un, .ow (.lst []) .own, .d (.int 0), .d (.int t0), .un, .un, .un, .un]).wp P := by
  obtain ⟨m0, m1, o0, o1, s0, s1⟩ := A
  unfold l1_l_true
  repeat infer_instance
  refine loop_inv (fun k ρ => ∃ p' found s5 w t s9 s10 s11 s12, ρ = [.ow (.lst p') .bor, .d (.int many), .d (.int off), .d (.int step), .ow (.lst (ms.map D.int)) .own, s5, .ow (.lst found) .own, .d (.int w), .d (.int t), s9, s10, s11, s12] ∧ Fr s5 ∧ Fr s9 ∧ Fr s10 ∧ Fr s11 ∧ Fr s12 ∧ LogOk found ∧ found.length = k ∧ 0 ≤ w ∧ w ≤ 100 ∧ -7 ≤ t ∧ t ≤ 100000000000000 + k * step ∧ (∀ u ∈ wrote found, ∃ i, i < k ∧ ms[i]? = some u) ∧ (∃ l : Log, found = l.map Op.d ∧ Hid off w t l ∧ BdU (100000000000000 + 1001 * step + off + 8) l) ∧ Pot (c + 6 * k) p') _ 0 _ ⟨p, [], .un, 0, t0, .un, .un, .un, .un, rfl, Fr.un, Fr.un, Fr.un, Fr.un, Fr.un, ⟨by simp, by simp [wrote]⟩, rfl, by omega, by omega, by omega, by omega, by simp [wrote], ⟨[], rfl, Hid.nil, fun o h => nomatch h⟩, hp⟩ (fun j dd ρ hj hI => ?_) fun ρ hI => ?_
  · obtain ⟨p2, found, s5, w, t, s9, s10, s11, s12, rfl, f5, f9, f10, f11, f12, lo, hlen, w0, w1, t1, t2, hw, ⟨lg, hlg, hd, hbd⟩, hp2⟩ := hI
    obtain ⟨hjl, rfl⟩ := rng_at hj
    simp only [Nat.zero_add] at hlen t2 hw hp2
    have hjs : (j : Int) * step ≤ 1000 * step := Int.mul_le_mul_of_nonneg_right (by omega) s0
    repeat infer_instance
    refine draw_wp hp2 (by omega) (by omega) (by omega) fun d1 p3 a1 a2 hp3 => ?_
    repeat infer_instance
    refine any_wp hp3 (by omega) (.inl rfl) (by decide) (by decide) fun kd p4 hkd hp4 => ?_
    have hkd : kd ∈ [D.str "write", D.str "read", D.str "read"] := hkd
    have hkd2 : kd = .str "write" ∨ kd = .str "read" := by
      simp only [List.mem_cons, List.not_mem_nil, or_false] at hkd
      rcases hkd with h | h | h
      · exact .inl h
      · exact .inr h
      · exact .inr h
    have hstep : (j : Int) * step + step = ((j + 1 : Nat) : Int) * step := by rw [Int.natCast_add, Int.add_mul]; simp
    have hstep2 : ((j + 1 : Nat) : Int) * step ≤ 1000 * step := Int.mul_le_mul_of_nonneg_right (by omega) s0
    rcases hkd2 with rfl | rfl
    · repeat infer_instance
      refine ⟨fun _ => ?_, fun h => absurd h (by decide)⟩
      have hmj : j < ms.length := by omega
      obtain ⟨hm0, hm1⟩ := hb ms[j] (List.getElem_mem hmj)
      repeat infer_instance
      refine x_idx (d := .int ms[j]) rfl rfl (atI_map (f := D.int) (by
        obtain ⟨y, e1, e2⟩ := atI_of (xs := ms) (i := 0 + (j : Int)) (by omega) (by omega)
        rw [e1]
        have : (0 + (j : Int)).toNat = j := by omega
        rw [this, List.getElem?_eq_getElem hmj] at e2
        exact e2.symm)) ?_
      repeat infer_instance
      refine draw_wp hp4 (by omega) (by omega) (by omega) fun d2 p5 b1 b2 hp5 => ?_
      repeat infer_instance
      refine draw_wp hp5 (by omega) (by omega) (by omega) fun d3 p6 c1 c2 hp6 => ?_
      repeat infer_instance
      refine draw_wp hp6 (by omega) (by omega) (by omega) fun d4 p7 e1 e2 hp7 => ?_
      repeat infer_instance
      refine draw_wp hp7 (by omega) (by omega) (by omega) fun d5 p8 g1 g2 hp8 => ?_
      repeat infer_instance
      refine x_append rfl (.inl rfl) (by omega) ?_
      repeat infer_instance
      refine ⟨p8, _, .d (.int (0 + (j : Int))), ms[j], t + d1, .d (.str "write"), _, _, _, rfl, Fr.dat, Fr.dat, Fr.dat, Fr.dat, Fr.dat, lo.write hm0 (by omega) (by omega) (by omega) (by omega) (fun z => ?_), by simp; omega, by omega, hm1, by omega, by simp only [Nat.zero_add]; omega, fun u hu => ?_, hidu_write hlg hd hbd (by omega) (by omega) (by omega) (by omega) (by omega) hm1, hp8.mono (by omega)⟩
      · obtain ⟨i, hi, e⟩ := hw _ z
        have := nodup_get nd e (List.getElem?_eq_getElem hmj)
        omega
      · rw [wrote_app] at hu
        rcases List.mem_append.mp hu with z | z
        · obtain ⟨i, hi, e⟩ := hw _ z
          exact ⟨i, by omega, e⟩
        · have z : u ∈ [ms[j]] := z
          rw [List.mem_singleton] at z
          subst z
          exact ⟨j, by omega, List.getElem?_eq_getElem hmj⟩
    · repeat infer_instance
      refine ⟨fun h => absurd h (by decide), fun _ => ?_⟩
      repeat infer_instance
      refine draw_wp hp4 (by omega) (by omega) (by omega) fun d2 p5 b1 b2 hp5 => ?_
      repeat infer_instance
      refine draw_wp hp5 (by omega) (by omega) (by omega) fun d3 p6 c1 c2 hp6 => ?_
      repeat infer_instance
      refine draw_wp hp6 (by omega) (by omega) (by omega) fun d4 p7 e1 e2 hp7 => ?_
      repeat infer_instance
      refine draw_wp hp7 (by omega) (by omega) (by omega) fun d5 p8 g1 g2 hp8 => ?_
      repeat infer_instance
      refine x_append rfl (.inl rfl) (by omega) ?_
      repeat infer_instance
      refine ⟨p8, _, .d (.int (0 + (j : Int))), w, t + d1, .d (.str "read"), _, _, _, rfl, Fr.dat, Fr.dat, Fr.dat, Fr.dat, Fr.dat, lo.read w0 (by omega) (by omega) (by omega) (by omega), by simp; omega, w0, w1, by omega, by simp only [Nat.zero_add]; omega, fun u hu => ?_, hidu_read hlg hd hbd (by omega) (by omega) (by omega) (by omega) (by omega) w1, hp8.mono (by omega)⟩
      rw [wrote_app] at hu
      rcases List.mem_append.mp hu with z | z
      · obtain ⟨i, hi, e⟩ := hw _ z
        exact ⟨i, by omega, e⟩
      · exact absurd z (by intro z; cases z)
  · obtain ⟨p2, found, s5, w, t, s9, s10, s11, s12, rfl, f5, f9, f10, f11, f12, lo, hlen, w0, w1, t1, t2, hw, ⟨lg, hlg, hd, hbd⟩, hp2⟩ := hI
    have hl2 : found.length = many.toNat := by simpa using hlen
    exact q p2 found s5 _ _ s9 s10 s11 s12 ⟨lg, _, _, hlg, hd, hbd⟩ lo (by omega) (hp2.mono (by simp; omega))
theorem trueU_wp {p : List D} {c : Nat} {many off step : Int} {Q : Val → DEnv → Prop} {X : Ex → DEnv → Prop} (hp : Pot c p) (A : TrueArgs many off step) (hm200 : many ≤ 100) (hc : c < 800000000)
    (q : ∀ (l : Log) p', l.Ok → l.flts (2 * off) = [] → BdU (100000000000000 + 1001 * step + off + 8) l → (l.length : Int) = many → Pot (c + 9000) p' → Q (.d l.d) [.ow (.lst p') .bor, .d (.int many), .d (.int off), .d (.int step)]) : (s_l_true [.ow (.lst p) .bor, .d (.int many), .d (.int off), .d (.int step)]).wp Q X := by
  have B := A
  obtain ⟨m0, m1, o0, o1, s0, s1⟩ := B
  unfold s_l_true e_l_true
  refine f_fn rfl ?_
  repeat infer_instance
  refine any_wp hp (by omega) (.inl rfl) (by decide) (by decide) fun td p1 htd hp1 => ?_
  have ht : ∃ t : Int, td = .int t ∧ -7 ≤ t ∧ t ≤ 100000000000000 := by
    have htd : td ∈ [D.int 0, D.int (-7), D.int (10 ^ Int.toNat 14)] := htd
    rw [p14] at htd
    simp only [List.mem_cons, List.not_mem_nil, or_false] at htd
    rcases htd with rfl | rfl | rfl <;> exact ⟨_, rfl, by decide, by decide⟩
  obtain ⟨t0, rfl, ht⟩ := ht
  repeat infer_instance
  refine x_lrg rfl rfl (by unfold rgIn; exact decide_eq_true (by omega)) ?_
  repeat infer_instance
  rw [rgL_ints]
  refine mixed_wp hp1 (.inl rfl) (fun x hx => ?_) (fun x hx => ?_) (by simp; omega) (by simp; omega) fun es p2 pm hp2 => ?_
  · obtain ⟨i, _, rfl⟩ := List.mem_map.mp hx; rfl
  · obtain ⟨i, _, rfl⟩ := List.mem_map.mp hx; exact Nat.zero_le _
  obtain ⟨ms, rfl, pms⟩ := ints_perm pm
  have hml := pms.length_eq
  simp only [List.length_map, List.length_range] at hml hp2
  repeat infer_instance
  refine trueU_loop hp2 A ht (pms.nodup_iff.mpr rgI_nodup) (by omega) (fun m hm => ?_) (by omega) fun p3 found s5 s7 s8 s9 s10 s11 s12 hh lo hl hp3 => ?_
  · obtain ⟨k, hk, rfl⟩ := List.mem_map.mp (pms.mem_iff.mp hm)
    rw [List.mem_range] at hk
    omega
  repeat infer_instance
  have hfl : found.length ≤ 200 := by omega
  refine mixed_wp hp3 (.inr (.inl rfl)) lo.len4.1 lo.len4.2 (by omega) (by omega) fun es p4 pm2 hp4 => ?_
  repeat infer_instance
  have := pm2.length_eq
  obtain ⟨lg, w, t, rfl, hd, hbd⟩ := hh
  obtain ⟨l2, rfl, p2⟩ := perm_map pm2 rfl
  have okl := ok_of lo (by rw [List.length_map] at hl; omega)
  have ok2 := okl.perm p2
  rw [List.length_map] at hfl hl hp4
  have := p2.length_eq
  exact q l2 p4 ok2 (hd.none o0 ok2 okl p2) (fun o ho => hbd o (p2.mem_iff.mp ho)) (by omega) (hp4.mono (by omega))
end
end CM
set_option maxHeartbeats 1000000
namespace K16
open PySem PySem.Spec PyProof.Rows L2 DL CM
theorem ask_wp {c : EM} {g2 : M (List Val)} {ρ : DEnv} {ls : List Log} {Q : Val → DEnv → Prop} {X : Ex → DEnv → Prop} (ho : ∀ o ∈ ls.flatten, o.Ok) (hl : ls.flatten.length ≤ 3000) (h2 : ∀ (Q : List Val → DEnv → Prop) (X : Ex → DEnv → Prop), Q [.d (Log.d ls.flatten)] ρ → (g2 ρ).wp Q X)
    (hc : ∀ (Q : Val → DEnv → Prop) (X : Ex → DEnv → Prop), (Log.okB ls.flatten = true → Q (.d (Log.d ls.flatten)) ρ) → (Log.okB ls.flatten = false → X ⟨"BadLog", ["value"], [Log.d ls.flatten]⟩ ρ) → (c ρ).wp Q X) (q : Q (.d (.bl true)) ρ) : (eCallE t__law_right_of c g2 ρ).wp Q X := by
  refine b_callE (h2 _ _ ⟨[Log.d ls.flatten], by with_unfolding_all exact rfl, hc _ _ (fun h => ?_) fun h => ?_⟩)
  · exact ⟨_, _, rfl, t1 ho hl h, q⟩
  · exact ⟨_, t2 ho hl h, q⟩
theorem fl2 {l m : Log} : ([l, m] : List Log).flatten.map Op.d = l.map Op.d ++ m.map Op.d := by
  rw [List.flatten_cons, List.flatten_cons, List.flatten_nil, List.append_nil, List.map_append]
theorem ops2 {l m : Log} (h1 : ∀ o ∈ l, o.Ok) (h2 : ∀ o ∈ m, o.Ok) : ∀ o ∈ ([l, m] : List Log).flatten, o.Ok := fun o ho => by
  simp only [List.flatten_cons, List.flatten_nil, List.append_nil, List.mem_append] at ho
  exact ho.elim (h1 o) (h2 o)
theorem a1_wp {s0 s1 s2 s3 s4 s5 s6 s7 s10 s11 s12 s13 : DL.Slot} {l m : Log} {Q : Val → DEnv → Prop} {X : Ex → DEnv → Prop} (h1 : ∀ o ∈ l, o.Ok) (h2 : ∀ o ∈ m, o.Ok) (hl : l.length ≤ 300) (hm : m.length ≤ 300) (q : Q (.d (.bl true)) [s0, s1, s2, s3, s4, s5, s6, s7, .d l.d, .d m.d, s10, s11, s12, s13]) :
    (eCallE t__law_right_of c1__law_right (aCons (eOp addD (eVar 8) (eVar 9)) aNil) [s0, s1, s2, s3, s4, s5, s6, s7, .d l.d, .d m.d, s10, s11, s12, s13]).wp Q X := by
  have hlm : (l.map Op.d).length ≤ 300 := by rw [List.length_map]; exact hl
  have hmm : (m.map Op.d).length ≤ 300 := by rw [List.length_map]; exact hm
  refine ask_wp (ls := [l, m]) (ops2 h1 h2) (by simp; omega) (fun Q X q => ?_) (fun Q X q1 q2 => ?_) q
  · unfold Log.d at q
    rw [fl2] at q
    (repeat (case orE => (fail "WU14"); (with_reducible refine x_addT (xs := l.map Op.d) (ys := m.map Op.d) (by with_unfolding_all exact rfl) (by with_unfolding_all exact rfl) (by omega) ?_)))
    exact q
  · (repeat (case orE => (fail "WU14"); (with_reducible refine join_wp (ls := [l, m]) (by with_unfolding_all exact rfl) (by simp; omega) (fun h => ?_) (fun h => ?_))))
    · exact q1 h
    · exact q2 h
theorem a2_wp {s0 s1 s2 s3 s4 s5 s6 s7 s11 s12 s13 : DL.Slot} {l m n : Log} {Q : Val → DEnv → Prop} {X : Ex → DEnv → Prop} (h1 : ∀ o ∈ l, o.Ok) (h2 : ∀ o ∈ m, o.Ok) (h3 : ∀ o ∈ n, o.Ok) (hl : l.length ≤ 300) (hm : m.length ≤ 300) (hn : n.length ≤ 300) (q : Q (.d (.bl true)) [s0, s1, s2, s3, s4, s5, s6, s7, .d l.d, .d m.d, .d n.d, s11, s12, s13]) :
    (eCallE t__law_right_of c2__law_right (aCons (eOp addD (eOp addD (eVar 9) (eVar 10)) (eVar 8)) aNil) [s0, s1, s2, s3, s4, s5, s6, s7, .d l.d, .d m.d, .d n.d, s11, s12, s13]).wp Q X := by
  have hlm : (l.map Op.d).length ≤ 300 := by rw [List.length_map]; exact hl
  have hmm : (m.map Op.d).length ≤ 300 := by rw [List.length_map]; exact hm
  have hnm : (n.map Op.d).length ≤ 300 := by rw [List.length_map]; exact hn
  have fl : ([m, n, [], l] : List Log).flatten.map Op.d = (m.map Op.d ++ n.map Op.d) ++ l.map Op.d := by simp
  refine ask_wp (ls := [m, n, [], l]) (fun o ho => ?_) (by simp; omega) (fun Q X q => ?_) (fun Q X q1 q2 => ?_) q
  · simp only [List.flatten_cons, List.flatten_nil, List.append_nil, List.nil_append, List.mem_append] at ho
    rcases ho with h | h | h
    · exact h2 o h
    · exact h3 o h
    · exact h1 o h
  · unfold Log.d at q
    rw [fl] at q
    (repeat (case orE => (fail "WU14"); (with_reducible refine x_addT (xs := m.map Op.d) (ys := n.map Op.d) (by with_unfolding_all exact rfl) (by with_unfolding_all exact rfl) (by omega) ?_); (with_reducible refine x_addT (xs := m.map Op.d ++ n.map Op.d) (ys := l.map Op.d) (by with_unfolding_all exact rfl) (by with_unfolding_all exact rfl) (by rw [List.length_append]; omega) ?_)))
    exact q
  · (repeat (case orE => (fail "WU14"); (with_reducible refine join_wp (ls := [m, n, [], l]) (by with_unfolding_all exact rfl) (by simp; omega) (fun h => ?_) (fun h => ?_))))
    · exact q1 h
    · exact q2 h
theorem a3_wp {s0 s1 s2 s3 s4 s5 s6 s7 s9 s10 s11 s12 s13 : DL.Slot} {l : Log} {Q : Val → DEnv → Prop} {X : Ex → DEnv → Prop} (h1 : ∀ o ∈ l, o.Ok) (hl : l.length ≤ 300) (q : Q (.d (.bl true)) [s0, s1, s2, s3, s4, s5, s6, s7, .d l.d, s9, s10, s11, s12, s13]) :
    (eCallE t__law_right_of c3__law_right (aCons (eOp addD (eVar 8) (eVar 8)) aNil) [s0, s1, s2, s3, s4, s5, s6, s7, .d l.d, s9, s10, s11, s12, s13]).wp Q X := by
  have hlm : (l.map Op.d).length ≤ 300 := by rw [List.length_map]; exact hl
  refine ask_wp (ls := [l, l]) (ops2 h1 h1) (by simp; omega) (fun Q X q => ?_) (fun Q X q1 q2 => ?_) q
  · unfold Log.d at q
    rw [fl2] at q
    (repeat (case orE => (fail "WU14"); (with_reducible refine x_addT (xs := l.map Op.d) (ys := l.map Op.d) (by with_unfolding_all exact rfl) (by with_unfolding_all exact rfl) (by omega) ?_)))
    exact q
  · (repeat (case orE => (fail "WU14"); (with_reducible refine join_wp (ls := [l, l]) (by with_unfolding_all exact rfl) (by simp; omega) (fun h => ?_) (fun h => ?_))))
    · exact q1 h
    · exact q2 h
theorem fl1 {l : Log} : ([l] : List Log).flatten = l := by rw [List.flatten_cons, List.flatten_nil, List.append_nil]
theorem x_reprP {ρ : DEnv} {vs : List Val} {l m : Log} {Q : Val → DEnv → Prop} {X : Ex → DEnv → Prop} (h1 : peekL ρ vs = some [.tup [l.d, m.d]]) (hl : WB l) (hm : WB m) (q : Q (.d (.str (shownD (.tup [l.d, m.d])))) ρ) : (callV reprX vs ρ).wp Q X := by
  have g : Gd 3 30003 (.tup [l.d, m.d]) := Gd.tupN (k := 2) (n := 15001) (fun x hx => by
    simp only [List.mem_cons, List.not_mem_nil, or_false] at hx
    rcases hx with rfl | rfl
    · exact hl.gd.1
    · exact hm.gd.1) (by simp)
  have t : (D.tup [l.d, m.d]).tiny = true := by
    show (l.d.tiny && (m.d.tiny && true)) = true
    rw [hl.gd.2, hm.gd.2]
    rfl
  exact b_callV h1 (g.repr1T t (by decide) (by decide)) q
theorem p8k : ((10 : Int) ^ Int.toNat 8) = 100000000 := by decide +kernel
theorem turns_loop {p : List D} {P : Po} (hp : Pot 0 p)
    (q : ∀ p' s1 s8 s9 s10 s11, Pot 200000 p' → Fr s8 → P.nx [.ow (.lst p') .own, s1, .un, .un, .un, .un, .un, .un, s8, s9, s10, s11, .un, .un]) :
    (l1__law_right [.ow (.lst p) .own, .un, .un, .un, .un, .un, .un, .un, .un, .un, .un, .un, .un, .un]).wp P := by
  repeat fail "WU14"
  with_reducible refine loop_inv (fun j ρ => ∃ (p' : List D) (s1 s8 s9 s10 s11 : DL.Slot), ρ = [.ow (.lst p') .own, s1, .un, .un, .un, .un, .un, .un, s8, s9, s10, s11, .un, .un] ∧ Pot (40000 * j) p' ∧ Fr s1 ∧ Fr s8 ∧ Fr s9 ∧ Fr s10 ∧ Fr s11) _ 0 _ ?_ (fun j dd ρ hj hI => ?_) fun ρ hI => ?_
  · exact ⟨p, .un, .un, .un, .un, .un, by with_unfolding_all exact rfl, hp, Fr.un, Fr.un, Fr.un, Fr.un, Fr.un⟩
  · obtain ⟨p', s1, s8, s9, s10, s11, rfl, hp', f1, f8, f9, f10, f11⟩ := hI
    obtain ⟨hj2, rfl⟩ := rng_at hj
    have hj4 : j < 5 := hj2
    have e8 := p8k
    repeat fail "WU14"
    refine wildS_wp hp' (by omega) (by omega) (by omega) (by omega) (by omega) fun l p1 ok1 hl1 bd1 hp1 => ?_
    repeat fail "WU14"
    refine wildS_wp hp1 (by omega) (by omega) (by omega) (by omega) (by omega) fun m p2 ok2 hl2 bd2 hp2 => ?_
    (repeat (case orE => ((rw [e8])); (fail "WU14")))
    refine any_wp hp2 (by omega) (.inl rfl) (by simp) (by simp) fun x p3 hx hp3 => ?_
    obtain ⟨b, rfl, hb⟩ : ∃ b : Int, x = .int b ∧ 0 ≤ b ∧ b ≤ 100000000 := by
      have hx : x ∈ [D.int 0, .int 10, .int 100000000] := hx
      simp only [List.mem_cons, List.not_mem_nil, or_false] at hx
      rcases hx with rfl | rfl | rfl <;> exact ⟨_, rfl, by omega, by omega⟩
    have om := lift_ok (b := b) ok2.ops (fun o ho => by have := (bd2 o ho).1; omega) hb
    have lm : (m.map (lfO b)).length ≤ 300 := by rw [List.length_map]; omega
    (repeat (case orE => (fail "WU14"); (with_reducible refine lifted_wp (by omega) ok2.ops hb ?_)))
    generalize m.map (lfO b) = m2 at om lm
    refine trueU_wp hp3 ⟨by omega, by omega, by omega, by omega, by omega, by omega⟩ (by omega) (by omega) fun n p4 ok3 _ bd3 hl3 hp4 => ?_
    repeat fail "WU14"
    refine any_wp hp4 (by omega) (.inl rfl) (by simp) (by simp) fun x p5 hx hp5 => ?_
    obtain ⟨b2, rfl, hb2⟩ : ∃ b : Int, x = .int b ∧ 0 ≤ b ∧ b ≤ 100000000 := by
      have hx : x ∈ [D.int 0, .int 100] := hx
      simp only [List.mem_cons, List.not_mem_nil, or_false] at hx
      rcases hx with rfl | rfl <;> exact ⟨_, rfl, by omega, by omega⟩
    have on := lift_ok (b := b2) ok3.ops (fun o ho => by have := (bd3 o ho).2.2; omega) hb2
    have ln : (n.map (lfO b2)).length ≤ 300 := by rw [List.length_map]; omega
    have hll : l.length ≤ 300 := by omega
    have hokl : Log.okB ([l] : List Log).flatten = true := by
      rw [List.flatten_cons, List.flatten_nil, List.append_nil]
      exact logB_iff.mpr ok1
    have wl := wb_of ok1.ops (by omega)
    have wm := wb_of om (by omega)
    (repeat (case orE => (fail "WU14"); (with_reducible refine lifted_wp (by omega) ok3.ops hb2 ?_)))
    generalize n.map (lfO b2) = n2 at on ln
    (repeat (case orE => (with_reducible refine a1_wp ok1.ops om hll lm ?_); (with_reducible refine a2_wp ok1.ops om on hll lm ln ?_); (with_reducible refine b_orW ?_); (with_reducible refine a3_wp ok1.ops hll ?_); ((rw [fl1])); (fail "WU14"); (with_reducible refine x_reprP (l := l) (m := m2) (by with_unfolding_all exact rfl) wl wm ?_); (with_reducible refine join_wp (ls := [l]) (by with_unfolding_all exact rfl) (by simp; omega) (fun h => ?_) (fun h => absurd h (by rw [hokl]; simp))); (with_reducible refine x_neSame (by with_unfolding_all exact rfl) (by with_unfolding_all exact rfl) wl.gd.1 (by decide) rfl ?_)))
    exact ⟨p5, _, _, _, _, _, rfl, hp5.mono (by omega), Fr.dat, Fr.dat, Fr.dat, Fr.dat, Fr.dat⟩
  · obtain ⟨p', s1, s8, s9, s10, s11, rfl, hp', f1, f8, f9, f10, f11⟩ := hI
    exact q p' _ _ _ _ _ hp' f8
end K16
set_option maxHeartbeats 1000000
namespace K16
open PySem PySem.Spec PyProof.Rows L2 DL CM
structure Lg (i : Nat) (l : Log) : Prop where
  ops : ∀ o ∈ l, o.Ok
  len : l.length ≤ 4
  nd : l.wr.Nodup
  bd : ∀ v ∈ l.wr, 10 * ((i : Int) + 1) < v ∧ v ≤ 10 * ((i : Int) + 1) + 4
theorem lift_wr {m : Log} {b : Int} (h : ∀ o ∈ m, o.Ok) : Log.wr (m.map (lfO b)) = m.wr.map (· + b) := by
  induction m with
  | nil => rfl
  | cons o m ih =>
    have ih := ih fun p hp => h p (List.mem_cons_of_mem _ hp)
    have oo := h o List.mem_cons_self
    unfold Log.wr at ih ⊢
    rw [List.map_cons]
    obtain ⟨w, v, b1, e1⟩ := o
    cases w
    · rw [List.filter_cons_of_neg (by simp [lfO]), List.filter_cons_of_neg (by simp), ih]
    · have hv : 1 ≤ v := oo.wr rfl
      rw [List.filter_cons_of_pos (by simp [lfO]), List.filter_cons_of_pos (by simp), List.map_cons, List.map_cons, List.map_cons, ih]
      rw [show (lfO b ⟨true, v, b1, e1⟩).v = v + b from lf_pos (by show 0 < v; omega)]
theorem lg_of {m : Log} {i : Nat} (ok : m.Ok) (hl : m.length ≤ 4) (hv : ∀ o ∈ m, o.v ≤ 4) (hi : i < 7) : Lg i (m.map (lfO (10 * (1 + (i : Int))))) := by
  have wv : ∀ v ∈ m.wr, 1 ≤ v ∧ v ≤ 4 := fun v h => by
    obtain ⟨o, ho, rfl⟩ := List.mem_map.mp h
    obtain ⟨h1, h2⟩ := List.mem_filter.mp ho
    exact ⟨(ok.ops o h1).wr h2, hv o h1⟩
  refine ⟨lift_ok ok.ops (fun o ho => by have := hv o ho; omega) ⟨by omega, by omega⟩, by rw [List.length_map]; exact hl, ?_, fun v hv' => ?_⟩
  · rw [lift_wr ok.ops]
    exact List.Pairwise.map _ (fun a b hab hc => hab (by omega)) ok.nd
  · rw [lift_wr ok.ops] at hv'
    obtain ⟨u, hu, rfl⟩ := List.mem_map.mp hv'
    have := wv u hu
    omega
theorem wr_flat {ls : List Log} : Log.wr ls.flatten = (ls.map Log.wr).flatten := by
  induction ls with
  | nil => rfl
  | cons l ls ih =>
    rw [List.flatten_cons, List.map_cons, List.flatten_cons, ← ih]
    unfold Log.wr
    rw [List.filter_append, List.map_append]
theorem flat_nd {n : Nat} : ∀ {ls : List Log}, (∀ i l, ls[i]? = some l → Lg (n + i) l) → (Log.wr ls.flatten).Nodup ∧ ∀ v ∈ Log.wr ls.flatten, 10 * ((n : Int) + 1) < v := by
  intro ls
  induction ls generalizing n with
  | nil => exact fun _ => ⟨List.nodup_nil, fun v h => nomatch h⟩
  | cons l ls ih =>
    intro h
    have h0 := h 0 l rfl
    obtain ⟨i1, i2⟩ := ih (n := n + 1) fun i m e => by
      have := h (i + 1) m e
      rw [show n + (i + 1) = n + 1 + i by omega] at this
      exact this
    have e : Log.wr (l :: ls).flatten = l.wr ++ Log.wr ls.flatten := by
      rw [wr_flat, wr_flat, List.map_cons, List.flatten_cons]
    rw [e]
    refine ⟨List.nodup_append.mpr ⟨h0.nd, i1, fun a ha b hb => ?_⟩, fun v hv => ?_⟩
    · have := h0.bd a ha
      have := i2 b hb
      omega
    · rcases List.mem_append.mp hv with z | z
      · exact (h0.bd v z).1
      · have := i2 v z
        omega
theorem c4_wp {p : List D} {c : Nat} {s1 s2 s3 s4 s5 s6 s7 s8 s9 s10 s11 s13 : DL.Slot} {Q : Val → DEnv → Prop} {X : Ex → DEnv → Prop} (hp : Pot c p) (hc : c < 500000)
    (q : ∀ p' (ls : List Log), ls.length = 7 → (∀ i l, ls[i]? = some l → Lg (0 + i) l) → Pot (c + 50000) p' → Q (.fr (.lst (ls.map Log.d))) [.ow (.lst p') .own, s1, s2, s3, s4, s5, s6, s7, s8, s9, s10, s11, .un, s13]) :
    (c4__law_right [.ow (.lst p) .own, s1, s2, s3, s4, s5, s6, s7, s8, s9, s10, s11, .un, s13]).wp Q X := by
  unfold c4__law_right
  (repeat (case orE => (with_reducible refine comp_inv (fun k acc ρ => ∃ (p' : List D) (ls : List Log), acc = ls.map Log.d ∧ ls.length = k ∧ (∀ i l, ls[i]? = some l → Lg (0 + i) l) ∧ Pot (c + 7000 * k) p' ∧ ρ = [.ow (.lst p') .own, s1, s2, s3, s4, s5, s6, s7, s8, s9, s10, s11, .un, s13]) _ 0 [] _ ?_ ?_ ?_); (fail "WU14")))
  · exact ⟨p, [], rfl, rfl, fun i l h => by simp at h, hp, rfl⟩
  · intro j dd acc ρ hj hI
    obtain ⟨p', ls, rfl, hll, hls, hp', rfl⟩ := hI
    obtain ⟨hjl, rfl⟩ := rng_at hj
    have hj7 : j < 7 := hjl
    repeat fail "WU14"
    refine ⟨fun h => (by cases h), fun _ => ?_⟩
    repeat fail "WU14"
    refine wildS_wp hp' (by omega) (by omega) (by omega) (by omega) (by omega) fun m p2 ok2 hl2 bd2 hp2 => ?_
    have lg := lg_of (i := j) ok2 (by omega) (fun o ho => (bd2 o ho).1) hj7
    (repeat (case orE => (fail "WU14"); (with_reducible refine lifted_wp (by omega) ok2.ops ⟨by omega, by omega⟩ ?_)))
    refine ⟨_, rfl, p2, ls ++ [m.map (lfO (10 * (1 + (j : Int))))], by rw [List.map_append]; rfl, by rw [List.length_append, hll]; rfl, fun i l h => ?_, hp2.mono (by omega), by with_unfolding_all exact rfl⟩
    by_cases hi : i < ls.length
    · rw [List.getElem?_append_left hi] at h
      exact hls i l h
    · rw [List.getElem?_append_right (by omega)] at h
      have : i = ls.length := by
        by_cases z : i - ls.length = 0
        · omega
        · rw [List.getElem?_eq_none (by simp; omega)] at h; cases h
      subst this
      rw [Nat.sub_self] at h
      cases h
      rw [show 0 + ls.length = j by omega]
      exact lg
  · intro acc ρ hI
    obtain ⟨p', ls, rfl, hll, hls, hp', rfl⟩ := hI
    repeat fail "WU14"
    exact q p' ls hll hls (hp'.mono (by show c + 7000 * (0 + 7) ≤ c + 50000; omega))
end K16
set_option maxHeartbeats 1000000
namespace K16
open PySem PySem.Spec PyProof.Rows L2 DL CM
theorem len7 {α : Type} {ls : List α} (h : ls.length = 7) : ∃ a b c d e f g, ls = [a, b, c, d, e, f, g] := match ls, h with
  | [a, b, c, d, e, f, g], _ => ⟨a, b, c, d, e, f, g, rfl⟩
theorem okB_of {l : Log} (h : ∀ o ∈ l, o.Ok) (hl : l.length ≤ 200) (nd : l.wr.Nodup) : l.okB = true := logB_iff.mpr ⟨h, nd, hl⟩
theorem all_ops {ls : List Log} (h : ∀ i l, ls[i]? = some l → Lg (0 + i) l) : ∀ l ∈ ls, (∀ o ∈ l, o.Ok) ∧ l.length ≤ 4 := fun l hl => by
  obtain ⟨i, hi⟩ := List.mem_iff_getElem?.mp hl
  exact ⟨(h i l hi).ops, (h i l hi).len⟩
theorem flat_ops {ls : List Log} (h : ∀ l ∈ ls, (∀ o ∈ l, o.Ok) ∧ l.length ≤ 4) : (∀ o ∈ ls.flatten, o.Ok) ∧ ls.flatten.length ≤ 4 * ls.length := by
  induction ls with
  | nil => exact ⟨fun o ho => (nomatch ho), Nat.zero_le _⟩
  | cons l ls ih =>
    obtain ⟨i1, i2⟩ := ih fun m hm => h m (List.mem_cons_of_mem _ hm)
    obtain ⟨a, b⟩ := h l List.mem_cons_self
    refine ⟨fun o ho => ?_, ?_⟩
    · rw [List.flatten_cons] at ho
      exact (List.mem_append.mp ho).elim (a o) (i1 o)
    · rw [List.flatten_cons, List.length_append, List.length_cons]
      omega
end K16
set_option maxHeartbeats 1000000
namespace K16
open PySem PySem.Spec PyProof.Rows L2 DL CM
theorem a5_wp {s0 s1 s3 s5 s6 s7 s8 s9 s10 s11 s12 s13 : DL.Slot} {g0 g1 g2 g3 g4 g5 g6 : Log} {Q : Val → DEnv → Prop} {X : Ex → DEnv → Prop} (ha : ∀ l ∈ ([g0, g1, g2, g3, g4, g5, g6] : List Log), (∀ o ∈ l, o.Ok) ∧ l.length ≤ 4)
    (q : Q (.d (.bl true)) [s0, s1, .ow (.lst ([g0, g1, g2, g3, g4, g5, g6].map Log.d)) .own, s3, .d (Log.d ([g5, g1, g2, [], g0, g1] : List Log).flatten), s5, s6, s7, s8, s9, s10, s11, s12, s13]) :
    (eCallE t__law_right_of c5__law_right (aCons (eVar 4) aNil) [s0, s1, .ow (.lst ([g0, g1, g2, g3, g4, g5, g6].map Log.d)) .own, s3, .d (Log.d ([g5, g1, g2, [], g0, g1] : List Log).flatten), s5, s6, s7, s8, s9, s10, s11, s12, s13]).wp Q X := by
  obtain ⟨fo, fl⟩ := flat_ops (ls := [g5, g1, g2, [], g0, g1]) fun l hl => by
    simp only [List.mem_cons, List.not_mem_nil, or_false] at hl
    rcases hl with rfl | rfl | rfl | rfl | rfl | rfl
    · exact ha _ (by simp)
    · exact ha _ (by simp)
    · exact ha _ (by simp)
    · exact ⟨fun o ho => (nomatch ho), Nat.zero_le _⟩
    · exact ha _ (by simp)
    · exact ha _ (by simp)
  have fl : ([g5, g1, g2, [], g0, g1] : List Log).flatten.length ≤ 24 := fl
  refine ask_wp (ls := [g5, g1, g2, [], g0, g1]) fo (by omega) (fun Q X q => ?_) (fun Q X q1 q2 => ?_) q
  · repeat fail "WU14"
    exact q
  · (repeat (case orE => (fail "WU14"); (with_reducible refine join_wp (ls := [g5, g1, g2, [], g0, g1]) (by with_unfolding_all exact rfl) (by omega) (fun h => ?_) (fun h => ?_))))
    · exact q1 h
    · exact q2 h
theorem c6_wp {p : List D} {c : Nat} {s1 s2 s3 s4 s5 s6 s7 s8 s9 s10 s11 s12 : DL.Slot} {Q : Val → DEnv → Prop} {X : Ex → DEnv → Prop} (hp : Pot c p) (hc : c < 500000)
    (q : ∀ p' (os : List Op), os.length = 10 → (∀ o ∈ os, o.Ok ∧ o.w = false) → Pot (c + 20) p' → Q (.fr (.lst (os.map fun o => Log.d [o]))) [.ow (.lst p') .own, s1, s2, s3, s4, s5, s6, s7, s8, s9, s10, s11, s12, .un]) :
    (c6__law_right [.ow (.lst p) .own, s1, s2, s3, s4, s5, s6, s7, s8, s9, s10, s11, s12, .un]).wp Q X := by
  unfold c6__law_right
  (repeat (case orE => (with_reducible refine comp_inv (fun k acc ρ => ∃ (p' : List D) (os : List Op), acc = (os.map fun o => Log.d [o]) ∧ os.length = k ∧ (∀ o ∈ os, o.Ok ∧ o.w = false) ∧ Pot (c + k) p' ∧ ρ = [.ow (.lst p') .own, s1, s2, s3, s4, s5, s6, s7, s8, s9, s10, s11, s12, .un]) _ 0 [] _ ?_ ?_ ?_); (fail "WU14")))
  · exact ⟨p, [], rfl, rfl, fun o h => (nomatch h), hp, rfl⟩
  · intro j dd acc ρ hj hI
    obtain ⟨p', os, rfl, hll, hls, hp', rfl⟩ := hI
    obtain ⟨hjl, rfl⟩ := rng_at hj
    have hj10 : j < 10 := hjl
    repeat fail "WU14"
    refine ⟨fun h => (by cases h), fun _ => ?_⟩
    repeat fail "WU14"
    refine draw_wp hp' (by omega) (by omega) (by omega) fun r p2 a1 b1 hp2 => ?_
    repeat fail "WU14"
    refine ⟨_, rfl, p2, os ++ [⟨false, (0 + (j : Int)) % 3, 0 + (j : Int), 0 + (j : Int) + r⟩], by rw [List.map_append]; with_unfolding_all exact rfl, by rw [List.length_append, hll]; rfl, fun o h => ?_, hp2.mono (by omega), by with_unfolding_all exact rfl⟩
    rcases List.mem_append.mp h with z | z
    · exact hls o z
    · rw [List.mem_singleton.mp z]
      exact ⟨⟨by show 0 ≤ (0 + (j : Int)) % 3; omega, fun h => (by cases h), by show (0 + (j : Int)) % 3 ≤ 1000000000; omega, by show -1000000000000000 ≤ 0 + (j : Int); omega, by show 0 + (j : Int) ≤ 0 + (j : Int) + r; omega, by show 0 + (j : Int) + r ≤ 1000000000000000; omega⟩, rfl⟩
  · intro acc ρ hI
    obtain ⟨p', os, rfl, hll, hls, hp', rfl⟩ := hI
    repeat fail "WU14"
    exact q p' os hll hls (hp'.mono (by show c + (0 + 10) ≤ c + 20; omega))
theorem len10 {α : Type} {ls : List α} (h : ls.length = 10) : ∃ a b c d e f g i j k, ls = [a, b, c, d, e, f, g, i, j, k] := match ls, h with
  | [a, b, c, d, e, f, g, i, j, k], _ => ⟨a, b, c, d, e, f, g, i, j, k, rfl⟩
theorem c7_wp {os : List Op} {s0 s1 s2 s3 s4 s6 s7 s8 s9 s10 s11 s12 s13 : DL.Slot} {Q : Val → DEnv → Prop} {X : Ex → DEnv → Prop} (hl : os.length ≤ 20) (f8 : Fr s8) (q : ∀ s8, Fr s8 → Q (.fr (.lst (os.map Op.d))) [s0, s1, s2, s3, s4, .ow (.lst (os.map fun o => Log.d [o])) .own, s6, s7, s8, s9, s10, s11, s12, s13]) :
    (c7__law_right [s0, s1, s2, s3, s4, .ow (.lst (os.map fun o => Log.d [o])) .own, s6, s7, s8, s9, s10, s11, s12, s13]).wp Q X := by
  unfold c7__law_right
  (repeat (case orE => (with_reducible refine comp_all (bs := os) (dd := fun o => Log.d [o]) (g := Op.d) (fun o ho => ?_) ?_); (fail "WU14")))
  exact q s8 f8
end K16
set_option maxHeartbeats 1000000
namespace K16
open PySem PySem.Spec PyProof.Rows L2 DL CM
abbrev r0 : Op := ⟨false, 0, 1, 2⟩
abbrev rd : D := .tup [.str "read", .int 0, .int 1, .int 2]
theorem rep_d {n : Nat} : (List.replicate n [rd]).flatten = (List.replicate n r0).map Op.d := by
  induction n with
  | zero => rfl
  | succ n ih =>
    rw [List.replicate_succ, List.flatten_cons, ih, List.replicate_succ, List.map_cons]
    rfl
theorem rep_ops {n : Nat} : ∀ o ∈ List.replicate n r0, o.Ok := fun o ho => by
  rw [List.eq_of_mem_replicate ho]
  exact ⟨by decide, by decide, by decide, by decide, by decide, by decide⟩
theorem rep_wr {n : Nat} : Log.wr (List.replicate n r0) = [] := by
  unfold Log.wr
  rw [List.filter_eq_nil_iff.mpr fun o ho => by rw [List.eq_of_mem_replicate ho]; simp]
  rfl
theorem rep2 {a b : Nat} : ([List.replicate a r0, List.replicate b r0] : List Log).flatten = List.replicate (a + b) r0 := by
  rw [List.flatten_cons, List.flatten_cons, List.flatten_nil, List.append_nil, List.replicate_append_replicate]
abbrev many : SM := sSeq (sIf (tOrM (tst (eOp neV' (eCallS s_joined (aCons (eOp repW (eVar 7) (eVar 6)) (aCons (eOp repW (eVar 7) (eOp subD (eC (.int 200)) (eVar 6))) aNil))) (eOp repW (eVar 7) (eC (.int 200))))) (tOrM (tst (eOp neV' (eCallS s_joined aNil) (eTup aNil))) (tst (eOp neV' (eCallS s_joined (aCons (eTup aNil) (aCons (eTup aNil) aNil))) (eTup aNil)))))
    (sRet (eC (.bl false)))
    sSkip)
    (sRet (eCallE t__law_right_of c8__law_right (aCons (eOp repW (eVar 7) (eC (.int 201))) aNil)))
theorem nil_ok2 {ls : List Log} (h : ls.flatten = []) : Log.okB ls.flatten = true := by
  rw [h]
  decide
theorem a8_wp {s0 s1 s2 s3 s4 s5 s8 s9 s10 s11 s12 s13 : DL.Slot} {k : Int} {Q : Val → DEnv → Prop} {X : Ex → DEnv → Prop} (hk : 100 ≤ k ∧ k ≤ 199) (q : Q (.d (.bl true)) [s0, s1, s2, s3, s4, s5, .d (.int k), .d (.tup [rd]), s8, s9, s10, s11, s12, s13]) :
    (eCallE t__law_right_of c8__law_right (aCons (eOp repW (eVar 7) (eC (.int 201))) aNil) [s0, s1, s2, s3, s4, s5, .d (.int k), .d (.tup [rd]), s8, s9, s10, s11, s12, s13]).wp Q X := by
  have e2 : k.toNat + (201 - k).toNat = 201 := by omega
  have f2 : ([List.replicate k.toNat r0, List.replicate (201 - k).toNat r0] : List Log).flatten = List.replicate 201 r0 := by rw [rep2, e2]
  have eJ : [D.tup (List.replicate k.toNat [rd]).flatten, D.tup (List.replicate (201 - k).toNat [rd]).flatten] = ([List.replicate k.toNat r0, List.replicate (201 - k).toNat r0] : List Log).map Log.d := by
    rw [rep_d, rep_d]
    with_unfolding_all exact rfl
  have d2 : D.tup (List.replicate (Int.toNat 201) [rd]).flatten = Log.d (List.replicate 201 r0) := by rw [rep_d]; rfl
  refine ask_wp (ls := [List.replicate k.toNat r0, List.replicate (201 - k).toNat r0]) (by rw [f2]; exact rep_ops) (by rw [f2, List.length_replicate]; decide) (fun Q X q => ?_) (fun Q X q1 q2 => ?_) q
  · rw [f2] at q
    (repeat (case orE => (fail "WU14"); (with_reducible refine x_repW (xs := [rd]) (by with_unfolding_all exact rfl) (by with_unfolding_all exact rfl) (by simp) (by omega) (by simp) ?_)))
    rw [d2]
    exact q
  · (repeat (case orE => (fail "WU14"); (with_reducible refine x_repW (xs := [rd]) (by with_unfolding_all exact rfl) (by with_unfolding_all exact rfl) (by simp) (by omega) (by simp) ?_); (with_reducible refine join_wp (ls := [List.replicate k.toNat r0, List.replicate (201 - k).toNat r0]) eJ (by rw [f2, List.length_replicate]; decide) (fun h => ?_) (fun h => ?_))))
    · exact q1 h
    · exact q2 h
theorem many_wp {s0 s1 s2 s3 s4 s5 s8 s9 s10 s11 s12 s13 : DL.Slot} {k : Int} {P : Po} (hk : 100 ≤ k ∧ k ≤ 199) (q : P.rt (.d (.bl true)) [s0, s1, s2, s3, s4, s5, .d (.int k), .d (.tup [rd]), s8, s9, s10, s11, s12, s13]) :
    (many [s0, s1, s2, s3, s4, s5, .d (.int k), .d (.tup [rd]), s8, s9, s10, s11, s12, s13]).wp P := by
  have e2 : k.toNat + (200 - k).toNat = 200 := by omega
  have f2 : ([List.replicate k.toNat r0, List.replicate (200 - k).toNat r0] : List Log).flatten = List.replicate 200 r0 := by rw [rep2, e2]
  have ok2 : Log.okB ([List.replicate k.toNat r0, List.replicate (200 - k).toNat r0] : List Log).flatten = true := by
    rw [f2]
    exact okB_of rep_ops (by rw [List.length_replicate]; exact Nat.le_refl _) (by rw [rep_wr]; exact List.nodup_nil)
  have w2 := wb_of (l := List.replicate 200 r0) rep_ops (by rw [List.length_replicate]; decide)
  have d2 : D.tup (List.replicate (Int.toNat 200) [rd]).flatten = Log.d (List.replicate 200 r0) := by rw [rep_d]; rfl
  have nk1 : Log.okB ([] : List Log).flatten = true := nil_ok2 rfl
  have nk2 : Log.okB ([[], []] : List Log).flatten = true := nil_ok2 rfl
  have gn : Gd 1 1 (.tup []) := ⟨rfl, rfl, by decide, by decide⟩
  have eJ : [D.tup (List.replicate k.toNat [rd]).flatten, D.tup (List.replicate (200 - k).toNat [rd]).flatten] = ([List.replicate k.toNat r0, List.replicate (200 - k).toNat r0] : List Log).map Log.d := by
    rw [rep_d, rep_d]
    with_unfolding_all exact rfl
  have hJ : ([List.replicate k.toNat r0, List.replicate (200 - k).toNat r0] : List Log).flatten.length ≤ 3000 := by
    rw [f2, List.length_replicate]
    decide
  (repeat (case orE => (with_reducible refine b_orW ?_); ((rw [f2])); (with_reducible refine a8_wp hk ?_); (fail "WU14"); (with_reducible refine x_repW (xs := [rd]) (by with_unfolding_all exact rfl) (by with_unfolding_all exact rfl) (by simp) (by omega) (by simp) ?_); (with_reducible refine join_wp (ls := [List.replicate k.toNat r0, List.replicate (200 - k).toNat r0]) eJ hJ (fun h => ?_) (fun h => absurd h (by rw [ok2]; simp))); (with_reducible refine x_neSame (by with_unfolding_all exact rfl) (by with_unfolding_all exact rfl) w2.gd.1 (by decide) d2 ?_); (with_reducible refine join_wp (ls := []) rfl (by decide) (fun h => ?_) (fun h => absurd h (by rw [nk1]; simp))); (with_reducible refine join_wp (ls := [[], []]) rfl (by decide) (fun h => ?_) (fun h => absurd h (by rw [nk2]; simp))); (with_reducible refine x_neSame (by with_unfolding_all exact rfl) (by with_unfolding_all exact rfl) gn (by decide) rfl ?_)))
  exact q
end K16
set_option maxHeartbeats 1000000
namespace K16
open PySem PySem.Spec PyProof.Rows L2 DL CM
def Gate (p : Prop) : Prop := p
theorem gate_out {p : Prop} (q : Gate p) : p := q
theorem gate_in {p : Prop} (q : p) : Gate p := q
theorem right_wp (p : List D) (Q : Val → DEnv → Prop) (X : Ex → DEnv → Prop) (hp : Pot 0 p) (q : Q (.d (.bl true)) [.un]) : (s__law_right [.ow (.lst p) .own]).wp Q X := by
  unfold s__law_right e__law_right; with_reducible refine f_fnW (by with_unfolding_all exact rfl) ?_
  (repeat (case orE => (with_reducible refine turns_loop hp (fun p1 s1 s8 s9 s10 s11 hp1 f8 => ?_)); (with_reducible refine c4_wp hp1 (by omega) (fun p2 ls hll hls hp2 => gate_out ?_)); (fail "WU14")))
  obtain ⟨g0, g1, g2, g3, g4, g5, g6, rfl⟩ := len7 hll
  have ha := all_ops hls
  have m0 := (ha g0 (by simp)).2
  have m1 := (ha g1 (by simp)).2
  have m2 := (ha g2 (by simp)).2
  have m3 := (ha g3 (by simp)).2
  have m4 := (ha g4 (by simp)).2
  have m5 := (ha g5 (by simp)).2
  have m6 := (ha g6 (by simp)).2
  obtain ⟨fo, fl⟩ := flat_ops ha
  have fl : ([g0, g1, g2, g3, g4, g5, g6] : List Log).flatten.length ≤ 28 := fl
  have ok := okB_of fo (by omega) (flat_nd hls).1
  have wl := wb_of fo (by omega)
  have e7 : D.tup (((((g0.map Op.d ++ g1.map Op.d) ++ g2.map Op.d ++ g3.map Op.d) ++ g4.map Op.d) ++ g5.map Op.d) ++ g6.map Op.d) = Log.d ([g0, g1, g2, g3, g4, g5, g6] : List Log).flatten := by simp [Log.d]
  have e5 : D.tup ((((g5.map Op.d ++ g1.map Op.d) ++ g2.map Op.d) ++ g0.map Op.d) ++ g1.map Op.d) = Log.d ([g5, g1, g2, [], g0, g1] : List Log).flatten := by simp [Log.d]
  refine gate_in ?_
  (repeat (case orE => ((rw [e5])); (with_reducible refine a5_wp ha ?_); (with_reducible refine c6_wp hp2 (by omega) (fun p3 os hol hos hp3 => gate_out ?_)); (fail "WU14"); (with_reducible refine join_wp (ls := [g0, g1, g2, g3, g4, g5, g6]) (by with_unfolding_all exact rfl) (by omega) (fun h => ?_) (fun h => absurd h (by rw [ok]; simp))); (with_reducible refine x_addT (by with_unfolding_all exact rfl) (by with_unfolding_all exact rfl) (by simp; omega) ?_); (with_reducible refine x_neSame (by with_unfolding_all exact rfl) (by with_unfolding_all exact rfl) wl.gd.1 (by decide) e7 ?_)))
  obtain ⟨o0, o1, o2, o3, o4, o5, o6, o7, o8, o9, rfl⟩ := len10 hol
  have ft : ([[o0], [o1], [o2], [o3], [o4], [o5], [o6], [o7], [o8], [o9]] : List Log).flatten = [o0, o1, o2, o3, o4, o5, o6, o7, o8, o9] := rfl
  have wt : Log.wr [o0, o1, o2, o3, o4, o5, o6, o7, o8, o9] = [] := by
    unfold Log.wr
    rw [List.filter_eq_nil_iff.mpr fun o ho => by rw [(hos o ho).2]; simp]
    rfl
  have ot : ∀ o ∈ ([o0, o1, o2, o3, o4, o5, o6, o7, o8, o9] : Log), o.Ok := fun o ho => (hos o ho).1
  have okt : Log.okB ([[o0], [o1], [o2], [o3], [o4], [o5], [o6], [o7], [o8], [o9]] : List Log).flatten = true := by
    rw [ft]
    exact okB_of ot (by simp) (by rw [wt]; exact List.nodup_nil)
  have wl2 := wb_of ot (by simp)
  clear e7 e5 ok wl fl fo ha hls
  refine gate_in ?_
  (repeat (case orE => ((rw [ft])); (with_reducible refine c7_wp (os := [o0, o1, o2, o3, o4, o5, o6, o7, o8, o9]) (by simp) (by assumption) (fun s8 f8 => ?_)); (fail "WU14"); (with_reducible refine join_wp (ls := [[o0], [o1], [o2], [o3], [o4], [o5], [o6], [o7], [o8], [o9]]) (by with_unfolding_all exact rfl) (by simp) (fun h => ?_) (fun h => absurd h (by rw [okt]; simp))); (with_reducible refine x_neSame (by with_unfolding_all exact rfl) (by with_unfolding_all exact rfl) wl2.gd.1 (by decide) rfl ?_); (with_reducible refine any_wp hp3 (by omega) (.inl rfl) (by simp) (by simp) (fun x p4 hx hp4 => gate_out ?_))))
  obtain ⟨k, rfl, hk⟩ : ∃ k : Int, x = .int k ∧ 100 ≤ k ∧ k ≤ 199 := by
    have hx : x ∈ [D.int 100, .int 150, .int 199] := hx
    simp only [List.mem_cons, List.not_mem_nil, or_false] at hx
    rcases hx with rfl | rfl | rfl <;> exact ⟨_, rfl, by omega, by omega⟩
  refine gate_in ?_
  (repeat (case orE => ((with_reducible refine s_as (f := many) (ρ' := [.ow (.lst p4) .own, s1, .ow (.lst ([g0, g1, g2, g3, g4, g5, g6].map Log.d)) .own, .d (Log.d [o0, o1, o2, o3, o4, o5, o6, o7, o8, o9]), .d (Log.d ([g5, g1, g2, [], g0, g1] : List Log).flatten), .ow (.lst ([o0, o1, o2, o3, o4, o5, o6, o7, o8, o9].map fun o => Log.d [o])) .own, .d (.int k), .d (.tup [rd]), s8, s9, s10, s11, .un, .un]) (by with_unfolding_all exact rfl) (many_wp hk ?_))); (fail "WU14")))
  with_unfolding_all exact q
theorem law_e : s_law = lawF 3 s__law_right := rfl
theorem sem_law (ns : List Int) (h : ns.length ≤ 63) : ∃ as', s_law [.d (.scr ns)] = .ret (.d (.bl true)) as' := by
  rw [law_e]
  have hR : ∀ (p : List D) (Q : Val → DEnv → Prop) (X : Ex → DEnv → Prop), Pot 0 p → Q (.d (.bl true)) [.un] → (s__law_right [.ow (.lst p) .own]).wp Q X := by
    intro p Q X hp q
    with_reducible exact right_wp p Q X hp q
  generalize s__law_right = R at hR ⊢
  exact lawF_sem (n := 3) (by decide) (R := R) hR ns h
end K16
set_option maxHeartbeats 4000000
namespace K16
open PySem PySem.Spec PyProof.Rows L2 DL
def topS (i : Nat) : Stmt := PySem.Challenge.pw_clockslack_k16_logs_joined.main.body.getD i (.Pass ⟨0, 0, 0, 0⟩)
def clsB : Stmt → List Stmt
  | .ClassDef (body := b) .. => b
  | _ => []
abbrev st_is_integer : Stmt := topS 11
abbrev st_are_stamps : Stmt := topS 12
abbrev st_is_operation : Stmt := topS 13
abbrev st_is_log : Stmt := topS 14
abbrev st_checked : Stmt := topS 16
abbrev st_joined : Stmt := topS 17
abbrev st__law_pot : Stmt := topS 19
abbrev st__law_draw : Stmt := topS 20
abbrev st__law_any : Stmt := topS 21
abbrev st__law_mixed : Stmt := topS 22
abbrev st__law_wild : Stmt := topS 23
abbrev st__law_true : Stmt := topS 24
abbrev st__law_caught : Stmt := topS 25
abbrev st__law_right_of : Stmt := topS 26
abbrev st__law_lifted : Stmt := topS 27
abbrev st__law_right : Stmt := topS 28
abbrev st_law : Stmt := topS 29
abbrev st_i_BadLog : Stmt := (clsB (topS 2)).getD 0 (.Pass ⟨0, 0, 0, 0⟩)
section
variable [i0 : TabT]
variable {P : Program} {w : World} {K : PySem.W.Frag} {mg : Str → Option Value} {base : Heap}
theorem i_BadLog {C fI C0 : Addr} {fd : FuncData} (Fu : Fun K "__init__" ("BadLog.__init__" : Str) st_i_BadLog fI fd) (T : OexC K C) (hno0 : PySem.W.findIn K (.ref C) ("value" : Str) = some none) (m0 : mg ("CellError" : Str) = some (.ref C0)) (T0 : CeC K C0) : FnOk P w K mg base (L2.CX P w) 1 fI fd ["self", ("value" : Str)] (spI1 C ("value" : Str)) := by
  refine Fun.okX (k := 0) (N := ["self", ("value" : Str)]) Fu ⟨rfl, rfl, rfl, by decide +kernel, rfl, by decide +kernel, by decide +kernel⟩ (fun vs H Q E h => by obtain ⟨_, _, rfl, _⟩ := h; rfl) fun cdv A outer s H vs Q E hr h => ?_
  obtain ⟨a, y0, rfl, ea, q⟩ := h
  refine ⟨_, pss_cons (ps_expr (pe_ceinit (C0 := C0) (by rfl) m0 T0 (pa_cons (pv 0) (pa_cons pe_str pa_nil)))) (pss_one (ps_ost (pv 0) (pv 1))), ?_⟩
  exact i1_fin T hno0 ea q
theorem sc_is_integer : FnScope [("value" : Str), ("least" : Str), ("greatest" : Str)] ps_is_integer (defScope st_is_integer) := ⟨rfl, rfl, rfl, by decide +kernel, rfl, by decide +kernel, by decide +kernel⟩
theorem g_is_integer {f : Addr} {fd : FuncData} (Fu : Fun K ("is_integer" : Str) ("is_integer" : Str) st_is_integer f fd) (c_isinstance : mg ("isinstance" : Str) = none) (c_int : mg ("int" : Str) = none) (c_bool : mg ("bool" : Str) = none) : GFn P w K mg base 1 f fd ps_is_integer CM.s_is_integer := by
  refine gfn_of (g := CM.e_is_integer) Fu sc_is_integer 0 rfl fun cdv A outer s H E hr hG => ?_
  have hu1 := hu1_of hr
  have sc := sc_is_integer
  exact (ds_one (ds_ret (de_and (de_callB CR_isi cs_isi (by rfl) c_isinstance PyProof.Rows.boot_isinstance (da_cons (de_var 0) (da_cons (de_bty (by rfl) c_int PyProof.Rows.boot_int) da_nil))) (de_and (de_not (de_callB CR_isi cs_isi (by rfl) c_isinstance PyProof.Rows.boot_isinstance (da_cons (de_var 0) (da_cons (de_bty (by rfl) c_bool PyProof.Rows.boot_bool) da_nil)))) (de_one (de_leLe (de_var 1) (de_var 0) (de_var 2)))))))
theorem sc_are_stamps : FnScope [("begin" : Str), ("end" : Str)] ps_are_stamps (defScope st_are_stamps) := ⟨rfl, rfl, rfl, by decide +kernel, rfl, by decide +kernel, by decide +kernel⟩
theorem g_are_stamps {f : Addr} {fd : FuncData} (Fu : Fun K ("are_stamps" : Str) ("are_stamps" : Str) st_are_stamps f fd) {f_is_integer : Addr} {fd_is_integer : FuncData} (G_is_integer : GFn P w K mg base 1 f_is_integer fd_is_integer ps_is_integer CM.s_is_integer) (m_is_integer : mg ("is_integer" : Str) = some (.ref f_is_integer)) (k_is_integer : PySem.W.keepIn K (.ref f_is_integer) = true) (b_is_integer : Binds K fd_is_integer ps_is_integer []) {t_MOST_STAMP : Tok} (c_MOST_STAMP : mg ("MOST_STAMP" : Str) = some (.int 1000000000000000 t_MOST_STAMP)) : GFn P w K mg base 2 f fd ps_are_stamps CM.s_are_stamps := by
  refine gfn_of (g := CM.e_are_stamps) Fu sc_are_stamps 0 rfl fun cdv A outer s H E hr hG => ?_
  have hu1 := hu1_of hr
  have sc := sc_are_stamps
  exact (ds_one (ds_ret (de_and (de_call G_is_integer hr hG (takes_of rfl rfl rfl rfl) (by rfl) m_is_integer k_is_integer b_is_integer (da_cons (de_var 0) (da_cons (de_neg (de_globI (by rfl) c_MOST_STAMP)) (da_cons (de_globI (by rfl) c_MOST_STAMP) da_nil))) (aCons_len (aCons_len (aCons_len fun _ _ _ => aNil_len)))) (de_one (de_call G_is_integer hr hG (takes_of rfl rfl rfl rfl) (by rfl) m_is_integer k_is_integer b_is_integer (da_cons (de_var 1) (da_cons (de_var 0) (da_cons (de_globI (by rfl) c_MOST_STAMP) da_nil))) (aCons_len (aCons_len (aCons_len fun _ _ _ => aNil_len))))))))
theorem sc_is_operation : FnScope [("value" : Str), ("kind" : Str), ("written" : Str), ("begin" : Str), ("end" : Str)] ps_is_operation (defScope st_is_operation) := ⟨rfl, rfl, rfl, by decide +kernel, rfl, by decide +kernel, by decide +kernel⟩
theorem g_is_operation {f : Addr} {fd : FuncData} (Fu : Fun K ("is_operation" : Str) ("is_operation" : Str) st_is_operation f fd) {f_are_stamps : Addr} {fd_are_stamps : FuncData} (G_are_stamps : GFn P w K mg base 2 f_are_stamps fd_are_stamps ps_are_stamps CM.s_are_stamps) (m_are_stamps : mg ("are_stamps" : Str) = some (.ref f_are_stamps)) (k_are_stamps : PySem.W.keepIn K (.ref f_are_stamps) = true) (b_are_stamps : Binds K fd_are_stamps ps_are_stamps []) {f_is_integer : Addr} {fd_is_integer : FuncData} (G_is_integer : GFn P w K mg base 2 f_is_integer fd_is_integer ps_is_integer CM.s_is_integer) (m_is_integer : mg ("is_integer" : Str) = some (.ref f_is_integer)) (k_is_integer : PySem.W.keepIn K (.ref f_is_integer) = true) (b_is_integer : Binds K fd_is_integer ps_is_integer []) {t_PARTS : Tok} (c_PARTS : mg ("PARTS" : Str) = some (.int 4 t_PARTS)) (c_isinstance : mg ("isinstance" : Str) = none) (c_tuple : mg ("tuple" : Str) = none) (c_len : mg ("len" : Str) = none) (c_str : mg ("str" : Str) = none) {t_READ : Tok} (c_READ : mg ("READ" : Str) = some (.str ("read" : Str) t_READ)) {t_WRITE : Tok} (c_WRITE : mg ("WRITE" : Str) = some (.str ("write" : Str) t_WRITE)) {t_MOST_VALUE : Tok} (c_MOST_VALUE : mg ("MOST_VALUE" : Str) = some (.int 1000000000 t_MOST_VALUE)) (c_int : mg ("int" : Str) = none) : GFn P w K mg base 3 f fd ps_is_operation CM.s_is_operation := by
  refine gfn_of (g := CM.e_is_operation) Fu sc_is_operation 4 rfl fun cdv A outer s H E hr hG => ?_
  have hu1 := hu1_of hr
  have sc := sc_is_operation
  exact (ds_cons (ds_if (DW.dt (dw_or (dt_not (dt_val (de_callB CR_isi cs_isi (by rfl) c_isinstance PyProof.Rows.boot_isinstance (da_cons (de_var 0) (da_cons (de_bty (by rfl) c_tuple PyProof.Rows.boot_tuple) da_nil))))) (dw_or (dt_ne hr.units (de_callB CR_len cs_len (by rfl) c_len PySem.boot_len (da_cons (de_var 0) da_nil)) (de_globI (by rfl) c_PARTS)) (dw_or1 (dt_not (dt_val (de_callB CR_isi cs_isi (by rfl) c_isinstance PyProof.Rows.boot_isinstance (da_cons (de_idx hu1 (de_var 0) de_int) (da_cons (de_bty (by rfl) c_str PyProof.Rows.boot_str) da_nil)))))))))
    (ds_one (ds_ret de_bl))
    ds_nil)
    (ds_cons (ds_tgt (de_var 0) (dg_tup 4 rfl (dgs_cons (dg_name 1 sc.nd) (dgs_cons (dg_name 2 sc.nd) (dgs_cons (dg_name 3 sc.nd) (dgs_cons (dg_name 4 sc.nd) dgs_nil))))) (nx_tupG (nx_gsCons (nx_asgV 1) (nx_gsCons (nx_asgV 2) (nx_gsCons (nx_asgV 3) (nx_gsCons (nx_asgV 4) nx_gsNil))))))
    (ds_cons (ds_if (DW.dt (dw_or (dt_nin hu1 (de_var 1) (de_tup (da_cons (de_fz (de_globS (by rfl) c_READ)) (da_cons (de_fz (de_globS (by rfl) c_WRITE)) da_nil)))) (dw_or1 (dt_not (dt_val (de_call G_is_integer hr hG (takes_of rfl rfl rfl rfl) (by rfl) m_is_integer k_is_integer b_is_integer (da_cons (de_var 2) (da_cons (de_callTy call_int1 cs_int (by rfl) c_int PyProof.Rows.boot_int (da_cons (de_eq hr.units (de_var 1) (de_globS (by rfl) c_WRITE)) da_nil)) (da_cons (de_globI (by rfl) c_MOST_VALUE) da_nil))) (aCons_len (aCons_len (aCons_len fun _ _ _ => aNil_len)))))))))
    (ds_one (ds_ret de_bl))
    ds_nil)
    (ds_one (ds_ret (de_call G_are_stamps hr hG (takes_of rfl rfl rfl rfl) (by rfl) m_are_stamps k_are_stamps b_are_stamps (da_cons (de_var 3) (da_cons (de_var 4) da_nil)) (aCons_len (aCons_len fun _ _ _ => aNil_len))))))))
theorem sc_is_log : FnScope [("value" : Str), ("written" : Str), ("one" : Str)] ps_is_log (defScope st_is_log) := ⟨rfl, rfl, rfl, by decide +kernel, rfl, by decide +kernel, by decide +kernel⟩
theorem g_is_log {f : Addr} {fd : FuncData} (Fu : Fun K ("is_log" : Str) ("is_log" : Str) st_is_log f fd) {f_is_operation : Addr} {fd_is_operation : FuncData} (G_is_operation : GFn P w K mg base 3 f_is_operation fd_is_operation ps_is_operation CM.s_is_operation) (m_is_operation : mg ("is_operation" : Str) = some (.ref f_is_operation)) (k_is_operation : PySem.W.keepIn K (.ref f_is_operation) = true) (b_is_operation : Binds K fd_is_operation ps_is_operation []) {t_MOST_OPERATIONS : Tok} (c_MOST_OPERATIONS : mg ("MOST_OPERATIONS" : Str) = some (.int 200 t_MOST_OPERATIONS)) (c_all : mg ("all" : Str) = none) (c_len : mg ("len" : Str) = none) (c_isinstance : mg ("isinstance" : Str) = none) (c_tuple : mg ("tuple" : Str) = none) {t_WRITE : Tok} (c_WRITE : mg ("WRITE" : Str) = some (.str ("write" : Str) t_WRITE)) (c_set : mg ("set" : Str) = none) : GFn P w K mg base 4 f fd ps_is_log CM.s_is_log := by
  refine gfn_of (g := CM.e_is_log) Fu sc_is_log 2 rfl fun cdv A outer s H E hr hG => ?_
  have hu1 := hu1_of hr
  have sc := sc_is_log
  exact (ds_cons (ds_if (DW.dt (dw_or (dt_not (dt_val (de_callB CR_isi cs_isi (by rfl) c_isinstance PyProof.Rows.boot_isinstance (da_cons (de_var 0) (da_cons (de_bty (by rfl) c_tuple PyProof.Rows.boot_tuple) da_nil))))) (dw_or1 (dt_gt (de_callB CR_len cs_len (by rfl) c_len PySem.boot_len (da_cons (de_var 0) da_nil)) (de_globI (by rfl) c_MOST_OPERATIONS)))))
    (ds_one (ds_ret de_bl))
    ds_nil)
    (ds_cons (ds_if (dt_not (dt_val (de_callB (cr_all rfl) cs_all (by rfl) c_all PyProof.Rows.boot_all (da_cons (de_lc rfl sc.nd (di_seq (de_var 0)) (own := [(("one" : Str), 2)]) (blkOk_by (by first | (show blkC [("value" : Str), ("written" : Str), ("one" : Str)] (defScope st_is_log) _ _ = true; decide +kernel) | rfl)) (by decide) (fun _ _ _ _ _ => (dg_name 2 sc.nd)) (fun _ _ _ _ _ => dts_nil) (fun _ _ _ _ _ => (de_fz (de_call G_is_operation hr hG takes0 (by rfl) m_is_operation k_is_operation b_is_operation (da_cons (de_var 2) da_nil) (aCons_len fun _ _ _ => aNil_len))))) da_nil))))
    (ds_one (ds_ret de_bl))
    ds_nil)
    (ds_cons (by first | exact (ds_setLc 1 rfl sc.nd (di_seq (de_var 0)) (own := [(("one" : Str), 2)]) (blkOk_by (by first | (show blkC [("value" : Str), ("written" : Str), ("one" : Str)] (defScope st_is_log) _ _ = true; decide +kernel) | rfl)) (by decide) (fun _ _ _ _ _ => (dg_name 2 sc.nd)) (fun _ _ _ _ _ => (dts_one (dt_eq hr.units (de_idx hu1 (de_var 2) de_int) (de_globS (by rfl) c_WRITE)))) (fun _ _ _ _ _ => (de_fz (de_idx hu1 (de_var 2) de_int))) rfl) | exact (ds_asg 1 sc.nd (de_lc rfl sc.nd (di_seq (de_var 0)) (own := [(("one" : Str), 2)]) (blkOk_by (by first | (show blkC [("value" : Str), ("written" : Str), ("one" : Str)] (defScope st_is_log) _ _ = true; decide +kernel) | rfl)) (by decide) (fun _ _ _ _ _ => (dg_name 2 sc.nd)) (fun _ _ _ _ _ => (dts_one (dt_eq hr.units (de_idx hu1 (de_var 2) de_int) (de_globS (by rfl) c_WRITE)))) (fun _ _ _ _ _ => (de_fz (de_idx hu1 (de_var 2) de_int))))))
    (ds_one (ds_ret (de_eq hr.units (de_lenSet rfl (by rfl) c_len (by rfl) c_set (de_var 1)) (de_callB CR_len cs_len (by rfl) c_len PySem.boot_len (da_cons (de_var 1) da_nil))))))))
theorem sc_checked : FnScope [("log" : Str)] ps_checked (defScope st_checked) := ⟨rfl, rfl, rfl, by decide +kernel, rfl, by decide +kernel, by decide +kernel⟩
theorem g_checked {f : Addr} {fd : FuncData} (Fu : Fun K ("checked" : Str) ("checked" : Str) st_checked f fd) {f_is_log : Addr} {fd_is_log : FuncData} (G_is_log : GFn P w K mg base 4 f_is_log fd_is_log ps_is_log CM.s_is_log) (m_is_log : mg ("is_log" : Str) = some (.ref f_is_log)) (k_is_log : PySem.W.keepIn K (.ref f_is_log) = true) (b_is_log : Binds K fd_is_log ps_is_log []) (E_BadLog : ExcR P w K mg base 1 ("BadLog" : Str) (fun C => spI1 C ("value" : Str))) : GFn P w K mg base 5 f fd ps_checked s_checked := by
  refine gfn_of (g := e_checked) Fu sc_checked 0 rfl fun cdv A outer s H E hr hG => ?_
  have hu1 := hu1_of hr
  have sc := sc_checked
  exact (ds_cons (ds_if (dt_not (dt_val (de_call G_is_log hr hG (takes_of rfl rfl rfl rfl) (by rfl) m_is_log k_is_log b_is_log (da_cons (de_var 0) da_nil) (aCons_len fun _ _ _ => aNil_len))))
    (ds_one (ds_raiseX1 rfl (takes_of rfl rfl rfl rfl) E_BadLog hr (by decide) (by rfl) (da_cons (de_var 0) da_nil)))
    ds_nil)
    (ds_one (ds_ret (de_var 0))))
theorem sc_joined : FnScope [("logs" : Str), ("log" : Str), ("one" : Str)] ps_joined (defScope st_joined) := ⟨rfl, rfl, rfl, by decide +kernel, rfl, by decide +kernel, by decide +kernel⟩
theorem g_joined {f : Addr} {fd : FuncData} (Fu : Fun K ("joined" : Str) ("joined" : Str) st_joined f fd) (hb : ∀ rest : List Value, bindArgs fd ⟨rest, []⟩ = (newTuple rest >>= fun t => pure [(("logs" : Str), t)])) {f_checked : Addr} {fd_checked : FuncData} (G_checked : GFn P w K mg base 5 f_checked fd_checked ps_checked s_checked) (m_checked : mg ("checked" : Str) = some (.ref f_checked)) (k_checked : PySem.W.keepIn K (.ref f_checked) = true) (b_checked : Binds K fd_checked ps_checked []) (c_tuple : mg ("tuple" : Str) = none) : GStar P w K mg base 6 f s_joined := by
  refine gstar_of (g := e_joined) Fu sc_joined 2 rfl hb fun cdv A outer s H E hr hG => ?_
  have hu1 := hu1_of hr
  have sc := sc_joined
  exact (ds_one (ds_ret (de_call G_checked hr hG (takes_of rfl rfl rfl rfl) (by rfl) m_checked k_checked b_checked (da_cons (de_callTy call_tuple_of cs_tuple (by rfl) c_tuple PyProof.Rows.boot_tuple (da_cons (de_cat (own := [(("log" : Str), 1), (("one" : Str), 2)]) 0 1 2 rfl sc.nd (blkOk_by (by first | (show blkC [("logs" : Str), ("log" : Str), ("one" : Str)] (defScope st_joined) _ _ = true; decide +kernel) | rfl)) (by decide) (by decide) (by decide) (pv 0) (fun _ _ _ _ _ => pv 1) (fun _ _ _ _ _ => pg_name sc.nd (i := 1) rfl (by first | exact .inl rfl | exact .inr rfl)) (fun _ _ _ _ _ => pg_name sc.nd (i := 2) rfl (by first | exact .inl rfl | exact .inr rfl)) (fun _ _ _ _ _ => pv 2)) da_nil)) da_nil) (aCons_len fun _ _ _ => aNil_len))))
theorem sc__law_pot : FnScope [("_law_script" : Str), ("_law_k" : Str), ("_law_cell" : Str), ("_law_own" : Str)] ps__law_pot (defScope st__law_pot) := ⟨rfl, rfl, rfl, by decide +kernel, rfl, by decide +kernel, by decide +kernel⟩
theorem g__law_pot {f : Addr} {fd : FuncData} (Fu : Fun K ("_law_pot" : Str) ("_law_pot" : Str) st__law_pot f fd) (c_len : mg ("len" : Str) = none) (c_int : mg ("int" : Str) = none) (c_abs : mg ("abs" : Str) = none) : GFn P w K mg base 1 f fd ps__law_pot CM.s_l_pot := by
  refine gfn_of (g := CM.e_l_pot) Fu sc__law_pot 2 rfl fun cdv A outer s H E hr hG => ?_
  have hu1 := hu1_of hr
  have sc := sc__law_pot
  exact (ds_cons (ds_asg 2 sc.nd (de_add (de_mul de_int (de_var 1)) de_int))
    (ds_cons (ds_if (dt_lt (de_var 1) (de_callB CR_len cs_len (by rfl) c_len PySem.boot_len (da_cons (de_var 0) da_nil)))
    (ds_one (ds_asg 2 sc.nd (de_idx hu1 (de_var 0) (de_var 1))))
    ds_nil)
    (ds_cons (ds_asg 3 sc.nd (de_mul (de_mod (de_callB call_abs cs_abs (by rfl) c_abs PyProof.Rows.boot_abs (da_cons (de_var 2) da_nil)) (de_pow (de_pow de_int de_int) de_int)) (de_callTy call_int1 cs_int (by rfl) c_int PyProof.Rows.boot_int (da_cons (de_ge (de_callB call_abs cs_abs (by rfl) c_abs PyProof.Rows.boot_abs (da_cons (de_var 2) da_nil)) (de_pow de_int de_int)) da_nil))))
    (ds_one (ds_ret (de_lst (da_cons (de_fz (de_var 3)) (da_cons (de_fz (de_mod (de_add (de_add (de_mul (de_mod (de_var 2) de_int) de_int) (de_mul (de_mul de_int (de_var 1)) (de_var 1))) de_int) de_int)) (da_cons de_int da_nil)))))))))
theorem sc__law_draw : FnScope [("_law_pot_here" : Str), ("_law_many" : Str), ("_law_prime" : Str), ("_law_mixed_here" : Str), ("_law_digit" : Str)] ps__law_draw (defScope st__law_draw) := ⟨rfl, rfl, rfl, by decide +kernel, rfl, by decide +kernel, by decide +kernel⟩
theorem g__law_draw {f : Addr} {fd : FuncData} (Fu : Fun K ("_law_draw" : Str) ("_law_draw" : Str) st__law_draw f fd)  : GFn P w K mg base 1 f fd ps__law_draw CM.s_l_draw := by
  refine gfn_of (g := CM.e_l_draw) Fu sc__law_draw 3 rfl fun cdv A outer s H E hr hG => ?_
  have hu1 := hu1_of hr
  have sc := sc__law_draw
  exact (ds_cons (ds_if (dt_gt (de_idx hu1 (de_var 0) de_int) de_int)
    (ds_cons (ds_asg 4 sc.nd (de_mod (de_idx hu1 (de_var 0) de_int) (de_var 1)))
    (ds_cons (ds_store 0 hu1 (de_div (de_idx hu1 (de_var 0) de_int) (de_var 1)) de_int)
    (ds_one (ds_ret (de_var 4)))))
    ds_nil)
    (ds_cons (ds_store 0 hu1 (de_add (de_idx hu1 (de_var 0) de_int) de_int) de_int)
    (ds_cons (ds_asg 2 sc.nd (de_idx hu1 (de_lst (da_cons de_int (da_cons de_int (da_cons de_int (da_cons de_int (da_cons de_int da_nil)))))) (de_mod (de_idx hu1 (de_var 0) de_int) de_int)))
    (ds_cons (ds_asg 3 sc.nd (de_mod (de_pow (de_add (de_add (de_idx hu1 (de_var 0) de_int) (de_mul (de_mul de_int (de_idx hu1 (de_var 0) de_int)) (de_idx hu1 (de_var 0) de_int))) de_int) de_int) (de_var 2)))
    (ds_one (ds_ret (de_mod (de_div (de_mod (de_mul (de_var 3) (de_add (de_mod (de_var 3) de_int) (de_mul de_int (de_idx hu1 (de_var 0) de_int)))) de_int) de_int) (de_var 1))))))))
theorem sc__law_any : FnScope [("_law_pot_here" : Str), ("_law_items" : Str)] ps__law_any (defScope st__law_any) := ⟨rfl, rfl, rfl, by decide +kernel, rfl, by decide +kernel, by decide +kernel⟩
theorem g__law_any {f : Addr} {fd : FuncData} (Fu : Fun K ("_law_any" : Str) ("_law_any" : Str) st__law_any f fd) {f__law_draw : Addr} {fd__law_draw : FuncData} (G__law_draw : GFn P w K mg base 1 f__law_draw fd__law_draw ps__law_draw CM.s_l_draw) (m__law_draw : mg ("_law_draw" : Str) = some (.ref f__law_draw)) (k__law_draw : PySem.W.keepIn K (.ref f__law_draw) = true) (b__law_draw : Binds K fd__law_draw ps__law_draw []) (c_len : mg ("len" : Str) = none) : GFn P w K mg base 2 f fd ps__law_any CM.s_l_any := by
  refine gfn_of (g := CM.e_l_any) Fu sc__law_any 0 rfl fun cdv A outer s H E hr hG => ?_
  have hu1 := hu1_of hr
  have sc := sc__law_any
  exact (ds_one (ds_ret (de_idx hu1 (de_var 1) (de_call G__law_draw hr hG (takes_of rfl rfl rfl rfl) (by rfl) m__law_draw k__law_draw b__law_draw (da_cons (de_var 0) (da_cons (de_callB CR_len cs_len (by rfl) c_len PySem.boot_len (da_cons (de_var 1) da_nil)) da_nil)) (aCons_len (aCons_len fun _ _ _ => aNil_len))))))
theorem sc__law_mixed : FnScope [("_law_pot_here" : Str), ("_law_items" : Str), ("_law_left" : Str), ("_law_found" : Str)] ps__law_mixed (defScope st__law_mixed) := ⟨rfl, rfl, rfl, by decide +kernel, rfl, by decide +kernel, by decide +kernel⟩
theorem g__law_mixed {f : Addr} {fd : FuncData} (Fu : Fun K ("_law_mixed" : Str) ("_law_mixed" : Str) st__law_mixed f fd) {f__law_draw : Addr} {fd__law_draw : FuncData} (G__law_draw : GFn P w K mg base 1 f__law_draw fd__law_draw ps__law_draw CM.s_l_draw) (m__law_draw : mg ("_law_draw" : Str) = some (.ref f__law_draw)) (k__law_draw : PySem.W.keepIn K (.ref f__law_draw) = true) (b__law_draw : Binds K fd__law_draw ps__law_draw []) (c_list : mg ("list" : Str) = none) (c_len : mg ("len" : Str) = none) : GFn P w K mg base 2 f fd ps__law_mixed CM.s_l_mixed := by
  refine gfn_of (g := CM.e_l_mixed) Fu sc__law_mixed 2 rfl fun cdv A outer s H E hr hG => ?_
  have hu1 := hu1_of hr
  have sc := sc__law_mixed
  exact (ds_cons (by first | exact (ds_par2 2 3 rfl sc.nd (da_cons (de_nsl (de_callTy call_list_of cs_list (by rfl) c_list PyProof.Rows.boot_list (da_cons (de_var 1) da_nil))) (da_cons (de_nsl (de_lst da_nil)) da_nil))) | exact (ds_parT2 2 3 rfl sc.nd (da_cons (de_nsl (de_callTy call_list_of cs_list (by rfl) c_list PyProof.Rows.boot_list (da_cons (de_var 1) da_nil))) (da_cons (de_nsl (de_lst da_nil)) da_nil))))
    (ds_cons (ds_while 1000000 (passes_of rfl) (dt_ne hr.units (de_var 2) (de_lst da_nil))
    (ds_one (ds_expr (de_append 3 (de_popAt 2 (de_call G__law_draw hr hG (takes_of rfl rfl rfl rfl) (by rfl) m__law_draw k__law_draw b__law_draw (da_cons (de_var 0) (da_cons (de_callB CR_len cs_len (by rfl) c_len PySem.boot_len (da_cons (de_var 2) da_nil)) da_nil)) (aCons_len (aCons_len fun _ _ _ => aNil_len))))))))
    (ds_one (ds_ret (de_var 3)))))
theorem sc__law_wild : FnScope [("_law_pot_here" : Str), ("_law_most" : Str), ("_law_room" : Str), ("_law_turn" : Str), ("_law_found" : Str), ("_law_written" : Str), ("_law_begin" : Str), ("_law_kind" : Str), ("_law_value" : Str), ("_law_some" : Str)] ps__law_wild (defScope st__law_wild) := ⟨rfl, rfl, rfl, by decide +kernel, rfl, by decide +kernel, by decide +kernel⟩
theorem g__law_wild {f : Addr} {fd : FuncData} (Fu : Fun K ("_law_wild" : Str) ("_law_wild" : Str) st__law_wild f fd) {f__law_draw : Addr} {fd__law_draw : FuncData} (G__law_draw : GFn P w K mg base 2 f__law_draw fd__law_draw ps__law_draw CM.s_l_draw) (m__law_draw : mg ("_law_draw" : Str) = some (.ref f__law_draw)) (k__law_draw : PySem.W.keepIn K (.ref f__law_draw) = true) (b__law_draw : Binds K fd__law_draw ps__law_draw []) {f__law_mixed : Addr} {fd__law_mixed : FuncData} (G__law_mixed : GFn P w K mg base 2 f__law_mixed fd__law_mixed ps__law_mixed CM.s_l_mixed) (m__law_mixed : mg ("_law_mixed" : Str) = some (.ref f__law_mixed)) (k__law_mixed : PySem.W.keepIn K (.ref f__law_mixed) = true) (b__law_mixed : Binds K fd__law_mixed ps__law_mixed []) {f__law_any : Addr} {fd__law_any : FuncData} (G__law_any : GFn P w K mg base 2 f__law_any fd__law_any ps__law_any CM.s_l_any) (m__law_any : mg ("_law_any" : Str) = some (.ref f__law_any)) (k__law_any : PySem.W.keepIn K (.ref f__law_any) = true) (b__law_any : Binds K fd__law_any ps__law_any []) (c_range : mg ("range" : Str) = none) (c_tuple : mg ("tuple" : Str) = none) : GFn P w K mg base 3 f fd ps__law_wild CM.s_l_wild := by
  refine gfn_of (g := CM.e_l_wild) Fu sc__law_wild 7 rfl fun cdv A outer s H E hr hG => ?_
  have hu1 := hu1_of hr
  have sc := sc__law_wild
  exact (ds_cons (by first | exact (ds_par2 4 5 rfl sc.nd (da_cons (de_nsl (de_lst da_nil)) (da_cons (de_nsl (de_lst da_nil)) da_nil))) | exact (ds_parT2 4 5 rfl sc.nd (da_cons (de_nsl (de_lst da_nil)) (da_cons (de_nsl (de_lst da_nil)) da_nil))))
    (ds_cons (ds_for (passes_of rfl) rfl (di_range1 (by rfl) c_range (da_cons (de_call G__law_draw hr hG (takes_of rfl rfl rfl rfl) (by rfl) m__law_draw k__law_draw b__law_draw (da_cons (de_var 0) (da_cons (de_add (de_var 1) de_int) da_nil)) (aCons_len (aCons_len fun _ _ _ => aNil_len))) da_nil) rfl (aCons_len fun _ _ _ => aNil_len)) (dg_name 3 sc.nd)
    (ds_cons (by first | exact (ds_par2 7 8 rfl sc.nd (da_cons (de_nsl (de_call G__law_any hr hG (takes_of rfl rfl rfl rfl) (by rfl) m__law_any k__law_any b__law_any (da_cons (de_var 0) (da_cons (de_lst (da_cons de_str (da_cons de_str (da_cons de_str da_nil)))) da_nil)) (aCons_len (aCons_len fun _ _ _ => aNil_len)))) (da_cons (de_nsl (de_call G__law_draw hr hG (takes_of rfl rfl rfl rfl) (by rfl) m__law_draw k__law_draw b__law_draw (da_cons (de_var 0) (da_cons de_int da_nil)) (aCons_len (aCons_len fun _ _ _ => aNil_len)))) da_nil))) | exact (ds_parT2 7 8 rfl sc.nd (da_cons (de_nsl (de_call G__law_any hr hG (takes_of rfl rfl rfl rfl) (by rfl) m__law_any k__law_any b__law_any (da_cons (de_var 0) (da_cons (de_lst (da_cons de_str (da_cons de_str (da_cons de_str da_nil)))) da_nil)) (aCons_len (aCons_len fun _ _ _ => aNil_len)))) (da_cons (de_nsl (de_call G__law_draw hr hG (takes_of rfl rfl rfl rfl) (by rfl) m__law_draw k__law_draw b__law_draw (da_cons (de_var 0) (da_cons de_int da_nil)) (aCons_len (aCons_len fun _ _ _ => aNil_len)))) da_nil))))
    (ds_cons (ds_asg 6 sc.nd (de_call G__law_draw hr hG (takes_of rfl rfl rfl rfl) (by rfl) m__law_draw k__law_draw b__law_draw (da_cons (de_var 0) (da_cons (de_var 2) da_nil)) (aCons_len (aCons_len fun _ _ _ => aNil_len))))
    (ds_one (ds_if (DW.dt (dw_and (dt_eq hr.units (de_var 7) de_str) (dw_and (dt_gt (de_var 8) de_int) (dw_and1 (dt_nin hu1 (de_var 8) (de_var 5))))))
    (ds_cons (ds_expr (de_append 5 (de_var 8)))
    (ds_one (ds_expr (de_append 4 (de_tup (da_cons de_str (da_cons (de_fz (de_var 8)) (da_cons (de_fz (de_var 6)) (da_cons (de_fz (de_add (de_var 6) (de_call G__law_draw hr hG (takes_of rfl rfl rfl rfl) (by rfl) m__law_draw k__law_draw b__law_draw (da_cons (de_var 0) (da_cons (de_add (de_div (de_var 2) de_int) de_int) da_nil)) (aCons_len (aCons_len fun _ _ _ => aNil_len))))) da_nil)))))))))
    (ds_cons (ds_asg 9 sc.nd (de_add (de_var 5) (de_lst (da_cons de_int da_nil))))
    (ds_cons (ds_asg 8 sc.nd (de_call G__law_any hr hG (takes_of rfl rfl rfl rfl) (by rfl) m__law_any k__law_any b__law_any (da_cons (de_var 0) (da_cons (de_add (de_add (de_var 9) (de_var 9)) (de_lst (da_cons (de_fz (de_var 8)) da_nil))) da_nil)) (aCons_len (aCons_len fun _ _ _ => aNil_len))))
    (ds_one (ds_expr (de_append 4 (de_tup (da_cons de_str (da_cons (de_fz (de_var 8)) (da_cons (de_fz (de_var 6)) (da_cons (de_fz (de_add (de_var 6) (de_call G__law_draw hr hG (takes_of rfl rfl rfl rfl) (by rfl) m__law_draw k__law_draw b__law_draw (da_cons (de_var 0) (da_cons (de_add (de_div (de_var 2) de_int) de_int) da_nil)) (aCons_len (aCons_len fun _ _ _ => aNil_len))))) da_nil)))))))))))))))
    (ds_one (ds_ret (de_callTy call_tuple_of cs_tuple (by rfl) c_tuple PyProof.Rows.boot_tuple (da_cons (de_call G__law_mixed hr hG (takes_of rfl rfl rfl rfl) (by rfl) m__law_mixed k__law_mixed b__law_mixed (da_cons (de_var 0) (da_cons (de_var 4) da_nil)) (aCons_len (aCons_len fun _ _ _ => aNil_len))) da_nil))))))
theorem sc__law_true : FnScope [("_law_pot_here" : Str), ("_law_many" : Str), ("_law_off" : Str), ("_law_step" : Str), ("_law_names" : Str), ("_law_turn" : Str), ("_law_found" : Str), ("_law_value" : Str), ("_law_time" : Str), ("_law_kind" : Str), ("_law_ends" : Str), ("_law_begin" : Str), ("_law_end" : Str)] ps__law_true (defScope st__law_true) := ⟨rfl, rfl, rfl, by decide +kernel, rfl, by decide +kernel, by decide +kernel⟩
theorem g__law_true {f : Addr} {fd : FuncData} (Fu : Fun K ("_law_true" : Str) ("_law_true" : Str) st__law_true f fd) {f__law_mixed : Addr} {fd__law_mixed : FuncData} (G__law_mixed : GFn P w K mg base 2 f__law_mixed fd__law_mixed ps__law_mixed CM.s_l_mixed) (m__law_mixed : mg ("_law_mixed" : Str) = some (.ref f__law_mixed)) (k__law_mixed : PySem.W.keepIn K (.ref f__law_mixed) = true) (b__law_mixed : Binds K fd__law_mixed ps__law_mixed []) {f__law_any : Addr} {fd__law_any : FuncData} (G__law_any : GFn P w K mg base 2 f__law_any fd__law_any ps__law_any CM.s_l_any) (m__law_any : mg ("_law_any" : Str) = some (.ref f__law_any)) (k__law_any : PySem.W.keepIn K (.ref f__law_any) = true) (b__law_any : Binds K fd__law_any ps__law_any []) {f__law_draw : Addr} {fd__law_draw : FuncData} (G__law_draw : GFn P w K mg base 2 f__law_draw fd__law_draw ps__law_draw CM.s_l_draw) (m__law_draw : mg ("_law_draw" : Str) = some (.ref f__law_draw)) (k__law_draw : PySem.W.keepIn K (.ref f__law_draw) = true) (b__law_draw : Binds K fd__law_draw ps__law_draw []) (c_range : mg ("range" : Str) = none) (c_tuple : mg ("tuple" : Str) = none) (c_list : mg ("list" : Str) = none) (c_min : mg ("min" : Str) = none) (c_max : mg ("max" : Str) = none) : GFn P w K mg base 3 f fd ps__law_true CM.s_l_true := by
  refine gfn_of (g := CM.e_l_true) Fu sc__law_true 9 rfl fun cdv A outer s H E hr hG => ?_
  have hu1 := hu1_of hr
  have sc := sc__law_true
  exact (ds_cons (by first | exact (ds_par3 6 7 8 rfl sc.nd (da_cons (de_nsl (de_lst da_nil)) (da_cons (de_nsl de_int) (da_cons (de_nsl (de_call G__law_any hr hG (takes_of rfl rfl rfl rfl) (by rfl) m__law_any k__law_any b__law_any (da_cons (de_var 0) (da_cons (de_lst (da_cons de_int (da_cons (de_fz (de_neg de_int)) (da_cons (de_fz (de_pow de_int de_int)) da_nil)))) da_nil)) (aCons_len (aCons_len fun _ _ _ => aNil_len)))) da_nil)))) | exact (ds_parT3 6 7 8 rfl sc.nd (da_cons (de_nsl (de_lst da_nil)) (da_cons (de_nsl de_int) (da_cons (de_nsl (de_call G__law_any hr hG (takes_of rfl rfl rfl rfl) (by rfl) m__law_any k__law_any b__law_any (da_cons (de_var 0) (da_cons (de_lst (da_cons de_int (da_cons (de_fz (de_neg de_int)) (da_cons (de_fz (de_pow de_int de_int)) da_nil)))) da_nil)) (aCons_len (aCons_len fun _ _ _ => aNil_len)))) da_nil)))))
    (ds_cons (ds_asg 4 sc.nd (de_call G__law_mixed hr hG (takes_of rfl rfl rfl rfl) (by rfl) m__law_mixed k__law_mixed b__law_mixed (da_cons (de_var 0) (da_cons (de_lrg2 rfl (by rfl) c_list (by rfl) c_range de_int (de_add (de_var 1) de_int)) da_nil)) (aCons_len (aCons_len fun _ _ _ => aNil_len))))
    (ds_cons (ds_for (passes_of rfl) rfl (di_range1 (by rfl) c_range (da_cons (de_var 1) da_nil) rfl (aCons_len fun _ _ _ => aNil_len)) (dg_name 5 sc.nd)
    (ds_cons (ds_asg 8 sc.nd (de_add (de_var 8) (de_call G__law_draw hr hG (takes_of rfl rfl rfl rfl) (by rfl) m__law_draw k__law_draw b__law_draw (da_cons (de_var 0) (da_cons (de_add (de_var 3) de_int) da_nil)) (aCons_len (aCons_len fun _ _ _ => aNil_len)))))
    (ds_cons (ds_asg 9 sc.nd (de_call G__law_any hr hG (takes_of rfl rfl rfl rfl) (by rfl) m__law_any k__law_any b__law_any (da_cons (de_var 0) (da_cons (de_lst (da_cons de_str (da_cons de_str (da_cons de_str da_nil)))) da_nil)) (aCons_len (aCons_len fun _ _ _ => aNil_len))))
    (ds_cons (ds_if (dt_eq hr.units (de_var 9) de_str)
    (ds_one (ds_asg 7 sc.nd (de_idx hu1 (de_var 4) (de_var 5))))
    ds_nil)
    (ds_cons (ds_asg 10 sc.nd (de_tup (da_cons (de_fz (de_sub (de_var 8) (de_call G__law_draw hr hG (takes_of rfl rfl rfl rfl) (by rfl) m__law_draw k__law_draw b__law_draw (da_cons (de_var 0) (da_cons (de_add (de_var 3) de_int) da_nil)) (aCons_len (aCons_len fun _ _ _ => aNil_len))))) (da_cons (de_fz (de_add (de_var 8) (de_call G__law_draw hr hG (takes_of rfl rfl rfl rfl) (by rfl) m__law_draw k__law_draw b__law_draw (da_cons (de_var 0) (da_cons (de_add (de_var 3) de_int) da_nil)) (aCons_len (aCons_len fun _ _ _ => aNil_len))))) da_nil))))
    (ds_cons (ds_asg 11 sc.nd (de_add (de_sub (de_idx hu1 (de_var 10) de_int) (de_var 2)) (de_call G__law_draw hr hG (takes_of rfl rfl rfl rfl) (by rfl) m__law_draw k__law_draw b__law_draw (da_cons (de_var 0) (da_cons (de_add (de_mul de_int (de_var 2)) de_int) da_nil)) (aCons_len (aCons_len fun _ _ _ => aNil_len)))))
    (ds_cons (ds_asg 12 sc.nd (de_add (de_sub (de_idx hu1 (de_var 10) de_int) (de_var 2)) (de_call G__law_draw hr hG (takes_of rfl rfl rfl rfl) (by rfl) m__law_draw k__law_draw b__law_draw (da_cons (de_var 0) (da_cons (de_add (de_mul de_int (de_var 2)) de_int) da_nil)) (aCons_len (aCons_len fun _ _ _ => aNil_len)))))
    (ds_one (ds_expr (de_append 6 (de_tup (da_cons (de_fz (de_var 9)) (da_cons (de_fz (de_var 7)) (da_cons (de_fz (de_callB CR_min cs_min (by rfl) c_min PyProof.Rows.boot_min (da_cons (de_var 11) (da_cons (de_var 12) da_nil)))) (da_cons (de_fz (de_callB CR_max cs_max (by rfl) c_max PyProof.Rows.boot_max (da_cons (de_var 11) (da_cons (de_var 12) da_nil)))) da_nil)))))))))))))))
    (ds_one (ds_ret (de_callTy call_tuple_of cs_tuple (by rfl) c_tuple PyProof.Rows.boot_tuple (da_cons (de_call G__law_mixed hr hG (takes_of rfl rfl rfl rfl) (by rfl) m__law_mixed k__law_mixed b__law_mixed (da_cons (de_var 0) (da_cons (de_var 6) da_nil)) (aCons_len (aCons_len fun _ _ _ => aNil_len))) da_nil)))))))
theorem sc__law_caught : FnScope [("_law_ask" : Str), ("_law_caught_here" : Str), ("error" : Str)] ps__law_caught (defScope st__law_caught) := ⟨rfl, rfl, rfl, by decide +kernel, rfl, by decide +kernel, by decide +kernel⟩
theorem g__law_caught {f : Addr} {fd : FuncData} (Fu : Fun K ("_law_caught" : Str) ("_law_caught" : Str) st__law_caught f fd) (hMG : MgT.mg = mg) {C_CellError : Addr} (M_CellError : mg ("CellError" : Str) = some (.ref C_CellError)) (SB_CellError : SubOk K mg [("BadLog" : Str)] ("CellError" : Str) (.ref C_CellError)) : GThE NoGd P w K mg base 8 6 f fd ps__law_caught s__law_caught := by
  refine gthE_of (g := e__law_caught) Fu sc__law_caught 2 rfl fun cdv A outer s H E p th0 hr hG th => ?_
  have hu1 := hu1_of hr
  have sc := sc__law_caught
  exact (ask_pre (ds_asg 1 sc.nd de_non)
    (ask_post th.mono (ask_try th.mono hMG rfl rfl rfl (takes_of rfl rfl rfl rfl) (fun W1 pn1 xe1 tk1 _ => ask_one (ask_expr th.mono (pe_ask 0 th rfl (hr.mono (by decide)) hG tk1)))
    (.named ⟨by rfl, by decide, .inl M_CellError⟩ SB_CellError sc.nd rfl rfl (fun a pn => (ds_one (ds_asg 1 sc.nd (de_var 2)))) .nil))
    (ds_one (ds_ret (de_var 1)))))
theorem sc__law_right_of : FnScope [("_law_ask" : Str), ("_law_whole" : Str), ("_law_writes" : Str), ("_law_caught_here" : Str), ("_law_one" : Str)] ps__law_right_of (defScope st__law_right_of) := ⟨rfl, rfl, rfl, by decide +kernel, rfl, by decide +kernel, by decide +kernel⟩
theorem g__law_right_of {f : Addr} {fd : FuncData} (Fu : Fun K ("_law_right_of" : Str) ("_law_right_of" : Str) st__law_right_of f fd) {f__law_caught : Addr} {fd__law_caught : FuncData} (GT__law_caught : GThE NoGd P w K mg base 8 6 f__law_caught fd__law_caught ps__law_caught s__law_caught) (m__law_caught : mg ("_law_caught" : Str) = some (.ref f__law_caught)) (k__law_caught : PySem.W.keepIn K (.ref f__law_caught) = true) (b__law_caught : Binds K fd__law_caught ps__law_caught []) (c_isinstance : mg ("isinstance" : Str) = none) (c_ValueError : mg ("ValueError" : Str) = none) (c_len : mg ("len" : Str) = none) (c_repr : mg ("repr" : Str) = none) (c_set : mg ("set" : Str) = none) (hMG : MgT.mg = mg) {C_BadLog : Addr} (M_BadLog : mg ("BadLog" : Str) = some (.ref C_BadLog)) {C_BadOperation : Addr} (M_BadOperation : mg ("BadOperation" : Str) = some (.ref C_BadOperation)) (AT_value : AtF K mg [("BadLog" : Str)] ("value" : Str)) (IS_ValueError : IsF K mg [("BadLog" : Str)] ("ValueError" : Str) (.type "ValueError")) (IS_BadLog : IsF K mg [("BadLog" : Str)] ("BadLog" : Str) (.ref C_BadLog)) (IS_BadOperation : IsF K mg [("BadLog" : Str)] ("BadOperation" : Str) (.ref C_BadOperation)) : GThE NoGd P w K mg base 9 6 f fd ps__law_right_of s__law_right_of := by
  refine gthE_of (g := e__law_right_of) Fu sc__law_right_of 3 rfl fun cdv A outer s H E p th0 hr hG th => ?_
  have hu1 := hu1_of hr
  have sc := sc__law_right_of
  exact (ask_pre (by first | exact (ds_setLc 2 rfl sc.nd (di_seq (de_var 1)) (own := [(("_law_one" : Str), 4)]) (blkOk_by (by first | (show blkC [("_law_ask" : Str), ("_law_whole" : Str), ("_law_writes" : Str), ("_law_caught_here" : Str), ("_law_one" : Str)] (defScope st__law_right_of) _ _ = true; decide +kernel) | rfl)) (by decide) (fun _ _ _ _ _ => (dg_name 4 sc.nd)) (fun _ _ _ _ _ => (dts_one (dt_eq hr.units (de_idx hu1 (de_var 4) de_int) de_str))) (fun _ _ _ _ _ => (de_fz (de_idx hu1 (de_var 4) de_int))) rfl) | exact (ds_asg 2 sc.nd (de_lc rfl sc.nd (di_seq (de_var 1)) (own := [(("_law_one" : Str), 4)]) (blkOk_by (by first | (show blkC [("_law_ask" : Str), ("_law_whole" : Str), ("_law_writes" : Str), ("_law_caught_here" : Str), ("_law_one" : Str)] (defScope st__law_right_of) _ _ = true; decide +kernel) | rfl)) (by decide) (fun _ _ _ _ _ => (dg_name 4 sc.nd)) (fun _ _ _ _ _ => (dts_one (dt_eq hr.units (de_idx hu1 (de_var 4) de_int) de_str))) (fun _ _ _ _ _ => (de_fz (de_idx hu1 (de_var 4) de_int))))))
    (ask_if th.mono (DW.dt (dw_and (dt_le (de_callB CR_len cs_len (by rfl) c_len PySem.boot_len (da_cons (de_var 1) da_nil)) de_int) (dw_and1 (dt_eq hr.units (de_lenSet rfl (by rfl) c_len (by rfl) c_set (de_var 2)) (de_callB CR_len cs_len (by rfl) c_len PySem.boot_len (da_cons (de_var 2) da_nil))))))
    (ask_one (ask_ret th.mono (ax_cmp th.mono (opr_eq hr.units) os_eq (ax_callB th.mono (CR_reprX hG hr.units) cs_reprX (by rfl) c_repr PyProof.Rows.boot_repr (ax_ask th.mono (pe_ask 0 th rfl (hr.mono (by decide)) hG (takes_of rfl rfl rfl rfl)))) (de_callB (CR_reprX hG hr.units) cs_reprX (by rfl) c_repr PyProof.Rows.boot_repr (da_cons (de_var 1) da_nil)) (nomark _))))
    (ask_post th.mono (ask_pass 3 th.mono sc.nd (pe_pass 0 GT__law_caught th rfl fr_deep (hr.mono (by decide)) hG (takes_of rfl rfl rfl rfl) (by rfl) m__law_caught k__law_caught b__law_caught))
    (ds_cons (ds_if (DW.dt (dw_or (dt_not (dt_val (de_isOX hMG (by rfl) c_isinstance (de_var 3) (by rfl) M_BadLog IS_BadLog))) (dw_or1 (dt_val (de_isOX hMG (by rfl) c_isinstance (de_var 3) (by rfl) M_BadOperation IS_BadOperation)))))
    (ds_one (ds_ret de_bl))
    ds_nil)
    (ds_one (ds_ret (de_and (de_isOB hMG (by rfl) c_isinstance (de_var 3) (by rfl) c_ValueError (by first | rfl | decide +kernel | with_unfolding_all rfl) IS_ValueError) (de_one (de_eq hr.units (de_callB (CR_reprX hG hr.units) cs_reprX (by rfl) c_repr PyProof.Rows.boot_repr (da_cons (de_atOX hMG (de_var 3) AT_value) da_nil)) (de_callB (CR_reprX hG hr.units) cs_reprX (by rfl) c_repr PyProof.Rows.boot_repr (da_cons (de_var 1) da_nil)))))))))))
theorem sc__law_lifted : FnScope [("_law_log" : Str), ("_law_by" : Str), ("_law_one" : Str)] ps__law_lifted (defScope st__law_lifted) := ⟨rfl, rfl, rfl, by decide +kernel, rfl, by decide +kernel, by decide +kernel⟩
theorem g__law_lifted {f : Addr} {fd : FuncData} (Fu : Fun K ("_law_lifted" : Str) ("_law_lifted" : Str) st__law_lifted f fd) (c_tuple : mg ("tuple" : Str) = none) (c_int : mg ("int" : Str) = none) : GFn P w K mg base 1 f fd ps__law_lifted s__law_lifted := by
  refine gfn_of (g := e__law_lifted) Fu sc__law_lifted 1 rfl fun cdv A outer s H E hr hG => ?_
  have hu1 := hu1_of hr
  have sc := sc__law_lifted
  exact (ds_one (ds_ret (de_callTy call_tuple_of cs_tuple (by rfl) c_tuple PyProof.Rows.boot_tuple (da_cons (de_lc rfl sc.nd (di_seq (de_var 0)) (own := [(("_law_one" : Str), 2)]) (blkOk_by (by first | (show blkC [("_law_log" : Str), ("_law_by" : Str), ("_law_one" : Str)] (defScope st__law_lifted) _ _ = true; decide +kernel) | rfl)) (by decide) (fun _ _ _ _ _ => (dg_name 2 sc.nd)) (fun _ _ _ _ _ => dts_nil) (fun _ _ _ _ _ => (de_fz (de_tup (da_cons (de_fz (de_idx hu1 (de_var 2) de_int)) (da_cons (de_fz (de_add (de_idx hu1 (de_var 2) de_int) (de_mul (de_var 1) (de_callTy call_int1 cs_int (by rfl) c_int PyProof.Rows.boot_int (da_cons (de_gt (de_idx hu1 (de_var 2) de_int) de_int) da_nil))))) (da_cons (de_fz (de_idx hu1 (de_var 2) de_int)) (da_cons (de_fz (de_idx hu1 (de_var 2) de_int)) da_nil)))))))) da_nil))))
theorem sc__law_right : FnScope [("_law_pot_here" : Str), ("_law_turn" : Str), ("_law_some" : Str), ("_law_told" : Str), ("_law_due" : Str), ("_law_ten" : Str), ("_law_many" : Str), ("_law_read" : Str), ("_law_one" : Str), ("_law_other" : Str), ("_law_third" : Str), ("_law_kept" : Str), ("_law_number" : Str), ("_law_at" : Str)] ps__law_right (defScope st__law_right) := ⟨rfl, rfl, rfl, by decide +kernel, rfl, by decide +kernel, by decide +kernel⟩
theorem g__law_right {f : Addr} {fd : FuncData} (Fu : Fun K ("_law_right" : Str) ("_law_right" : Str) st__law_right f fd) {f_joined : Addr} (G_joined : GStar P w K mg base 9 f_joined s_joined) (m_joined : mg ("joined" : Str) = some (.ref f_joined)) (k_joined : PySem.W.keepIn K (.ref f_joined) = true) (GA_joined : GStar P w K mg base 6 f_joined s_joined) {f__law_right_of : Addr} {fd__law_right_of : FuncData} (GT__law_right_of : GThE NoGd P w K mg base 9 6 f__law_right_of fd__law_right_of ps__law_right_of s__law_right_of) (TR__law_right_of : ThResE s__law_right_of t__law_right_of) (m__law_right_of : mg ("_law_right_of" : Str) = some (.ref f__law_right_of)) (k__law_right_of : PySem.W.keepIn K (.ref f__law_right_of) = true) (b__law_right_of : Binds K fd__law_right_of ps__law_right_of []) {f__law_lifted : Addr} {fd__law_lifted : FuncData} (G__law_lifted : GFn P w K mg base 9 f__law_lifted fd__law_lifted ps__law_lifted s__law_lifted) (m__law_lifted : mg ("_law_lifted" : Str) = some (.ref f__law_lifted)) (k__law_lifted : PySem.W.keepIn K (.ref f__law_lifted) = true) (b__law_lifted : Binds K fd__law_lifted ps__law_lifted []) {f__law_any : Addr} {fd__law_any : FuncData} (G__law_any : GFn P w K mg base 9 f__law_any fd__law_any ps__law_any CM.s_l_any) (m__law_any : mg ("_law_any" : Str) = some (.ref f__law_any)) (k__law_any : PySem.W.keepIn K (.ref f__law_any) = true) (b__law_any : Binds K fd__law_any ps__law_any []) {f__law_wild : Addr} {fd__law_wild : FuncData} (G__law_wild : GFn P w K mg base 9 f__law_wild fd__law_wild ps__law_wild CM.s_l_wild) (m__law_wild : mg ("_law_wild" : Str) = some (.ref f__law_wild)) (k__law_wild : PySem.W.keepIn K (.ref f__law_wild) = true) (b__law_wild : Binds K fd__law_wild ps__law_wild []) {f__law_true : Addr} {fd__law_true : FuncData} (G__law_true : GFn P w K mg base 9 f__law_true fd__law_true ps__law_true CM.s_l_true) (m__law_true : mg ("_law_true" : Str) = some (.ref f__law_true)) (k__law_true : PySem.W.keepIn K (.ref f__law_true) = true) (b__law_true : Binds K fd__law_true ps__law_true []) {f__law_draw : Addr} {fd__law_draw : FuncData} (G__law_draw : GFn P w K mg base 9 f__law_draw fd__law_draw ps__law_draw CM.s_l_draw) (m__law_draw : mg ("_law_draw" : Str) = some (.ref f__law_draw)) (k__law_draw : PySem.W.keepIn K (.ref f__law_draw) = true) (b__law_draw : Binds K fd__law_draw ps__law_draw []) (c_range : mg ("range" : Str) = none) (c_tuple : mg ("tuple" : Str) = none) (c_repr : mg ("repr" : Str) = none) {cL pL : Addr} (TBl : LamX.TabB base mg cL pL) (hcl : fd.code = .ref cL) (hml : (pL, ((("_law_right" : Str)) ++ ".<locals>." ++ "<lambda>")) ∈ TabT.T) (hul : ∀ p ∈ TabT.T, p.1 = pL → p.2 = ((("_law_right" : Str)) ++ ".<locals>." ++ "<lambda>")) : GFn P w K mg base 10 f fd ps__law_right s__law_right := by
  refine gfn_ofC (g := e__law_right) Fu sc__law_right 13 rfl fun cdv A outer s H E hcd0 hr hG => ?_
  have hu1 := hu1_of hr
  have sc := sc__law_right
  have hcode : cdv = .ref cL := hcd0.symm.trans hcl
  exact (ds_cons (ds_for (passes_of rfl) rfl (di_range1 (by rfl) c_range (da_cons de_int da_nil) rfl (aCons_len fun _ _ _ => aNil_len)) (dg_name 1 sc.nd)
    (ds_cons (by first | exact (ds_par2 8 9 rfl sc.nd (da_cons (de_nsl (de_call G__law_wild hr hG (takes_of rfl rfl rfl rfl) (by rfl) m__law_wild k__law_wild b__law_wild (da_cons (de_var 0) (da_cons de_int (da_cons de_int da_nil))) (aCons_len (aCons_len (aCons_len fun _ _ _ => aNil_len))))) (da_cons (de_nsl (de_call G__law_lifted hr hG (takes_of rfl rfl rfl rfl) (by rfl) m__law_lifted k__law_lifted b__law_lifted (da_cons (de_call G__law_wild hr hG (takes_of rfl rfl rfl rfl) (by rfl) m__law_wild k__law_wild b__law_wild (da_cons (de_var 0) (da_cons de_int (da_cons de_int da_nil))) (aCons_len (aCons_len (aCons_len fun _ _ _ => aNil_len)))) (da_cons (de_call G__law_any hr hG (takes_of rfl rfl rfl rfl) (by rfl) m__law_any k__law_any b__law_any (da_cons (de_var 0) (da_cons (de_lst (da_cons de_int (da_cons de_int (da_cons (de_fz (de_pow de_int de_int)) da_nil)))) da_nil)) (aCons_len (aCons_len fun _ _ _ => aNil_len))) da_nil)) (aCons_len (aCons_len fun _ _ _ => aNil_len)))) da_nil))) | exact (ds_parT2 8 9 rfl sc.nd (da_cons (de_nsl (de_call G__law_wild hr hG (takes_of rfl rfl rfl rfl) (by rfl) m__law_wild k__law_wild b__law_wild (da_cons (de_var 0) (da_cons de_int (da_cons de_int da_nil))) (aCons_len (aCons_len (aCons_len fun _ _ _ => aNil_len))))) (da_cons (de_nsl (de_call G__law_lifted hr hG (takes_of rfl rfl rfl rfl) (by rfl) m__law_lifted k__law_lifted b__law_lifted (da_cons (de_call G__law_wild hr hG (takes_of rfl rfl rfl rfl) (by rfl) m__law_wild k__law_wild b__law_wild (da_cons (de_var 0) (da_cons de_int (da_cons de_int da_nil))) (aCons_len (aCons_len (aCons_len fun _ _ _ => aNil_len)))) (da_cons (de_call G__law_any hr hG (takes_of rfl rfl rfl rfl) (by rfl) m__law_any k__law_any b__law_any (da_cons (de_var 0) (da_cons (de_lst (da_cons de_int (da_cons de_int (da_cons (de_fz (de_pow de_int de_int)) da_nil)))) da_nil)) (aCons_len (aCons_len fun _ _ _ => aNil_len))) da_nil)) (aCons_len (aCons_len fun _ _ _ => aNil_len)))) da_nil))))
    (ds_cons (by first | exact (ds_par2 10 11 rfl sc.nd (da_cons (de_nsl (de_call G__law_lifted hr hG (takes_of rfl rfl rfl rfl) (by rfl) m__law_lifted k__law_lifted b__law_lifted (da_cons (de_call G__law_true hr hG (takes_of rfl rfl rfl rfl) (by rfl) m__law_true k__law_true b__law_true (da_cons (de_var 0) (da_cons de_int (da_cons de_int (da_cons de_int da_nil)))) (aCons_len (aCons_len (aCons_len (aCons_len fun _ _ _ => aNil_len))))) (da_cons (de_call G__law_any hr hG (takes_of rfl rfl rfl rfl) (by rfl) m__law_any k__law_any b__law_any (da_cons (de_var 0) (da_cons (de_lst (da_cons de_int (da_cons de_int da_nil))) da_nil)) (aCons_len (aCons_len fun _ _ _ => aNil_len))) da_nil)) (aCons_len (aCons_len fun _ _ _ => aNil_len)))) (da_cons (de_nsl (de_callB (CR_reprX hG hr.units) cs_reprX (by rfl) c_repr PyProof.Rows.boot_repr (da_cons (de_tup (da_cons (de_fz (de_var 8)) (da_cons (de_fz (de_var 9)) da_nil))) da_nil))) da_nil))) | exact (ds_parT2 10 11 rfl sc.nd (da_cons (de_nsl (de_call G__law_lifted hr hG (takes_of rfl rfl rfl rfl) (by rfl) m__law_lifted k__law_lifted b__law_lifted (da_cons (de_call G__law_true hr hG (takes_of rfl rfl rfl rfl) (by rfl) m__law_true k__law_true b__law_true (da_cons (de_var 0) (da_cons de_int (da_cons de_int (da_cons de_int da_nil)))) (aCons_len (aCons_len (aCons_len (aCons_len fun _ _ _ => aNil_len))))) (da_cons (de_call G__law_any hr hG (takes_of rfl rfl rfl rfl) (by rfl) m__law_any k__law_any b__law_any (da_cons (de_var 0) (da_cons (de_lst (da_cons de_int (da_cons de_int da_nil))) da_nil)) (aCons_len (aCons_len fun _ _ _ => aNil_len))) da_nil)) (aCons_len (aCons_len fun _ _ _ => aNil_len)))) (da_cons (de_nsl (de_callB (CR_reprX hG hr.units) cs_reprX (by rfl) c_repr PyProof.Rows.boot_repr (da_cons (de_tup (da_cons (de_fz (de_var 8)) (da_cons (de_fz (de_var 9)) da_nil))) da_nil))) da_nil))))
    (ds_cons (ds_if (dt_not (dt_val (de_callE TR__law_right_of GT__law_right_of (hr.mono (by decide)) hG (takes_of rfl rfl rfl rfl) (by rfl) m__law_right_of k__law_right_of b__law_right_of rfl rfl TBl hcode hml hul (LamX.lamS_by (by show LamX.lamSB (defScope st__law_right) _ = true; decide +kernel)) rfl (fun _ _ _ _ _ => rfl) (fun A outer s H E p c1 hr hG => (have hu1 := hu1_of hr; have G_joined := GA_joined; (de_fz (de_callS G_joined hr hG (takes_of rfl rfl rfl rfl) (by rfl) m_joined k_joined (da_cons (de_var 8) (da_cons (de_var 9) da_nil)))))) (da_cons (de_add (de_var 8) (de_var 9)) da_nil) (fun r0 xs0 r1 h0 => congrArg Nat.succ ((aCons_len fun _ _ _ => aNil_len) r0 xs0 r1 h0)))))
    (ds_one (ds_ret de_bl))
    ds_nil)
    (ds_cons (ds_if (dt_not (dt_val (de_callE TR__law_right_of GT__law_right_of (hr.mono (by decide)) hG (takes_of rfl rfl rfl rfl) (by rfl) m__law_right_of k__law_right_of b__law_right_of rfl rfl TBl hcode hml hul (LamX.lamS_by (by show LamX.lamSB (defScope st__law_right) _ = true; decide +kernel)) rfl (fun _ _ _ _ _ => rfl) (fun A outer s H E p c1 hr hG => (have hu1 := hu1_of hr; have G_joined := GA_joined; (de_fz (de_callS G_joined hr hG (takes_of rfl rfl rfl rfl) (by rfl) m_joined k_joined (da_cons (de_var 9) (da_cons (de_var 10) (da_cons (de_tup da_nil) (da_cons (de_var 8) da_nil)))))))) (da_cons (de_add (de_add (de_var 9) (de_var 10)) (de_var 8)) da_nil) (fun r0 xs0 r1 h0 => congrArg Nat.succ ((aCons_len fun _ _ _ => aNil_len) r0 xs0 r1 h0)))))
    (ds_one (ds_ret de_bl))
    ds_nil)
    (ds_one (ds_if (DW.dt (dw_or (dt_ne hr.units (de_callS G_joined hr hG (takes_of rfl rfl rfl rfl) (by rfl) m_joined k_joined (da_cons (de_var 8) da_nil)) (de_var 8)) (dw_or (dt_not (dt_val (de_callE TR__law_right_of GT__law_right_of (hr.mono (by decide)) hG (takes_of rfl rfl rfl rfl) (by rfl) m__law_right_of k__law_right_of b__law_right_of rfl rfl TBl hcode hml hul (LamX.lamS_by (by show LamX.lamSB (defScope st__law_right) _ = true; decide +kernel)) rfl (fun _ _ _ _ _ => rfl) (fun A outer s H E p c1 hr hG => (have hu1 := hu1_of hr; have G_joined := GA_joined; (de_fz (de_callS G_joined hr hG (takes_of rfl rfl rfl rfl) (by rfl) m_joined k_joined (da_cons (de_var 8) (da_cons (de_var 8) da_nil)))))) (da_cons (de_add (de_var 8) (de_var 8)) da_nil) (fun r0 xs0 r1 h0 => congrArg Nat.succ ((aCons_len fun _ _ _ => aNil_len) r0 xs0 r1 h0))))) (dw_or1 (dt_ne hr.units (de_callB (CR_reprX hG hr.units) cs_reprX (by rfl) c_repr PyProof.Rows.boot_repr (da_cons (de_tup (da_cons (de_fz (de_var 8)) (da_cons (de_fz (de_var 9)) da_nil))) da_nil)) (de_var 11))))))
    (ds_one (ds_ret de_bl))
    ds_nil)))))))
    (ds_cons (by first | exact (ds_setLc 2 rfl sc.nd (di_range2 (by rfl) c_range (da_cons de_int (da_cons de_int da_nil)) (aCons_len (aCons_len fun _ _ _ => aNil_len))) (own := [(("_law_number" : Str), 12)]) (blkOk_by (by first | (show blkC [("_law_pot_here" : Str), ("_law_turn" : Str), ("_law_some" : Str), ("_law_told" : Str), ("_law_due" : Str), ("_law_ten" : Str), ("_law_many" : Str), ("_law_read" : Str), ("_law_one" : Str), ("_law_other" : Str), ("_law_third" : Str), ("_law_kept" : Str), ("_law_number" : Str), ("_law_at" : Str)] (defScope st__law_right) _ _ = true; decide +kernel) | rfl)) (by decide) (fun _ _ _ _ _ => (dg_name 12 sc.nd)) (fun _ _ _ _ _ => dts_nil) (fun _ _ _ _ _ => (de_fz (de_call G__law_lifted hr hG takes0 (by rfl) m__law_lifted k__law_lifted b__law_lifted (da_cons (de_call G__law_wild hr hG takes0 (by rfl) m__law_wild k__law_wild b__law_wild (da_cons (de_var 0) (da_cons de_int (da_cons de_int da_nil))) (aCons_len (aCons_len (aCons_len fun _ _ _ => aNil_len)))) (da_cons (de_mul de_int (de_var 12)) da_nil)) (aCons_len (aCons_len fun _ _ _ => aNil_len))))) rfl) | exact (ds_asg 2 sc.nd (de_lc rfl sc.nd (di_range2 (by rfl) c_range (da_cons de_int (da_cons de_int da_nil)) (aCons_len (aCons_len fun _ _ _ => aNil_len))) (own := [(("_law_number" : Str), 12)]) (blkOk_by (by first | (show blkC [("_law_pot_here" : Str), ("_law_turn" : Str), ("_law_some" : Str), ("_law_told" : Str), ("_law_due" : Str), ("_law_ten" : Str), ("_law_many" : Str), ("_law_read" : Str), ("_law_one" : Str), ("_law_other" : Str), ("_law_third" : Str), ("_law_kept" : Str), ("_law_number" : Str), ("_law_at" : Str)] (defScope st__law_right) _ _ = true; decide +kernel) | rfl)) (by decide) (fun _ _ _ _ _ => (dg_name 12 sc.nd)) (fun _ _ _ _ _ => dts_nil) (fun _ _ _ _ _ => (de_fz (de_call G__law_lifted hr hG takes0 (by rfl) m__law_lifted k__law_lifted b__law_lifted (da_cons (de_call G__law_wild hr hG takes0 (by rfl) m__law_wild k__law_wild b__law_wild (da_cons (de_var 0) (da_cons de_int (da_cons de_int da_nil))) (aCons_len (aCons_len (aCons_len fun _ _ _ => aNil_len)))) (da_cons (de_mul de_int (de_var 12)) da_nil)) (aCons_len (aCons_len fun _ _ _ => aNil_len))))))))
    (ds_cons (ds_asg 3 sc.nd (de_callS G_joined hr hG (takes_of rfl rfl rfl rfl) (by rfl) m_joined k_joined (da_cons (de_idx hu1 (de_var 2) de_int) (da_cons (de_idx hu1 (de_var 2) de_int) (da_cons (de_idx hu1 (de_var 2) de_int) (da_cons (de_idx hu1 (de_var 2) de_int) (da_cons (de_idx hu1 (de_var 2) de_int) (da_cons (de_idx hu1 (de_var 2) de_int) (da_cons (de_idx hu1 (de_var 2) de_int) da_nil)))))))))
    (ds_cons (ds_asg 4 sc.nd (de_add (de_add (de_add (de_idx hu1 (de_var 2) de_int) (de_idx hu1 (de_var 2) de_int)) (de_idx hu1 (de_var 2) de_int)) (de_idx hu1 (de_var 2) de_int)))
    (ds_cons (ds_if (dt_ne hr.units (de_var 3) (de_add (de_add (de_add (de_var 4) (de_idx hu1 (de_var 2) de_int)) (de_idx hu1 (de_var 2) de_int)) (de_idx hu1 (de_var 2) de_int)))
    (ds_one (ds_ret de_bl))
    ds_nil)
    (ds_cons (ds_asg 4 sc.nd (de_add (de_add (de_add (de_add (de_idx hu1 (de_var 2) de_int) (de_idx hu1 (de_var 2) de_int)) (de_idx hu1 (de_var 2) de_int)) (de_idx hu1 (de_var 2) de_int)) (de_idx hu1 (de_var 2) de_int)))
    (ds_cons (ds_if (dt_not (dt_val (de_callE TR__law_right_of GT__law_right_of (hr.mono (by decide)) hG (takes_of rfl rfl rfl rfl) (by rfl) m__law_right_of k__law_right_of b__law_right_of rfl rfl TBl hcode hml hul (LamX.lamS_by (by show LamX.lamSB (defScope st__law_right) _ = true; decide +kernel)) rfl (fun _ _ _ _ _ => rfl) (fun A outer s H E p c1 hr hG => (have hu1 := hu1_of hr; have G_joined := GA_joined; (de_fz (de_callS G_joined hr hG (takes_of rfl rfl rfl rfl) (by rfl) m_joined k_joined (da_cons (de_idx hu1 (de_var 2) de_int) (da_cons (de_idx hu1 (de_var 2) de_int) (da_cons (de_idx hu1 (de_var 2) de_int) (da_cons (de_tup da_nil) (da_cons (de_idx hu1 (de_var 2) de_int) (da_cons (de_idx hu1 (de_var 2) de_int) da_nil)))))))))) (da_cons (de_var 4) da_nil) (fun r0 xs0 r1 h0 => congrArg Nat.succ ((aCons_len fun _ _ _ => aNil_len) r0 xs0 r1 h0)))))
    (ds_one (ds_ret de_bl))
    ds_nil)
    (ds_cons (by first | exact (ds_setLc 5 rfl sc.nd (di_range1 (by rfl) c_range (da_cons de_int da_nil) rfl (aCons_len fun _ _ _ => aNil_len)) (own := [(("_law_at" : Str), 13)]) (blkOk_by (by first | (show blkC [("_law_pot_here" : Str), ("_law_turn" : Str), ("_law_some" : Str), ("_law_told" : Str), ("_law_due" : Str), ("_law_ten" : Str), ("_law_many" : Str), ("_law_read" : Str), ("_law_one" : Str), ("_law_other" : Str), ("_law_third" : Str), ("_law_kept" : Str), ("_law_number" : Str), ("_law_at" : Str)] (defScope st__law_right) _ _ = true; decide +kernel) | rfl)) (by decide) (fun _ _ _ _ _ => (dg_name 13 sc.nd)) (fun _ _ _ _ _ => dts_nil) (fun _ _ _ _ _ => (de_fz (de_tup (da_cons (de_fz (de_tup (da_cons de_str (da_cons (de_fz (de_mod (de_var 13) de_int)) (da_cons (de_fz (de_var 13)) (da_cons (de_fz (de_add (de_var 13) (de_call G__law_draw hr hG takes0 (by rfl) m__law_draw k__law_draw b__law_draw (da_cons (de_var 0) (da_cons de_int da_nil)) (aCons_len (aCons_len fun _ _ _ => aNil_len))))) da_nil)))))) da_nil)))) rfl) | exact (ds_asg 5 sc.nd (de_lc rfl sc.nd (di_range1 (by rfl) c_range (da_cons de_int da_nil) rfl (aCons_len fun _ _ _ => aNil_len)) (own := [(("_law_at" : Str), 13)]) (blkOk_by (by first | (show blkC [("_law_pot_here" : Str), ("_law_turn" : Str), ("_law_some" : Str), ("_law_told" : Str), ("_law_due" : Str), ("_law_ten" : Str), ("_law_many" : Str), ("_law_read" : Str), ("_law_one" : Str), ("_law_other" : Str), ("_law_third" : Str), ("_law_kept" : Str), ("_law_number" : Str), ("_law_at" : Str)] (defScope st__law_right) _ _ = true; decide +kernel) | rfl)) (by decide) (fun _ _ _ _ _ => (dg_name 13 sc.nd)) (fun _ _ _ _ _ => dts_nil) (fun _ _ _ _ _ => (de_fz (de_tup (da_cons (de_fz (de_tup (da_cons de_str (da_cons (de_fz (de_mod (de_var 13) de_int)) (da_cons (de_fz (de_var 13)) (da_cons (de_fz (de_add (de_var 13) (de_call G__law_draw hr hG takes0 (by rfl) m__law_draw k__law_draw b__law_draw (da_cons (de_var 0) (da_cons de_int da_nil)) (aCons_len (aCons_len fun _ _ _ => aNil_len))))) da_nil)))))) da_nil)))))))
    (ds_cons (ds_asg 3 sc.nd (de_callS G_joined hr hG (takes_of rfl rfl rfl rfl) (by rfl) m_joined k_joined (da_cons (de_idx hu1 (de_var 5) de_int) (da_cons (de_idx hu1 (de_var 5) de_int) (da_cons (de_idx hu1 (de_var 5) de_int) (da_cons (de_idx hu1 (de_var 5) de_int) (da_cons (de_idx hu1 (de_var 5) de_int) (da_cons (de_idx hu1 (de_var 5) de_int) (da_cons (de_idx hu1 (de_var 5) de_int) (da_cons (de_idx hu1 (de_var 5) de_int) (da_cons (de_idx hu1 (de_var 5) de_int) (da_cons (de_idx hu1 (de_var 5) de_int) da_nil))))))))))))
    (ds_cons (ds_if (dt_ne hr.units (de_var 3) (de_callTy call_tuple_of cs_tuple (by rfl) c_tuple PyProof.Rows.boot_tuple (da_cons (de_lc rfl sc.nd (di_seq (de_var 5)) (own := [(("_law_one" : Str), 8)]) (blkOk_by (by first | (show blkC [("_law_pot_here" : Str), ("_law_turn" : Str), ("_law_some" : Str), ("_law_told" : Str), ("_law_due" : Str), ("_law_ten" : Str), ("_law_many" : Str), ("_law_read" : Str), ("_law_one" : Str), ("_law_other" : Str), ("_law_third" : Str), ("_law_kept" : Str), ("_law_number" : Str), ("_law_at" : Str)] (defScope st__law_right) _ _ = true; decide +kernel) | rfl)) (by decide) (fun _ _ _ _ _ => (dg_name 8 sc.nd)) (fun _ _ _ _ _ => dts_nil) (fun _ _ _ _ _ => (de_fz (de_idx hu1 (de_var 8) de_int)))) da_nil)))
    (ds_one (ds_ret de_bl))
    ds_nil)
    (ds_cons (by first | exact (ds_par2 6 7 rfl sc.nd (da_cons (de_nsl (de_call G__law_any hr hG (takes_of rfl rfl rfl rfl) (by rfl) m__law_any k__law_any b__law_any (da_cons (de_var 0) (da_cons (de_lst (da_cons de_int (da_cons de_int (da_cons de_int da_nil)))) da_nil)) (aCons_len (aCons_len fun _ _ _ => aNil_len)))) (da_cons (de_nsl (de_tup (da_cons (de_fz (de_tup (da_cons de_str (da_cons de_int (da_cons de_int (da_cons de_int da_nil)))))) da_nil))) da_nil))) | exact (ds_parT2 6 7 rfl sc.nd (da_cons (de_nsl (de_call G__law_any hr hG (takes_of rfl rfl rfl rfl) (by rfl) m__law_any k__law_any b__law_any (da_cons (de_var 0) (da_cons (de_lst (da_cons de_int (da_cons de_int (da_cons de_int da_nil)))) da_nil)) (aCons_len (aCons_len fun _ _ _ => aNil_len)))) (da_cons (de_nsl (de_tup (da_cons (de_fz (de_tup (da_cons de_str (da_cons de_int (da_cons de_int (da_cons de_int da_nil)))))) da_nil))) da_nil))))
    (ds_cons (ds_if (DW.dt (dw_or (dt_ne hr.units (de_callS G_joined hr hG (takes_of rfl rfl rfl rfl) (by rfl) m_joined k_joined (da_cons (de_mulW (de_var 7) (de_var 6)) (da_cons (de_mulW (de_var 7) (de_sub de_int (de_var 6))) da_nil))) (de_mulW (de_var 7) de_int)) (dw_or (dt_ne hr.units (de_callS0 G_joined hr hG (takes_of rfl rfl rfl rfl) (by rfl) m_joined k_joined) (de_tup da_nil)) (dw_or1 (dt_ne hr.units (de_callS G_joined hr hG (takes_of rfl rfl rfl rfl) (by rfl) m_joined k_joined (da_cons (de_tup da_nil) (da_cons (de_tup da_nil) da_nil))) (de_tup da_nil))))))
    (ds_one (ds_ret de_bl))
    ds_nil)
    (ds_one (ds_ret (de_callE TR__law_right_of GT__law_right_of (hr.mono (by decide)) hG (takes_of rfl rfl rfl rfl) (by rfl) m__law_right_of k__law_right_of b__law_right_of rfl rfl TBl hcode hml hul (LamX.lamS_by (by show LamX.lamSB (defScope st__law_right) _ = true; decide +kernel)) rfl (fun _ _ _ _ _ => rfl) (fun A outer s H E p c1 hr hG => (have hu1 := hu1_of hr; have G_joined := GA_joined; (de_fz (de_callS G_joined hr hG (takes_of rfl rfl rfl rfl) (by rfl) m_joined k_joined (da_cons (de_mulW (de_var 7) (de_var 6)) (da_cons (de_mulW (de_var 7) (de_sub de_int (de_var 6))) da_nil)))))) (da_cons (de_mulW (de_var 7) de_int) da_nil) (fun r0 xs0 r1 h0 => congrArg Nat.succ ((aCons_len fun _ _ _ => aNil_len) r0 xs0 r1 h0)))))))))))))))))
theorem sc_law : FnScope [("_law_script" : Str), ("_law_k" : Str)] ps_law (defScope st_law) := ⟨rfl, rfl, rfl, by decide +kernel, rfl, by decide +kernel, by decide +kernel⟩
theorem g_law {f : Addr} {fd : FuncData} (Fu : Fun K ("law" : Str) ("law" : Str) st_law f fd) {f__law_right : Addr} {fd__law_right : FuncData} (G__law_right : GFn P w K mg base 10 f__law_right fd__law_right ps__law_right s__law_right) (m__law_right : mg ("_law_right" : Str) = some (.ref f__law_right)) (k__law_right : PySem.W.keepIn K (.ref f__law_right) = true) (b__law_right : Binds K fd__law_right ps__law_right []) {f__law_pot : Addr} {fd__law_pot : FuncData} (G__law_pot : GFn P w K mg base 10 f__law_pot fd__law_pot ps__law_pot CM.s_l_pot) (m__law_pot : mg ("_law_pot" : Str) = some (.ref f__law_pot)) (k__law_pot : PySem.W.keepIn K (.ref f__law_pot) = true) (b__law_pot : Binds K fd__law_pot ps__law_pot []) (c_all : mg ("all" : Str) = none) (c_range : mg ("range" : Str) = none) (c_max : mg ("max" : Str) = none) (c_min : mg ("min" : Str) = none) (c_len : mg ("len" : Str) = none) : GFn P w K mg base 11 f fd ps_law s_law := by
  refine gfn_of (g := e_law) Fu sc_law 1 rfl fun cdv A outer s H E hr hG => ?_
  have hu1 := hu1_of hr
  have sc := sc_law
  exact (ds_one (ds_ret (de_callB (cr_all rfl) cs_all (by rfl) c_all PyProof.Rows.boot_all (da_cons (de_lc rfl sc.nd (di_range1 (by rfl) c_range (da_cons (de_callB CR_max cs_max (by rfl) c_max PyProof.Rows.boot_max (da_cons de_int (da_cons (de_callB CR_min cs_min (by rfl) c_min PyProof.Rows.boot_min (da_cons de_int (da_cons (de_callB CR_len cs_len (by rfl) c_len PySem.boot_len (da_cons (de_var 0) da_nil)) da_nil))) da_nil))) da_nil) rfl (aCons_len fun _ _ _ => aNil_len)) (own := [(("_law_k" : Str), 1)]) (blkOk_by (by first | (show blkC [("_law_script" : Str), ("_law_k" : Str)] (defScope st_law) _ _ = true; decide +kernel) | rfl)) (by decide) (fun _ _ _ _ _ => (dg_name 1 sc.nd)) (fun _ _ _ _ _ => dts_nil) (fun _ _ _ _ _ => (de_fz (de_call G__law_right hr hG takes0 (by rfl) m__law_right k__law_right b__law_right (da_cons (de_call G__law_pot hr hG takes0 (by rfl) m__law_pot k__law_pot b__law_pot (da_cons (de_var 0) (da_cons (de_var 1) da_nil)) (aCons_len (aCons_len fun _ _ _ => aNil_len))) da_nil) (aCons_len fun _ _ _ => aNil_len))))) da_nil))))
end
end K16
set_option maxHeartbeats 4000000
namespace K16
open PySem PySem.Spec PyProof.Rows L2 DL
set_option maxHeartbeats 0 in
theorem all_mk {l : PySem.W.OpenLaw} {w : World} {K : PySem.W.Frag} {h : Heap} {mg : Str → Option Value} {fa f1 f2 f3 f4 f5 f6 f7 f8 f9 f10 f11 f12 f13 f14 f15 f16 f17 : Addr} (X : K.In h) (G : h.Ns mainGlobals mg) (hfa : mg "law" = some (.ref fa))
    {od1 an1 : Option Addr} {sl1 : Array (Option Value)} {oc1 kV1 dc1 pm1 cd1 ct1 : Value}
    {od2 an2 : Option Addr} {sl2 : Array (Option Value)} {oc2 kV2 dc2 pm2 cd2 ct2 : Value}
    {od3 an3 : Option Addr} {sl3 : Array (Option Value)} {oc3 kV3 dc3 pm3 cd3 ct3 : Value}
    {od4 an4 : Option Addr} {sl4 : Array (Option Value)} {oc4 kV4 dc4 pm4 cd4 ct4 : Value}
    {od5 an5 : Option Addr} {sl5 : Array (Option Value)} {oc5 kV5 dc5 pm5 cd5 ct5 : Value}
    {od6 an6 : Option Addr} {sl6 : Array (Option Value)} {oc6 kV6 dc6 pm6 cd6 ct6 : Value}
    {od7 an7 : Option Addr} {sl7 : Array (Option Value)} {oc7 kV7 dc7 pm7 cd7 ct7 : Value}
    {od8 an8 : Option Addr} {sl8 : Array (Option Value)} {oc8 kV8 dc8 pm8 cd8 ct8 : Value}
    {od9 an9 : Option Addr} {sl9 : Array (Option Value)} {oc9 kV9 dc9 pm9 cd9 ct9 : Value}
    {od10 an10 : Option Addr} {sl10 : Array (Option Value)} {oc10 kV10 dc10 pm10 cd10 ct10 : Value}
    {od11 an11 : Option Addr} {sl11 : Array (Option Value)} {oc11 kV11 dc11 pm11 cd11 ct11 : Value}
    {od12 an12 : Option Addr} {sl12 : Array (Option Value)} {oc12 kV12 dc12 pm12 cd12 ct12 : Value}
    {od13 an13 : Option Addr} {sl13 : Array (Option Value)} {oc13 kV13 dc13 pm13 cd13 ct13 : Value}
    {od14 an14 : Option Addr} {sl14 : Array (Option Value)} {oc14 kV14 dc14 pm14 cd14 ct14 : Value}
    {od15 an15 : Option Addr} {sl15 : Array (Option Value)} {oc15 kV15 dc15 pm15 cd15 ct15 : Value}
    {od16 an16 : Option Addr} {sl16 : Array (Option Value)} {oc16 kV16 dc16 pm16 cd16 ct16 : Value}
    {od17 an17 : Option Addr} {sl17 : Array (Option Value)} {oc17 kV17 dc17 pm17 cd17 ct17 : Value}
    (a1 : PySem.W.nsIn K mainGlobals ("is_integer" : Str) = some (some (.ref f1)))
    (l1 : K.lookup f1 = some ⟨oc1, od1, .func (PySem.W.fnOf ("is_integer" : Str) ("is_integer" : Str) (defArgs st_is_integer) (defBody st_is_integer) (defScope st_is_integer) .none kV1 dc1 pm1 an1 cd1 ct1), sl1⟩)
    (c1 : PySem.W.codeIn K cd1 ("is_integer" : Str) = true) (k1 : PySem.W.keepIn K (.ref f1) = true)
    (a2 : PySem.W.nsIn K mainGlobals ("are_stamps" : Str) = some (some (.ref f2)))
    (l2 : K.lookup f2 = some ⟨oc2, od2, .func (PySem.W.fnOf ("are_stamps" : Str) ("are_stamps" : Str) (defArgs st_are_stamps) (defBody st_are_stamps) (defScope st_are_stamps) .none kV2 dc2 pm2 an2 cd2 ct2), sl2⟩)
    (c2 : PySem.W.codeIn K cd2 ("are_stamps" : Str) = true) (k2 : PySem.W.keepIn K (.ref f2) = true)
    (a3 : PySem.W.nsIn K mainGlobals ("is_operation" : Str) = some (some (.ref f3)))
    (l3 : K.lookup f3 = some ⟨oc3, od3, .func (PySem.W.fnOf ("is_operation" : Str) ("is_operation" : Str) (defArgs st_is_operation) (defBody st_is_operation) (defScope st_is_operation) .none kV3 dc3 pm3 an3 cd3 ct3), sl3⟩)
    (c3 : PySem.W.codeIn K cd3 ("is_operation" : Str) = true) (k3 : PySem.W.keepIn K (.ref f3) = true)
    (a4 : PySem.W.nsIn K mainGlobals ("is_log" : Str) = some (some (.ref f4)))
    (l4 : K.lookup f4 = some ⟨oc4, od4, .func (PySem.W.fnOf ("is_log" : Str) ("is_log" : Str) (defArgs st_is_log) (defBody st_is_log) (defScope st_is_log) .none kV4 dc4 pm4 an4 cd4 ct4), sl4⟩)
    (c4 : PySem.W.codeIn K cd4 ("is_log" : Str) = true) (k4 : PySem.W.keepIn K (.ref f4) = true)
    (a5 : PySem.W.nsIn K mainGlobals ("checked" : Str) = some (some (.ref f5)))
    (l5 : K.lookup f5 = some ⟨oc5, od5, .func (PySem.W.fnOf ("checked" : Str) ("checked" : Str) (defArgs st_checked) (defBody st_checked) (defScope st_checked) .none kV5 dc5 pm5 an5 cd5 ct5), sl5⟩)
    (c5 : PySem.W.codeIn K cd5 ("checked" : Str) = true) (k5 : PySem.W.keepIn K (.ref f5) = true)
    (a6 : PySem.W.nsIn K mainGlobals ("joined" : Str) = some (some (.ref f6)))
    (l6 : K.lookup f6 = some ⟨oc6, od6, .func (PySem.W.fnOf ("joined" : Str) ("joined" : Str) (defArgs st_joined) (defBody st_joined) (defScope st_joined) .none kV6 dc6 pm6 an6 cd6 ct6), sl6⟩)
    (c6 : PySem.W.codeIn K cd6 ("joined" : Str) = true) (k6 : PySem.W.keepIn K (.ref f6) = true)
    (a7 : PySem.W.nsIn K mainGlobals ("_law_caught" : Str) = some (some (.ref f7)))
    (l7 : K.lookup f7 = some ⟨oc7, od7, .func (PySem.W.fnOf ("_law_caught" : Str) ("_law_caught" : Str) (defArgs st__law_caught) (defBody st__law_caught) (defScope st__law_caught) .none kV7 dc7 pm7 an7 cd7 ct7), sl7⟩)
    (c7 : PySem.W.codeIn K cd7 ("_law_caught" : Str) = true) (k7 : PySem.W.keepIn K (.ref f7) = true)
    (a8 : PySem.W.nsIn K mainGlobals ("_law_right_of" : Str) = some (some (.ref f8)))
    (l8 : K.lookup f8 = some ⟨oc8, od8, .func (PySem.W.fnOf ("_law_right_of" : Str) ("_law_right_of" : Str) (defArgs st__law_right_of) (defBody st__law_right_of) (defScope st__law_right_of) .none kV8 dc8 pm8 an8 cd8 ct8), sl8⟩)
    (c8 : PySem.W.codeIn K cd8 ("_law_right_of" : Str) = true) (k8 : PySem.W.keepIn K (.ref f8) = true)
    (a9 : PySem.W.nsIn K mainGlobals ("_law_lifted" : Str) = some (some (.ref f9)))
    (l9 : K.lookup f9 = some ⟨oc9, od9, .func (PySem.W.fnOf ("_law_lifted" : Str) ("_law_lifted" : Str) (defArgs st__law_lifted) (defBody st__law_lifted) (defScope st__law_lifted) .none kV9 dc9 pm9 an9 cd9 ct9), sl9⟩)
    (c9 : PySem.W.codeIn K cd9 ("_law_lifted" : Str) = true) (k9 : PySem.W.keepIn K (.ref f9) = true)
    (a10 : PySem.W.nsIn K mainGlobals ("_law_draw" : Str) = some (some (.ref f10)))
    (l10 : K.lookup f10 = some ⟨oc10, od10, .func (PySem.W.fnOf ("_law_draw" : Str) ("_law_draw" : Str) (defArgs st__law_draw) (defBody st__law_draw) (defScope st__law_draw) .none kV10 dc10 pm10 an10 cd10 ct10), sl10⟩)
    (c10 : PySem.W.codeIn K cd10 ("_law_draw" : Str) = true) (k10 : PySem.W.keepIn K (.ref f10) = true)
    (a11 : PySem.W.nsIn K mainGlobals ("_law_any" : Str) = some (some (.ref f11)))
    (l11 : K.lookup f11 = some ⟨oc11, od11, .func (PySem.W.fnOf ("_law_any" : Str) ("_law_any" : Str) (defArgs st__law_any) (defBody st__law_any) (defScope st__law_any) .none kV11 dc11 pm11 an11 cd11 ct11), sl11⟩)
    (c11 : PySem.W.codeIn K cd11 ("_law_any" : Str) = true) (k11 : PySem.W.keepIn K (.ref f11) = true)
    (a12 : PySem.W.nsIn K mainGlobals ("_law_mixed" : Str) = some (some (.ref f12)))
    (l12 : K.lookup f12 = some ⟨oc12, od12, .func (PySem.W.fnOf ("_law_mixed" : Str) ("_law_mixed" : Str) (defArgs st__law_mixed) (defBody st__law_mixed) (defScope st__law_mixed) .none kV12 dc12 pm12 an12 cd12 ct12), sl12⟩)
    (c12 : PySem.W.codeIn K cd12 ("_law_mixed" : Str) = true) (k12 : PySem.W.keepIn K (.ref f12) = true)
    (a13 : PySem.W.nsIn K mainGlobals ("_law_wild" : Str) = some (some (.ref f13)))
    (l13 : K.lookup f13 = some ⟨oc13, od13, .func (PySem.W.fnOf ("_law_wild" : Str) ("_law_wild" : Str) (defArgs st__law_wild) (defBody st__law_wild) (defScope st__law_wild) .none kV13 dc13 pm13 an13 cd13 ct13), sl13⟩)
    (c13 : PySem.W.codeIn K cd13 ("_law_wild" : Str) = true) (k13 : PySem.W.keepIn K (.ref f13) = true)
    (a14 : PySem.W.nsIn K mainGlobals ("_law_true" : Str) = some (some (.ref f14)))
    (l14 : K.lookup f14 = some ⟨oc14, od14, .func (PySem.W.fnOf ("_law_true" : Str) ("_law_true" : Str) (defArgs st__law_true) (defBody st__law_true) (defScope st__law_true) .none kV14 dc14 pm14 an14 cd14 ct14), sl14⟩)
    (c14 : PySem.W.codeIn K cd14 ("_law_true" : Str) = true) (k14 : PySem.W.keepIn K (.ref f14) = true)
    (a15 : PySem.W.nsIn K mainGlobals ("_law_right" : Str) = some (some (.ref f15)))
    (l15 : K.lookup f15 = some ⟨oc15, od15, .func (PySem.W.fnOf ("_law_right" : Str) ("_law_right" : Str) (defArgs st__law_right) (defBody st__law_right) (defScope st__law_right) .none kV15 dc15 pm15 an15 cd15 ct15), sl15⟩)
    (c15 : PySem.W.codeIn K cd15 ("_law_right" : Str) = true) (k15 : PySem.W.keepIn K (.ref f15) = true)
    (a16 : PySem.W.nsIn K mainGlobals ("_law_pot" : Str) = some (some (.ref f16)))
    (l16 : K.lookup f16 = some ⟨oc16, od16, .func (PySem.W.fnOf ("_law_pot" : Str) ("_law_pot" : Str) (defArgs st__law_pot) (defBody st__law_pot) (defScope st__law_pot) .none kV16 dc16 pm16 an16 cd16 ct16), sl16⟩)
    (c16 : PySem.W.codeIn K cd16 ("_law_pot" : Str) = true) (k16 : PySem.W.keepIn K (.ref f16) = true)
    (a17 : PySem.W.nsIn K mainGlobals ("law" : Str) = some (some (.ref f17)))
    (l17 : K.lookup f17 = some ⟨oc17, od17, .func (PySem.W.fnOf ("law" : Str) ("law" : Str) (defArgs st_law) (defBody st_law) (defScope st_law) .none kV17 dc17 pm17 an17 cd17 ct17), sl17⟩)
    (c17 : PySem.W.codeIn K cd17 ("law" : Str) = true) (k17 : PySem.W.keepIn K (.ref f17) = true)
    (z_isinstance : PySem.W.nsIn K mainGlobals ("isinstance" : Str) = some none)
    (z_int : PySem.W.nsIn K mainGlobals ("int" : Str) = some none)
    (z_bool : PySem.W.nsIn K mainGlobals ("bool" : Str) = some none)
    {t_MOST_STAMP : Tok} (z_MOST_STAMP : PySem.W.nsIn K mainGlobals ("MOST_STAMP" : Str) = some (some (.int 1000000000000000 t_MOST_STAMP)))
    {t_PARTS : Tok} (z_PARTS : PySem.W.nsIn K mainGlobals ("PARTS" : Str) = some (some (.int 4 t_PARTS)))
    (z_tuple : PySem.W.nsIn K mainGlobals ("tuple" : Str) = some none)
    (z_len : PySem.W.nsIn K mainGlobals ("len" : Str) = some none)
    (z_str : PySem.W.nsIn K mainGlobals ("str" : Str) = some none)
    {t_READ : Tok} (z_READ : PySem.W.nsIn K mainGlobals ("READ" : Str) = some (some (.str ("read" : Str) t_READ)))
    {t_WRITE : Tok} (z_WRITE : PySem.W.nsIn K mainGlobals ("WRITE" : Str) = some (some (.str ("write" : Str) t_WRITE)))
    {t_MOST_VALUE : Tok} (z_MOST_VALUE : PySem.W.nsIn K mainGlobals ("MOST_VALUE" : Str) = some (some (.int 1000000000 t_MOST_VALUE)))
    {t_MOST_OPERATIONS : Tok} (z_MOST_OPERATIONS : PySem.W.nsIn K mainGlobals ("MOST_OPERATIONS" : Str) = some (some (.int 200 t_MOST_OPERATIONS)))
    (z_all : PySem.W.nsIn K mainGlobals ("all" : Str) = some none)
    (z_set : PySem.W.nsIn K mainGlobals ("set" : Str) = some none)
    (z_ValueError : PySem.W.nsIn K mainGlobals ("ValueError" : Str) = some none)
    (z_repr : PySem.W.nsIn K mainGlobals ("repr" : Str) = some none)
    (z_list : PySem.W.nsIn K mainGlobals ("list" : Str) = some none)
    (z_range : PySem.W.nsIn K mainGlobals ("range" : Str) = some none)
    (z_min : PySem.W.nsIn K mainGlobals ("min" : Str) = some none)
    (z_max : PySem.W.nsIn K mainGlobals ("max" : Str) = some none)
    (z_abs : PySem.W.nsIn K mainGlobals ("abs" : Str) = some none)
    {CL15 PL15 : Addr} {occ15 : Value} {odc15 : Option Addr} {vsc15 : Array Value} {slc15 : Array (Option Value)} (ce15 : cd15 = .ref CL15) (lc15 : K.lookup CL15 = some ⟨occ15, odc15, .fields vsc15, slc15⟩) (pe15 : vsc15[11]? = some (.ref PL15))
    (hu15 : ∀ p ∈ ([(CL15, PL15, ((("_law_right" : Str)) ++ ".<locals>." ++ "<lambda>"))] : List (Addr × Addr × Str)).map (fun p => p.2), p.1 = PL15 → p.2 = ((("_law_right" : Str)) ++ ".<locals>." ++ "<lambda>"))
    {C_BadLog : Addr} (ax_BadLog : PySem.W.nsIn K mainGlobals ("BadLog" : Str) = some (some (.ref C_BadLog)))
    (ix_BadLog : PySem.W.isClsIn K C_BadLog = true)
    (tx_BadLog : PySem.W.typeIn K (.ref C_BadLog) = some (.type "type"))
    (ex_BadLog : PySem.W.subIn K (.ref C_BadLog) (.type "BaseException") = some true)
    {C_BadOperation : Addr} (ax_BadOperation : PySem.W.nsIn K mainGlobals ("BadOperation" : Str) = some (some (.ref C_BadOperation)))
    (ix_BadOperation : PySem.W.isClsIn K C_BadOperation = true)
    (tx_BadOperation : PySem.W.typeIn K (.ref C_BadOperation) = some (.type "type"))
    (ex_BadOperation : PySem.W.subIn K (.ref C_BadOperation) (.type "BaseException") = some true)
    {C_CellError : Addr} (ax_CellError : PySem.W.nsIn K mainGlobals ("CellError" : Str) = some (some (.ref C_CellError)))
    (ix_CellError : PySem.W.isClsIn K C_CellError = true)
    (tx_CellError : PySem.W.typeIn K (.ref C_CellError) = some (.type "type"))
    (ex_CellError : PySem.W.subIn K (.ref C_CellError) (.type "BaseException") = some true)
    {nm_BadLog q_BadLog : Str} {N_BadLog : Addr} {bs_BadLog : List Value} {sn_BadLog : List Str} {sub_BadLog : List Value} {ab_BadLog : Bool} {col_BadLog : Option Bool} {dd_BadLog : Option Addr} {m0_BadLog m1_BadLog m2_BadLog m3_BadLog m5_BadLog : Option Value} (xl_BadLog : K.lookup C_BadLog = some (excClassObj nm_BadLog q_BadLog C_BadLog N_BadLog bs_BadLog [.ref C_CellError, .type "ValueError", .type "Exception", .type "BaseException", .type "object"] true sn_BadLog sub_BadLog ab_BadLog col_BadLog dd_BadLog m0_BadLog m1_BadLog m2_BadLog m3_BadLog m5_BadLog "ValueError.__new__"))
    (sa_BadLog : PySem.W.findIn K (.ref C_BadLog) "__setattr__" = some (some (.builtin "object.__setattr__")))
    (ga_BadLog : PySem.W.findIn K (.ref C_BadLog) "__getattribute__" = some (some (.builtin "BaseException.__getattribute__")))
    (gg_BadLog : PySem.W.findIn K (.ref C_BadLog) "__getattr__" = some none)
    (ca_BadLog : PySem.W.findIn K (.ref C_BadLog) "__class__" = some (some (.builtin "object.__class__")))
    (nb_BadLog_value : PySem.W.findIn K (.ref C_BadLog) ("value" : Str) = some none)
    {f_BadLog : Addr} {oc_BadLog kV_BadLog dc_BadLog pm_BadLog cd_BadLog ct_BadLog : Value} {od_BadLog an_BadLog : Option Addr} {sl_BadLog : Array (Option Value)} (in_BadLog : PySem.W.findIn K (.ref C_BadLog) "__init__" = some (some (.ref f_BadLog)))
    (ty_BadLog : PySem.W.typeIn K (.ref f_BadLog) = some (.type "function"))
    (li_BadLog : K.lookup f_BadLog = some ⟨oc_BadLog, od_BadLog, .func (PySem.W.fnOf "__init__" ("BadLog.__init__" : Str) (defArgs st_i_BadLog) (defBody st_i_BadLog) (defScope st_i_BadLog) .none kV_BadLog dc_BadLog pm_BadLog an_BadLog cd_BadLog ct_BadLog), sl_BadLog⟩)
    (ci_BadLog : PySem.W.codeIn K cd_BadLog ("BadLog.__init__" : Str) = true)
    (kb_BadLog_ValueError : PySem.W.kitOne K (.ref C_BadLog) (.type "ValueError") = some true)
    (ki_BadLog : PySem.W.keepIn K (.ref f_BadLog) = true)
    (kc_BadLog : PySem.W.keepIn K (.ref C_BadLog) = true)
    (hd_BadLog : PySem.W.hasDictIn K C_BadLog = true)
    (mo_BadLog : PySem.W.mroIn K C_BadLog (.type "object") = some true)
    (ne_BadLog_BadOperation : (C_BadLog == C_BadOperation) = true → false = true)
    (sb_BadLog_BadLog : PySem.W.subIn K (.ref C_BadLog) (.ref C_BadLog) = some true)
    (sb_BadLog_BadOperation : PySem.W.subIn K (.ref C_BadLog) (.ref C_BadOperation) = some false)
    (sb_BadLog_CellError : PySem.W.subIn K (.ref C_BadLog) (.ref C_CellError) = some true)
    (gn_ : PySem.W.specialIn K (.builtin "object.__class__") "__get__" = some (some (.builtin "getset_descriptor.__get__")))
    (gt_ : PySem.W.takesIn K (.builtin "object.__class__") = some true)
    (cg_CellError : PySem.W.specialIn K (.ref C_CellError) "__getattribute__" = some (some (.builtin "type.__getattribute__")))
    (cr_CellError : PySem.W.readsIn K C_CellError (.type "type") = true)
    (ci_CellError : PySem.W.findCls K (.ref C_CellError) (.type "type") "__init__" = some (.val (.builtin "ValueError.__init__"))) :
    ∃ fd : FuncData, (∀ (s : Shared) (v : Value), BindsTo s fd ⟨[v], []⟩ [(("_law_script" : Str), v)]) ∧ ∀ base : Heap, K.In base → base.Ns mainGlobals mg → (∀ p ∈ ([(CL15, PL15, ((("_law_right" : Str)) ++ ".<locals>." ++ "<lambda>"))] : List (Addr × Addr × Str)), LamX.TabB base mg p.1 p.2.1) → (letI : TabT := tabsOf [(CL15, PL15, ((("_law_right" : Str)) ++ ".<locals>." ++ "<lambda>"))] mg; GFn l.prog w K mg base 11 fa fd [("_law_script" : Str)] s_law) := by
  have e := hfa.symm.trans (PySem.W.mg_of X G a17)
  cases e
  have F1 := fun_mk (st := st_is_integer) l1 c1 k1
  have b1 := F1.binds (ps := ps_is_integer) fun _ _ _ _ _ _ us hl => match us, hl with | [_, _, _], _ => rfl
  have F2 := fun_mk (st := st_are_stamps) l2 c2 k2
  have b2 := F2.binds (ps := ps_are_stamps) fun _ _ _ _ _ _ us hl => match us, hl with | [_, _], _ => rfl
  have F3 := fun_mk (st := st_is_operation) l3 c3 k3
  have b3 := F3.binds (ps := ps_is_operation) fun _ _ _ _ _ _ us hl => match us, hl with | [_], _ => rfl
  have F4 := fun_mk (st := st_is_log) l4 c4 k4
  have b4 := F4.binds (ps := ps_is_log) fun _ _ _ _ _ _ us hl => match us, hl with | [_], _ => rfl
  have F5 := fun_mk (st := st_checked) l5 c5 k5
  have b5 := F5.binds (ps := ps_checked) fun _ _ _ _ _ _ us hl => match us, hl with | [_], _ => rfl
  have F6 := fun_mk (st := st_joined) l6 c6 k6
  have b6 : ∀ rest : List Value, bindArgs (PySem.W.fnOf ("joined" : Str) ("joined" : Str) (defArgs st_joined) (defBody st_joined) (defScope st_joined) .none kV6 dc6 pm6 an6 cd6 ct6) ⟨rest, []⟩ = (newTuple rest >>= fun t => pure [(("logs" : Str), t)]) := fun rest => by cases rest <;> rfl
  have F7 := fun_mk (st := st__law_caught) l7 c7 k7
  have b7 := F7.binds (ps := ps__law_caught) fun _ _ _ _ _ _ us hl => match us, hl with | [_], _ => rfl
  have F8 := fun_mk (st := st__law_right_of) l8 c8 k8
  have b8 := F8.binds (ps := ps__law_right_of) fun _ _ _ _ _ _ us hl => match us, hl with | [_, _], _ => rfl
  have F9 := fun_mk (st := st__law_lifted) l9 c9 k9
  have b9 := F9.binds (ps := ps__law_lifted) fun _ _ _ _ _ _ us hl => match us, hl with | [_, _], _ => rfl
  have F10 := fun_mk (st := st__law_draw) l10 c10 k10
  have b10 := F10.binds (ps := ps__law_draw) fun _ _ _ _ _ _ us hl => match us, hl with | [_, _], _ => rfl
  have F11 := fun_mk (st := st__law_any) l11 c11 k11
  have b11 := F11.binds (ps := ps__law_any) fun _ _ _ _ _ _ us hl => match us, hl with | [_, _], _ => rfl
  have F12 := fun_mk (st := st__law_mixed) l12 c12 k12
  have b12 := F12.binds (ps := ps__law_mixed) fun _ _ _ _ _ _ us hl => match us, hl with | [_, _], _ => rfl
  have F13 := fun_mk (st := st__law_wild) l13 c13 k13
  have b13 := F13.binds (ps := ps__law_wild) fun _ _ _ _ _ _ us hl => match us, hl with | [_, _, _], _ => rfl
  have F14 := fun_mk (st := st__law_true) l14 c14 k14
  have b14 := F14.binds (ps := ps__law_true) fun _ _ _ _ _ _ us hl => match us, hl with | [_, _, _, _], _ => rfl
  have F15 := fun_mk (st := st__law_right) l15 c15 k15
  have b15 := F15.binds (ps := ps__law_right) fun _ _ _ _ _ _ us hl => match us, hl with | [_], _ => rfl
  have F16 := fun_mk (st := st__law_pot) l16 c16 k16
  have b16 := F16.binds (ps := ps__law_pot) fun _ _ _ _ _ _ us hl => match us, hl with | [_, _], _ => rfl
  have F17 := fun_mk (st := st_law) l17 c17 k17
  refine ⟨PySem.W.fnOf "law" "law" (defArgs st_law) (defBody st_law) (defScope st_law) .none kV17 dc17 pm17 an17 cd17 ct17, fun s v => .of_eq rfl, fun base _ _ TBs => ?_⟩
  letI : TabT := tabsOf [(CL15, PL15, ((("_law_right" : Str)) ++ ".<locals>." ++ "<lambda>"))] mg
  have MM_BadLog := PySem.W.mg_of X G ax_BadLog
  have MM_BadOperation := PySem.W.mg_of X G ax_BadOperation
  have MM_CellError := PySem.W.mg_of X G ax_CellError
  have CC_CellError : CeC K C_CellError := ⟨cg_CellError, cr_CellError, ci_CellError⟩
  have OE_BadLog : OexC K C_BadLog := ⟨⟨_, _, _, _, _, _, _, _, _, _, _, _, _, _, _, xl_BadLog, by first | rfl | decide +kernel⟩, sa_BadLog, ex_BadLog, tx_BadLog, kc_BadLog⟩
  have XC_BadLog : ExcC K C_BadLog := ⟨ga_BadLog, gg_BadLog, ex_BadLog, hd_BadLog, ca_BadLog, gn_, gt_, mo_BadLog⟩
  have FI_BadLog := fun_mk (st := st_i_BadLog) li_BadLog ci_BadLog ki_BadLog
  have bI_BadLog := FI_BadLog.binds (ps := ["self", ("value" : Str)]) fun _ _ _ _ _ _ us hl => match us, hl with | [_, _], _ => rfl
  have EE_BadLog : ExcR l.prog w K mg base 1 ("BadLog" : Str) (fun C => spI1 C ("value" : Str)) := ⟨C_BadLog, f_BadLog, _, _, OE_BadLog, in_BadLog, ty_BadLog, i_BadLog FI_BadLog OE_BadLog nb_BadLog_value MM_CellError CC_CellError, bI_BadLog, MM_BadLog⟩
  have SBB_BadLog : SubOk K mg [("BadLog" : Str)] ("BadLog" : Str) (.ref C_BadLog) := by
    intro c hc
    simp only [List.mem_cons, List.not_mem_nil, or_false] at hc; rcases hc with rfl
    · exact ⟨C_BadLog, MM_BadLog, (exm_of ex_BadLog ix_BadLog tx_BadLog sb_BadLog_BadLog).trans (by decide +kernel)⟩
  have ISS_BadLog : IsF K mg [("BadLog" : Str)] ("BadLog" : Str) (.ref C_BadLog) := by
    intro c hc
    simp only [List.mem_cons, List.not_mem_nil, or_false] at hc; rcases hc with rfl
    · exact ⟨C_BadLog, MM_BadLog, XC_BadLog, (kit_of ix_BadLog tx_BadLog sb_BadLog_BadLog (fun _ => rfl)).trans (by decide +kernel)⟩
  have SBB_BadOperation : SubOk K mg [("BadLog" : Str)] ("BadOperation" : Str) (.ref C_BadOperation) := by
    intro c hc
    simp only [List.mem_cons, List.not_mem_nil, or_false] at hc; rcases hc with rfl
    · exact ⟨C_BadLog, MM_BadLog, (exm_of ex_BadOperation ix_BadOperation tx_BadOperation sb_BadLog_BadOperation).trans (by decide +kernel)⟩
  have ISS_BadOperation : IsF K mg [("BadLog" : Str)] ("BadOperation" : Str) (.ref C_BadOperation) := by
    intro c hc
    simp only [List.mem_cons, List.not_mem_nil, or_false] at hc; rcases hc with rfl
    · exact ⟨C_BadLog, MM_BadLog, XC_BadLog, (kit_of ix_BadOperation tx_BadOperation sb_BadLog_BadOperation ne_BadLog_BadOperation).trans (by decide +kernel)⟩
  have SBB_CellError : SubOk K mg [("BadLog" : Str)] ("CellError" : Str) (.ref C_CellError) := by
    intro c hc
    simp only [List.mem_cons, List.not_mem_nil, or_false] at hc; rcases hc with rfl
    · exact ⟨C_BadLog, MM_BadLog, (exm_of ex_CellError ix_CellError tx_CellError sb_BadLog_CellError).trans (by decide +kernel)⟩
  have ISS_CellError : IsF K mg [("BadLog" : Str)] ("CellError" : Str) (.ref C_CellError) := by
    intro c hc
    simp only [List.mem_cons, List.not_mem_nil, or_false] at hc; rcases hc with rfl
    · exact ⟨C_BadLog, MM_BadLog, XC_BadLog, (kit_of ix_CellError tx_CellError sb_BadLog_CellError (fun _ => rfl)).trans (by decide +kernel)⟩
  have ATT_value : AtF K mg [("BadLog" : Str)] ("value" : Str) := by
    intro c hc
    simp only [List.mem_cons, List.not_mem_nil, or_false] at hc; rcases hc with rfl
    · exact ⟨C_BadLog, MM_BadLog, XC_BadLog, nb_BadLog_value⟩
  have ISS_ValueError : IsF K mg [("BadLog" : Str)] ("ValueError" : Str) (.type "ValueError") := by
    intro c hc
    simp only [List.mem_cons, List.not_mem_nil, or_false] at hc; rcases hc with rfl
    · exact ⟨C_BadLog, MM_BadLog, XC_BadLog, kb_BadLog_ValueError.trans (by decide +kernel)⟩
  have G1 : ∀ FB : Hp, @GFn (tabsF [(CL15, PL15, ((("_law_right" : Str)) ++ ".<locals>." ++ "<lambda>"))] mg FB) l.prog w K mg base 1 f1 _ ps_is_integer CM.s_is_integer := fun FB => (letI : TabT := tabsF [(CL15, PL15, ((("_law_right" : Str)) ++ ".<locals>." ++ "<lambda>"))] mg FB; g_is_integer (P := l.prog) (w := w) (mg := mg) (base := base) F1 (c_isinstance := PySem.W.mg_none_of X G z_isinstance) (c_int := PySem.W.mg_none_of X G z_int) (c_bool := PySem.W.mg_none_of X G z_bool) )
  have G2 : ∀ FB : Hp, @GFn (tabsF [(CL15, PL15, ((("_law_right" : Str)) ++ ".<locals>." ++ "<lambda>"))] mg FB) l.prog w K mg base 2 f2 _ ps_are_stamps CM.s_are_stamps := fun FB => (letI : TabT := tabsF [(CL15, PL15, ((("_law_right" : Str)) ++ ".<locals>." ++ "<lambda>"))] mg FB; g_are_stamps (P := l.prog) (w := w) (mg := mg) (base := base) F2 (G_is_integer := (G1 FB).mono (by decide)) (m_is_integer := PySem.W.mg_of X G a1) (k_is_integer := k1) (b_is_integer := b1) (c_MOST_STAMP := PySem.W.mg_of X G z_MOST_STAMP) )
  have G3 : ∀ FB : Hp, @GFn (tabsF [(CL15, PL15, ((("_law_right" : Str)) ++ ".<locals>." ++ "<lambda>"))] mg FB) l.prog w K mg base 3 f3 _ ps_is_operation CM.s_is_operation := fun FB => (letI : TabT := tabsF [(CL15, PL15, ((("_law_right" : Str)) ++ ".<locals>." ++ "<lambda>"))] mg FB; g_is_operation (P := l.prog) (w := w) (mg := mg) (base := base) F3 (G_are_stamps := (G2 FB).mono (by decide)) (m_are_stamps := PySem.W.mg_of X G a2) (k_are_stamps := k2) (b_are_stamps := b2) (G_is_integer := (G1 FB).mono (by decide)) (m_is_integer := PySem.W.mg_of X G a1) (k_is_integer := k1) (b_is_integer := b1) (c_PARTS := PySem.W.mg_of X G z_PARTS) (c_isinstance := PySem.W.mg_none_of X G z_isinstance) (c_tuple := PySem.W.mg_none_of X G z_tuple) (c_len := PySem.W.mg_none_of X G z_len) (c_str := PySem.W.mg_none_of X G z_str) (c_READ := PySem.W.mg_of X G z_READ) (c_WRITE := PySem.W.mg_of X G z_WRITE) (c_MOST_VALUE := PySem.W.mg_of X G z_MOST_VALUE) (c_int := PySem.W.mg_none_of X G z_int) )
  have G4 : ∀ FB : Hp, @GFn (tabsF [(CL15, PL15, ((("_law_right" : Str)) ++ ".<locals>." ++ "<lambda>"))] mg FB) l.prog w K mg base 4 f4 _ ps_is_log CM.s_is_log := fun FB => (letI : TabT := tabsF [(CL15, PL15, ((("_law_right" : Str)) ++ ".<locals>." ++ "<lambda>"))] mg FB; g_is_log (P := l.prog) (w := w) (mg := mg) (base := base) F4 (G_is_operation := (G3 FB).mono (by decide)) (m_is_operation := PySem.W.mg_of X G a3) (k_is_operation := k3) (b_is_operation := b3) (c_MOST_OPERATIONS := PySem.W.mg_of X G z_MOST_OPERATIONS) (c_all := PySem.W.mg_none_of X G z_all) (c_len := PySem.W.mg_none_of X G z_len) (c_isinstance := PySem.W.mg_none_of X G z_isinstance) (c_tuple := PySem.W.mg_none_of X G z_tuple) (c_WRITE := PySem.W.mg_of X G z_WRITE) (c_set := PySem.W.mg_none_of X G z_set) )
  have G5 : ∀ FB : Hp, @GFn (tabsF [(CL15, PL15, ((("_law_right" : Str)) ++ ".<locals>." ++ "<lambda>"))] mg FB) l.prog w K mg base 5 f5 _ ps_checked s_checked := fun FB => (letI : TabT := tabsF [(CL15, PL15, ((("_law_right" : Str)) ++ ".<locals>." ++ "<lambda>"))] mg FB; g_checked (P := l.prog) (w := w) (mg := mg) (base := base) F5 (G_is_log := (G4 FB).mono (by decide)) (m_is_log := PySem.W.mg_of X G a4) (k_is_log := k4) (b_is_log := b4) (E_BadLog := EE_BadLog))
  have G6 : ∀ FB : Hp, @GStar (tabsF [(CL15, PL15, ((("_law_right" : Str)) ++ ".<locals>." ++ "<lambda>"))] mg FB) l.prog w K mg base 6 f6 s_joined := fun FB => (letI : TabT := tabsF [(CL15, PL15, ((("_law_right" : Str)) ++ ".<locals>." ++ "<lambda>"))] mg FB; g_joined (P := l.prog) (w := w) (mg := mg) (base := base) F6 (hb := b6) (G_checked := (G5 FB).mono (by decide)) (m_checked := PySem.W.mg_of X G a5) (k_checked := k5) (b_checked := b5) (c_tuple := PySem.W.mg_none_of X G z_tuple) )
  have G7 : ∀ FB : Hp, @GThE (tabsF [(CL15, PL15, ((("_law_right" : Str)) ++ ".<locals>." ++ "<lambda>"))] mg FB) NoGd l.prog w K mg base 8 6 f7 _ ps__law_caught s__law_caught := fun FB => (letI : TabT := tabsF [(CL15, PL15, ((("_law_right" : Str)) ++ ".<locals>." ++ "<lambda>"))] mg FB; g__law_caught (P := l.prog) (w := w) (mg := mg) (base := base) F7 (hMG := rfl) (M_CellError := MM_CellError) (SB_CellError := SBB_CellError))
  have G8 : ∀ FB : Hp, @GThE (tabsF [(CL15, PL15, ((("_law_right" : Str)) ++ ".<locals>." ++ "<lambda>"))] mg FB) NoGd l.prog w K mg base 9 6 f8 _ ps__law_right_of s__law_right_of := fun FB => (letI : TabT := tabsF [(CL15, PL15, ((("_law_right" : Str)) ++ ".<locals>." ++ "<lambda>"))] mg FB; g__law_right_of (P := l.prog) (w := w) (mg := mg) (base := base) F8 (GT__law_caught := G7 FB) (m__law_caught := PySem.W.mg_of X G a7) (k__law_caught := k7) (b__law_caught := b7) (c_isinstance := PySem.W.mg_none_of X G z_isinstance) (c_ValueError := PySem.W.mg_none_of X G z_ValueError) (c_len := PySem.W.mg_none_of X G z_len) (c_repr := PySem.W.mg_none_of X G z_repr) (c_set := PySem.W.mg_none_of X G z_set) (hMG := rfl) (M_BadLog := MM_BadLog) (M_BadOperation := MM_BadOperation) (AT_value := ATT_value) (IS_ValueError := ISS_ValueError) (IS_BadLog := ISS_BadLog) (IS_BadOperation := ISS_BadOperation))
  have G9 : ∀ FB : Hp, @GFn (tabsF [(CL15, PL15, ((("_law_right" : Str)) ++ ".<locals>." ++ "<lambda>"))] mg FB) l.prog w K mg base 1 f9 _ ps__law_lifted s__law_lifted := fun FB => (letI : TabT := tabsF [(CL15, PL15, ((("_law_right" : Str)) ++ ".<locals>." ++ "<lambda>"))] mg FB; g__law_lifted (P := l.prog) (w := w) (mg := mg) (base := base) F9 (c_tuple := PySem.W.mg_none_of X G z_tuple) (c_int := PySem.W.mg_none_of X G z_int) )
  have G10 : ∀ FB : Hp, @GFn (tabsF [(CL15, PL15, ((("_law_right" : Str)) ++ ".<locals>." ++ "<lambda>"))] mg FB) l.prog w K mg base 1 f10 _ ps__law_draw CM.s_l_draw := fun FB => (letI : TabT := tabsF [(CL15, PL15, ((("_law_right" : Str)) ++ ".<locals>." ++ "<lambda>"))] mg FB; g__law_draw (P := l.prog) (w := w) (mg := mg) (base := base) F10 )
  have G11 : ∀ FB : Hp, @GFn (tabsF [(CL15, PL15, ((("_law_right" : Str)) ++ ".<locals>." ++ "<lambda>"))] mg FB) l.prog w K mg base 2 f11 _ ps__law_any CM.s_l_any := fun FB => (letI : TabT := tabsF [(CL15, PL15, ((("_law_right" : Str)) ++ ".<locals>." ++ "<lambda>"))] mg FB; g__law_any (P := l.prog) (w := w) (mg := mg) (base := base) F11 (G__law_draw := (G10 FB).mono (by decide)) (m__law_draw := PySem.W.mg_of X G a10) (k__law_draw := k10) (b__law_draw := b10) (c_len := PySem.W.mg_none_of X G z_len) )
  have G12 : ∀ FB : Hp, @GFn (tabsF [(CL15, PL15, ((("_law_right" : Str)) ++ ".<locals>." ++ "<lambda>"))] mg FB) l.prog w K mg base 2 f12 _ ps__law_mixed CM.s_l_mixed := fun FB => (letI : TabT := tabsF [(CL15, PL15, ((("_law_right" : Str)) ++ ".<locals>." ++ "<lambda>"))] mg FB; g__law_mixed (P := l.prog) (w := w) (mg := mg) (base := base) F12 (G__law_draw := (G10 FB).mono (by decide)) (m__law_draw := PySem.W.mg_of X G a10) (k__law_draw := k10) (b__law_draw := b10) (c_list := PySem.W.mg_none_of X G z_list) (c_len := PySem.W.mg_none_of X G z_len) )
  have G13 : ∀ FB : Hp, @GFn (tabsF [(CL15, PL15, ((("_law_right" : Str)) ++ ".<locals>." ++ "<lambda>"))] mg FB) l.prog w K mg base 3 f13 _ ps__law_wild CM.s_l_wild := fun FB => (letI : TabT := tabsF [(CL15, PL15, ((("_law_right" : Str)) ++ ".<locals>." ++ "<lambda>"))] mg FB; g__law_wild (P := l.prog) (w := w) (mg := mg) (base := base) F13 (G__law_draw := (G10 FB).mono (by decide)) (m__law_draw := PySem.W.mg_of X G a10) (k__law_draw := k10) (b__law_draw := b10) (G__law_mixed := (G12 FB).mono (by decide)) (m__law_mixed := PySem.W.mg_of X G a12) (k__law_mixed := k12) (b__law_mixed := b12) (G__law_any := (G11 FB).mono (by decide)) (m__law_any := PySem.W.mg_of X G a11) (k__law_any := k11) (b__law_any := b11) (c_range := PySem.W.mg_none_of X G z_range) (c_tuple := PySem.W.mg_none_of X G z_tuple) )
  have G14 : ∀ FB : Hp, @GFn (tabsF [(CL15, PL15, ((("_law_right" : Str)) ++ ".<locals>." ++ "<lambda>"))] mg FB) l.prog w K mg base 3 f14 _ ps__law_true CM.s_l_true := fun FB => (letI : TabT := tabsF [(CL15, PL15, ((("_law_right" : Str)) ++ ".<locals>." ++ "<lambda>"))] mg FB; g__law_true (P := l.prog) (w := w) (mg := mg) (base := base) F14 (G__law_mixed := (G12 FB).mono (by decide)) (m__law_mixed := PySem.W.mg_of X G a12) (k__law_mixed := k12) (b__law_mixed := b12) (G__law_any := (G11 FB).mono (by decide)) (m__law_any := PySem.W.mg_of X G a11) (k__law_any := k11) (b__law_any := b11) (G__law_draw := (G10 FB).mono (by decide)) (m__law_draw := PySem.W.mg_of X G a10) (k__law_draw := k10) (b__law_draw := b10) (c_range := PySem.W.mg_none_of X G z_range) (c_tuple := PySem.W.mg_none_of X G z_tuple) (c_list := PySem.W.mg_none_of X G z_list) (c_min := PySem.W.mg_none_of X G z_min) (c_max := PySem.W.mg_none_of X G z_max) )
  have G15 : ∀ FB : Hp, @GFn (tabsF [(CL15, PL15, ((("_law_right" : Str)) ++ ".<locals>." ++ "<lambda>"))] mg FB) l.prog w K mg base 10 f15 _ ps__law_right s__law_right := fun FB => (letI : TabT := tabsF [(CL15, PL15, ((("_law_right" : Str)) ++ ".<locals>." ++ "<lambda>"))] mg FB; g__law_right (P := l.prog) (w := w) (mg := mg) (base := base) F15 (GA_joined := (G6 FB).mono (by decide)) (G_joined := (G6 FB).mono (by decide)) (m_joined := PySem.W.mg_of X G a6) (k_joined := k6) (GT__law_right_of := G8 FB) (TR__law_right_of := tr__law_right_of) (m__law_right_of := PySem.W.mg_of X G a8) (k__law_right_of := k8) (b__law_right_of := b8) (G__law_lifted := (G9 FB).mono (by decide)) (m__law_lifted := PySem.W.mg_of X G a9) (k__law_lifted := k9) (b__law_lifted := b9) (G__law_any := (G11 FB).mono (by decide)) (m__law_any := PySem.W.mg_of X G a11) (k__law_any := k11) (b__law_any := b11) (G__law_wild := (G13 FB).mono (by decide)) (m__law_wild := PySem.W.mg_of X G a13) (k__law_wild := k13) (b__law_wild := b13) (G__law_true := (G14 FB).mono (by decide)) (m__law_true := PySem.W.mg_of X G a14) (k__law_true := k14) (b__law_true := b14) (G__law_draw := (G10 FB).mono (by decide)) (m__law_draw := PySem.W.mg_of X G a10) (k__law_draw := k10) (b__law_draw := b10) (c_range := PySem.W.mg_none_of X G z_range) (c_tuple := PySem.W.mg_none_of X G z_tuple) (c_repr := PySem.W.mg_none_of X G z_repr)  (TBl := TBs (CL15, PL15, ((("_law_right" : Str)) ++ ".<locals>." ++ "<lambda>")) (by simp)) (hcl := ce15) (hml := List.mem_map_of_mem (f := fun p : Addr × Addr × Str => p.2) (a := (CL15, PL15, ((("_law_right" : Str)) ++ ".<locals>." ++ "<lambda>"))) (by simp)) (hul := hu15))
  have G16 : ∀ FB : Hp, @GFn (tabsF [(CL15, PL15, ((("_law_right" : Str)) ++ ".<locals>." ++ "<lambda>"))] mg FB) l.prog w K mg base 1 f16 _ ps__law_pot CM.s_l_pot := fun FB => (letI : TabT := tabsF [(CL15, PL15, ((("_law_right" : Str)) ++ ".<locals>." ++ "<lambda>"))] mg FB; g__law_pot (P := l.prog) (w := w) (mg := mg) (base := base) F16 (c_len := PySem.W.mg_none_of X G z_len) (c_int := PySem.W.mg_none_of X G z_int) (c_abs := PySem.W.mg_none_of X G z_abs) )
  exact (fun FB : Hp => (letI : TabT := tabsF [(CL15, PL15, ((("_law_right" : Str)) ++ ".<locals>." ++ "<lambda>"))] mg FB; g_law (P := l.prog) (w := w) (mg := mg) (base := base) F17 (G__law_right := (G15 FB).mono (by decide)) (m__law_right := PySem.W.mg_of X G a15) (k__law_right := k15) (b__law_right := b15) (G__law_pot := (G16 FB).mono (by decide)) (m__law_pot := PySem.W.mg_of X G a16) (k__law_pot := k16) (b__law_pot := b16) (c_all := PySem.W.mg_none_of X G z_all) (c_range := PySem.W.mg_none_of X G z_range) (c_max := PySem.W.mg_none_of X G z_max) (c_min := PySem.W.mg_none_of X G z_min) (c_len := PySem.W.mg_none_of X G z_len) )) (fun _ => none)
end K16
open PySem PySem.W PyProof.Rows
set_option maxHeartbeats 0 in
theorem PySem.Challenge.cw_clockslack_k16_logs_joined_holds : PySem.Challenge.rw_clockslack_k16_logs_joined.Holds := by
  w_on; o_law; k_head; (case hw => w_witness2)
  k_fill
  refine' DL.walk_gfnT (l := PySem.Challenge.rw_clockslack_k16_logs_joined) (n := 63) (k := 11) (x := ("_law_script" : Str)) (Fm := K16.s_law) [(?CL15, ?PL15, ((("_law_right" : Str)) ++ ".<locals>." ++ "<lambda>"))] (by decide) (by decide) rfl ⟨rfl, by decide, by decide⟩ (fun w h Y => PySem.W.km_in_of Y) ?hT ?nT ?hC ?F (fun ns h => K16.sem_law ns h)
  case F =>
    intro w mg fa h KX G hmg
    refine' K16.all_mk KX G hmg ?a1 ?l1 ?c1 ?k1 ?a2 ?l2 ?c2 ?k2 ?a3 ?l3 ?c3 ?k3 ?a4 ?l4 ?c4 ?k4 ?a5 ?l5 ?c5 ?k5 ?a6 ?l6 ?c6 ?k6 ?a7 ?l7 ?c7 ?k7 ?a8 ?l8 ?c8 ?k8 ?a9 ?l9 ?c9 ?k9 ?a10 ?l10 ?c10 ?k10 ?a11 ?l11 ?c11 ?k11 ?a12 ?l12 ?c12 ?k12 ?a13 ?l13 ?c13 ?k13 ?a14 ?l14 ?c14 ?k14 ?a15 ?l15 ?c15 ?k15 ?a16 ?l16 ?c16 ?k16 ?a17 ?l17 ?c17 ?k17 ?z_isinstance ?z_int ?z_bool ?z_MOST_STAMP ?z_PARTS ?z_tuple ?z_len ?z_str ?z_READ ?z_WRITE ?z_MOST_VALUE ?z_MOST_OPERATIONS ?z_all ?z_set ?z_ValueError ?z_repr ?z_list ?z_range ?z_min ?z_max ?z_abs ?ce15 ?lc15 ?pe15 ?hu15 ?ax_BadLog ?ix_BadLog ?tx_BadLog ?ex_BadLog ?ax_BadOperation ?ix_BadOperation ?tx_BadOperation ?ex_BadOperation ?ax_CellError ?ix_CellError ?tx_CellError ?ex_CellError ?xl_BadLog ?sa_BadLog ?ga_BadLog ?gg_BadLog ?ca_BadLog ?nb_BadLog_value ?in_BadLog ?ty_BadLog ?li_BadLog ?ci_BadLog ?kb_BadLog_ValueError ?ki_BadLog ?kc_BadLog ?hd_BadLog ?mo_BadLog ?ne_BadLog_BadOperation ?sb_BadLog_BadLog ?sb_BadLog_BadOperation ?sb_BadLog_CellError ?gn_ ?gt_ ?cg_CellError ?cr_CellError ?ci_CellError
    (case a1 => k_is); (case l1 => k_is); (case c1 => k_is); (case k1 => k_is); (case a2 => k_is); (case l2 => k_is); (case c2 => k_is); (case k2 => k_is); (case a3 => k_is); (case l3 => k_is); (case c3 => k_is); (case k3 => k_is); (case a4 => k_is); (case l4 => k_is); (case c4 => k_is); (case k4 => k_is); (case a5 => k_is); (case l5 => k_is); (case c5 => k_is); (case k5 => k_is); (case a6 => k_is); (case l6 => k_is); (case c6 => k_is); (case k6 => k_is); (case a7 => k_is); (case l7 => k_is); (case c7 => k_is); (case k7 => k_is); (case a8 => k_is); (case l8 => k_is); (case c8 => k_is); (case k8 => k_is); (case a9 => k_is); (case l9 => k_is); (case c9 => k_is); (case k9 => k_is); (case a10 => k_is); (case l10 => k_is); (case c10 => k_is); (case k10 => k_is); (case a11 => k_is); (case l11 => k_is); (case c11 => k_is); (case k11 => k_is); (case a12 => k_is); (case l12 => k_is); (case c12 => k_is); (case k12 => k_is); (case a13 => k_is); (case l13 => k_is); (case c13 => k_is); (case k13 => k_is); (case a14 => k_is); (case l14 => k_is); (case c14 => k_is); (case k14 => k_is); (case a15 => k_is); (case l15 => k_is); (case c15 => k_is); (case k15 => k_is); (case a16 => k_is); (case l16 => k_is); (case c16 => k_is); (case k16 => k_is); (case a17 => k_is); (case l17 => k_is); (case c17 => k_is); (case k17 => k_is); (case z_isinstance => k_is); (case z_int => k_is); (case z_bool => k_is); (case z_MOST_STAMP => k_is); (case z_PARTS => k_is); (case z_tuple => k_is); (case z_len => k_is); (case z_str => k_is); (case z_READ => k_is); (case z_WRITE => k_is); (case z_MOST_VALUE => k_is); (case z_MOST_OPERATIONS => k_is); (case z_all => k_is); (case z_set => k_is); (case z_ValueError => k_is); (case z_repr => k_is); (case z_list => k_is); (case z_range => k_is); (case z_min => k_is); (case z_max => k_is); (case z_abs => k_is); (case ce15 => rfl); (case lc15 => k_is); (case pe15 => rfl); (case hu15 => (decide +kernel)); (case ax_BadLog => k_is); (case ix_BadLog => k_is); (case tx_BadLog => k_is); (case ex_BadLog => k_is); (case ax_BadOperation => k_is); (case ix_BadOperation => k_is); (case tx_BadOperation => k_is); (case ex_BadOperation => k_is); (case ax_CellError => k_is); (case ix_CellError => k_is); (case tx_CellError => k_is); (case ex_CellError => k_is); (case xl_BadLog => k_is); (case sa_BadLog => k_is); (case ga_BadLog => k_is); (case gg_BadLog => k_is); (case ca_BadLog => k_is); (case nb_BadLog_value => k_is); (case in_BadLog => k_is); (case ty_BadLog => k_is); (case li_BadLog => k_is); (case ci_BadLog => k_is); (case kb_BadLog_ValueError => (first | k_is | rfl | kernel_rfl)); (case ki_BadLog => k_is); (case kc_BadLog => k_is); (case hd_BadLog => k_is); (case mo_BadLog => k_is); (case ne_BadLog_BadOperation => (intro z; exact absurd z (by decide +kernel))); (case sb_BadLog_BadLog => (first | rfl | k_is)); (case sb_BadLog_BadOperation => (first | rfl | k_is)); (case sb_BadLog_CellError => (first | rfl | k_is)); (case gn_ => k_is); (case gt_ => k_is); (case cg_CellError => k_is); (case cr_CellError => k_is); (case ci_CellError => k_is)
  case hT => (intro w h Y p hp; simp only [List.mem_cons, List.not_mem_nil, or_false] at hp; rcases hp with rfl <;> exact PySem.W.km_tabs_of Y _ (by k_mem))
  case nT => (intro w p hp; simp only [List.mem_cons, List.not_mem_nil, or_false] at hp; rcases hp with rfl <;> kernel_rfl)
  case hC => (intro w h KX p hp; simp only [List.mem_cons, List.not_mem_nil, or_false] at hp; rcases hp with rfl <;> exact PySem.W.codeHd_of_K KX (by kernel_rfl))
