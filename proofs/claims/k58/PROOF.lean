import PyProof.Rows.All
import Wide.All
import OpenK.AllK
import Wide.FinOn
import PySem.Challenge.RW_clockslack_k58_whole_logs_written_and_re
import HandS.ForMost
import HandS.ForExc
import HandS.Wide
import HandS.Defaults
import HandS.SortInts
import HandS.Lambda
import HandS.TupAny
import HandS.TupMul
import HandS.Deep
import HandS.Codes
import HandS.IsInst
import HandS.RaiseMore
import HandS.WordsDict
import HandS.Style
import HandS.NoneIn
import HandS.SetFor
import HandS.Ends
import HandS.Conv
import HandS.Strs
import PyProof.ReprRoads
import PyProof.ReprLen
import PyProof.FitsInt
import PyProof.P3Eq
import PyProof.StrLawsRepr
import PyProof.Rows.RegStrFacts
import HandS.SetBool
import HandS.DictComp
import KE.GoesEnum
import HandS.Zip
import HandS.GenYield
import HandS.GenCall
import HandS.GenList
import HandS.TupLe
import HandS.More
import HandS.Iter
import KE.SortKeyHeap
import KE.KNestM
import HandS.ExcInit
import HandS.ExcField
import HandS.ExcIs
import HandS.TryMany
import KE.KExcIs
import KE.KEqNest
import HandS.Star
import HandS.Text
import HandS.Replace
import KE.KUnpackStar
import KE.KxField
import HandS.FStr
import KE.OsScanText
import PyProof.Rows.StrIntSpec
set_option Elab.async false
set_option linter.all false
set_option maxRecDepth 100000
set_option maxHeartbeats 4000000
/-! DL1: data, slots, the relation between slots and the abstract heap, how it evolves. -/
namespace DL
open PySem PySem.Spec PyProof.Rows L2
/-- a Python value as plain data -/
inductive D where
  | non | bl (b : Bool) | int (i : Int) | str (x : Str)
  | tup (xs : List D) | lst (xs : List D) | dic (ks : List Key) (vs : List D) | set (ks : List Int)
  | scr (ns : List Int) | ty (n : String)
  | obj (c : Str) (ns : List Str) (vs : List D)
  | ins (c : Str) (ns : List Str) (vs : List D)
/-- what an owned object holds -/
inductive Cont where
  | lst (xs : List D) | dic (ks : List Key) (vs : List D)
def Cont.toD : Cont → D
  | .lst xs => .lst xs
  | .dic ks vs => .dic ks vs
/-- own: made here; bor: lent by the caller; lck: read only for now -/
inductive Md where
  | own | bor | lck
  deriving DecidableEq
inductive Slot where
  | un | d (x : D) | ow (c : Cont) (m : Md)
abbrev DEnv := List Slot
/-- what an expression gives: data; a fresh object; the object of a slot -/
inductive Val where
  | d (x : D) | fr (c : Cont) | sl (i : Nat)
/-- an exception of a class of the program -/
structure Ex where
  c : Str
  ns : List Str
  vs : List D
inductive R (α : Type) where
  | ok (a : α) (ρ : DEnv) | ex (x : Ex) (ρ : DEnv) | bad
def R.bind {α β : Type} (r : R α) (g : α → DEnv → R β) : R β := match r with
  | .ok a ρ => g a ρ
  | .ex x ρ => .ex x ρ
  | .bad => .bad
abbrev M (α : Type) := DEnv → R α
abbrev EM := M Val
/-- an exception that was caught, of the class cls, its dict at d -/
def xoO (a : Addr) (cls : Value) (d : Addr) : HO := .ext fun h => ∃ (oe : Obj) (vs : Array Value), h.get? a = some oe ∧ oe.cls = cls ∧ oe.dict = some d ∧ oe.data = .fields vs
/-- an exception without a dict -/
def xo0 (a : Addr) (cls : Value) : HO := .ext fun h => ∃ (oe : Obj) (vs : Array Value), h.get? a = some oe ∧ oe.cls = cls ∧ oe.dict = none ∧ oe.data = .fields vs
/-- a dict that is a store of known answers: key i, if there, holds tb[i] -/
def cchF (a : Addr) (tb : List Int) (h : Heap) : Prop := ∃ (P : Program) (w : World) (kvs : List (Int × Value)), kvs.length ≤ sizeLine ∧ (a == sysModules) = false ∧ h.DictOf (mixKind P w) a (kvs.map fun p => (Sum.inl p.1, p.2)) ∧ ∀ p ∈ kvs, ∃ (i : Nat) (x : Int), p.1 = (i : Int) ∧ tb[i]? = some x ∧ RelV (.int x) p.2
def cchO (a : Addr) (tb : List Int) : HO := .ext (cchF a tb)
/-- the module's names (for the classes of exceptions) -/
class MgT where
  mg : Str → Option Value
section
variable [MgT]
section
variable (K : PySem.W.Frag) (F : Hp)
mutual
inductive Rep : V → D → Prop
  | non : Rep .non .non
  | bl (b : Bool) : Rep (.bl b) (.bl b)
  | int (i : Int) : Rep (.int i) (.int i)
  | str (x : Str) : Rep (.str x) (.str x)
  | lst {a : Addr} {xs : List V} {ds : List D} : F a = some (.lst xs) → RepL xs ds → Rep (.ref a) (.lst ds)
  | tup {a : Addr} {xs : List V} {ds : List D} : SqT K F a xs → RepL xs ds → Rep (.ref a) (.tup ds)
  | dic {a : Addr} {o : Obj} {ks : List Key} {xs : List V} {ds : List D} : F a = some (.frz o (.dK (ks.zip xs))) → ks.length = xs.length → RepL xs ds → Rep (.ref a) (.dic ks ds)
  | scr {a : Addr} {ns : List Int} : SqL K F a (ns.map V.int) → Rep (.ref a) (.scr ns)
  | ty (n : String) : Rep (.ty n) (.ty n)
  | obj {a d : Addr} {cls : Value} {c : Str} {ns : List Str} {xs : List V} {ds : List D} : F a = some (xoO a cls d) → MgT.mg c = some cls → F d = some (.xd (ns.zip xs)) → ns.length = xs.length → RepL xs ds → Rep (.ref a) (.obj c ns ds)
  | ob0 {a : Addr} {cls : Value} {c : Str} : F a = some (xo0 a cls) → MgT.mg c = some cls → Rep (.ref a) (.obj c [] [])
  | pt (a : Addr) : Rep (.ref a) (.set [Int.ofNat a])
  | opq (a : Addr) : Rep (.ref a) (.set [])
  | cch {a : Addr} {tb : List Int} : F a = some (cchO a tb) → Rep (.ref a) (.set (0 :: 0 :: tb))
  | ins {a C dx : Addr} {c : Str} {ns : List Str} {xs : List V} {ds : List D} : F a = some (.ins C dx (ns.zip xs)) → MgT.mg c = some (.ref C) → ns.length = xs.length → RepL xs ds → Rep (.ref a) (.ins c ns ds)
inductive RepL : List V → List D → Prop
  | nil : RepL [] []
  | cons {v : V} {vs : List V} {d : D} {ds : List D} : Rep v d → RepL vs ds → RepL (v :: vs) (d :: ds)
end
end
structure RdLe (F F' : Hp) : Prop where
  «1» : ∀ a xs, F a = some (.lst xs) → F' a = some (.lst xs)
  «2» : ∀ a u, Rd F a u → Rd F' a u
  fr : ∀ a o u, F a = some (.frz o u) → F' a = some (.frz o u)
  xo : ∀ a cls d, F a = some (xoO a cls d) → F' a = some (xoO a cls d)
  xd : ∀ a fs, F a = some (.xd fs) → F' a = some (.xd fs)
  x0 : ∀ a cls, F a = some (xo0 a cls) → F' a = some (xo0 a cls)
  ins : ∀ a C dx fs, F a = some (.ins C dx fs) → F' a = some (.ins C dx fs)
  cc : ∀ a tb, F a = some (cchO a tb) → F' a = some (cchO a tb)
theorem RdLe.of {F F' : Hp} (h : Same F F') : RdLe F F' := ⟨fun a xs e => h a _ e, fun a u e => by
  rcases e with e | ⟨o, e⟩
  · exact .inl (h _ _ e)
  · exact .inr ⟨o, h _ _ e⟩, fun a o u e => h a _ e, fun a cls d e => h a _ e, fun a fs e => h a _ e, fun a cls e => h a _ e, fun a C dx fs e => h a _ e, fun a tb e => h a _ e⟩
theorem RdLe.sqT {K : PySem.W.Frag} {F F' : Hp} (h : RdLe F F') {a : Addr} {xs : List V} (s : SqT K F a xs) : SqT K F' a xs := by
  rcases s with s | s
  · exact .inl (h.2 _ _ s)
  · exact .inr s
theorem RdLe.sqL {K : PySem.W.Frag} {F F' : Hp} (h : RdLe F F') {a : Addr} {xs : List V} (s : SqL K F a xs) : SqL K F' a xs := by
  rcases s with s | s
  · exact .inl (h.2 _ _ s)
  · exact .inr s
section
variable {K : PySem.W.Frag} {F F' : Hp}
mutual
theorem Rep.mono (h : RdLe F F') : ∀ {v : V} {d : D}, Rep K F v d → Rep K F' v d
  | _, _, .non => .non
  | _, _, .bl b => .bl b
  | _, _, .int i => .int i
  | _, _, .str x => .str x
  | _, _, .lst e r => .lst (h.1 _ _ e) (RepL.mono h r)
  | _, _, .tup e r => .tup (h.sqT e) (RepL.mono h r)
  | _, _, .dic e l r => .dic (h.fr _ _ _ e) l (RepL.mono h r)
  | _, _, .scr e => .scr (h.sqL e)
  | _, _, .ty n => .ty n
  | _, _, .obj e1 e2 e3 l r => .obj (h.xo _ _ _ e1) e2 (h.xd _ _ e3) l (RepL.mono h r)
  | _, _, .ob0 e1 e2 => .ob0 (h.x0 _ _ e1) e2
  | _, _, .pt a => .pt a
  | _, _, .opq a => .opq a
  | _, _, .cch e => .cch (h.cc _ _ e)
  | _, _, .ins e1 e2 l r => .ins (h.ins _ _ _ _ e1) e2 l (RepL.mono h r)
theorem RepL.mono (h : RdLe F F') : ∀ {v : List V} {d : List D}, RepL K F v d → RepL K F' v d
  | _, _, .nil => .nil
  | _, _, .cons a b => .cons (Rep.mono h a) (RepL.mono h b)
end
theorem RepL.length : ∀ {vs : List V} {ds : List D}, RepL K F vs ds → vs.length = ds.length
  | _, _, .nil => rfl
  | _, _, .cons _ b => congrArg (· + 1) (RepL.length b)
theorem RepL.app : ∀ {vs us : List V} {ds es : List D}, RepL K F vs ds → RepL K F us es → RepL K F (vs ++ us) (ds ++ es)
  | _, _, _, _, .nil, r => r
  | _, _, _, _, .cons a b, r => .cons a (RepL.app b r)
theorem RepL.one {v : V} {d : D} (h : Rep K F v d) : RepL K F [v] [d] := .cons h .nil
theorem RepL.get : ∀ {vs : List V} {ds : List D} {i : Nat} {d : D}, RepL K F vs ds → ds[i]? = some d → ∃ v, vs[i]? = some v ∧ Rep K F v d
  | _, _, _, _, .nil, e => by simp at e
  | _, _, 0, _, .cons a b, e => by simp at e; subst e; exact ⟨_, rfl, a⟩
  | _, _, i + 1, d, .cons a b, e => by
    obtain ⟨v, h1, h2⟩ := RepL.get (i := i) (d := d) b (by simpa using e)
    exact ⟨v, by simpa using h1, h2⟩
theorem RepL.getV : ∀ {vs : List V} {ds : List D} {i : Nat} {v : V}, RepL K F vs ds → vs[i]? = some v → ∃ d, ds[i]? = some d ∧ Rep K F v d
  | _, _, _, _, .nil, e => by simp at e
  | _, _, 0, _, .cons a b, e => by simp at e; subst e; exact ⟨_, rfl, a⟩
  | _, _, i + 1, v, .cons a b, e => by
    obtain ⟨d, h1, h2⟩ := RepL.getV (i := i) (v := v) b (by simpa using e)
    exact ⟨d, by simpa using h1, h2⟩
theorem RepL.set {v : V} {d : D} (h : Rep K F v d) : ∀ {vs : List V} {ds : List D} (i : Nat), RepL K F vs ds → RepL K F (vs.set i v) (ds.set i d)
  | _, _, _, .nil => .nil
  | _, _, 0, .cons a b => .cons h b
  | _, _, i + 1, .cons a b => .cons a (RepL.set h i b)
theorem RepL.take : ∀ {vs : List V} {ds : List D} (n : Nat), RepL K F vs ds → RepL K F (vs.take n) (ds.take n)
  | _, _, 0, _ => .nil
  | _, _, _ + 1, .nil => .nil
  | _, _, n + 1, .cons a b => .cons a (RepL.take n b)
theorem RepL.drop : ∀ {vs : List V} {ds : List D} (n : Nat), RepL K F vs ds → RepL K F (vs.drop n) (ds.drop n)
  | _, _, 0, r => r
  | _, _, _ + 1, .nil => .nil
  | _, _, n + 1, .cons a b => RepL.drop n b
theorem RepL.eraseIdx : ∀ {vs : List V} {ds : List D} (n : Nat), RepL K F vs ds → RepL K F (vs.eraseIdx n) (ds.eraseIdx n)
  | _, _, _, .nil => .nil
  | _, _, 0, .cons a b => b
  | _, _, n + 1, .cons a b => .cons a (RepL.eraseIdx n b)
theorem RepL.reverse : ∀ {vs : List V} {ds : List D}, RepL K F vs ds → RepL K F vs.reverse ds.reverse
  | _, _, .nil => .nil
  | _, _, .cons a b => by
    rw [List.reverse_cons, List.reverse_cons]
    exact (RepL.reverse b).app (.one a)
theorem RepL.ints : ∀ {ns : List Int}, RepL K F (ns.map V.int) (ns.map D.int)
  | [] => .nil
  | n :: ns => .cons (.int n) (RepL.ints (ns := ns))
theorem RepL.intsV : ∀ {vs : List V} {ns : List Int}, RepL K F vs (ns.map D.int) → vs = ns.map V.int
  | _, [], .nil => rfl
  | _, n :: ns, .cons a b => by
    cases a
    rw [RepL.intsV b]
    rfl
theorem RepL.flatten : ∀ {vs : List V} {ds : List D} (n : Nat), RepL K F vs ds → RepL K F (List.replicate n vs).flatten (List.replicate n ds).flatten
  | _, _, 0, _ => .nil
  | _, _, n + 1, r => by
    rw [List.replicate_succ, List.replicate_succ, List.flatten_cons, List.flatten_cons]
    exact r.app (RepL.flatten n r)
end
/-- no table of code objects -/
def NT (o : HO) : Prop := ∀ ps, o ≠ .tbl ps
/-- a table of code objects, or a code object -/
def KT (a : Addr) (o : HO) : Prop := (∃ ps, o = .tbl ps) ∨ ∃ q, o = LamX.CodeO a q
def CRep (K : PySem.W.Frag) (F H : Hp) (a : Addr) : Cont → Prop
  | .lst ds => ∃ vs, H a = some (.lst vs) ∧ RepL K F vs ds
  | .dic ks ds => ∃ vs, H a = some (.dK (ks.zip vs)) ∧ ks.length = vs.length ∧ RepL K F vs ds
theorem CRep.mono {K : PySem.W.Frag} {F F' H H' : Hp} {a : Addr} (hF : RdLe F F') (hH : H' a = H a) : ∀ {c : Cont}, CRep K F H a c → CRep K F' H' a c
  | .lst ds, ⟨vs, e, r⟩ => ⟨vs, hH.trans e, r.mono hF⟩
  | .dic ks ds, ⟨vs, e, l, r⟩ => ⟨vs, hH.trans e, l, r.mono hF⟩
theorem CRep.nt {K : PySem.W.Frag} {F H : Hp} {a : Addr} {o : HO} (h : H a = Option.some o) {c : Cont} (cr : CRep K F H a c) : NT o := fun ps z => by
  subst z
  cases c with
  | lst ds => obtain ⟨vs, e, r⟩ := cr; rw [h] at e; cases e
  | dic ks ds => obtain ⟨vs, e, l, r⟩ := cr; rw [h] at e; cases e
theorem CRep.kt {K : PySem.W.Frag} {F H : Hp} {a : Addr} {o : HO} (h : H a = Option.some o) {c : Cont} (cr : CRep K F H a c) : ¬ KT a o := fun z => by
  cases c with
  | lst ds =>
    obtain ⟨vs, e, r⟩ := cr
    rw [h] at e
    rcases z with ⟨ps, rfl⟩ | ⟨g, rfl⟩
    · cases e
    · unfold LamX.CodeO at e; cases e
  | dic ks ds =>
    obtain ⟨vs, e, l, r⟩ := cr
    rw [h] at e
    rcases z with ⟨ps, rfl⟩ | ⟨g, rfl⟩
    · cases e
    · unfold LamX.CodeO at e; cases e
theorem CRep.some {K : PySem.W.Frag} {F H : Hp} {a : Addr} : ∀ {c : Cont}, CRep K F H a c → ∃ o, H a = some o
  | .lst ds, ⟨vs, e, r⟩ => ⟨_, e⟩
  | .dic ks ds, ⟨vs, e, l, r⟩ => ⟨_, e⟩
/-- the object under which it is frozen: a dict is locked, too -/
def FrzO (c : Cont) (o o' : HO) : Prop := match c with
  | .lst _ => o' = o
  | .dic _ _ => ∃ od, o' = .frz od o
theorem CRep.rep {K : PySem.W.Frag} {F F' H : Hp} {a : Addr} {o o' : HO} (hF : RdLe F F') (ho : H a = Option.some o) (hH : F' a = Option.some o') : ∀ {c : Cont}, FrzO c o o' → CRep K F H a c → Rep K F' (.ref a) c.toD
  | .lst ds, z, ⟨vs, e, r⟩ => by
    obtain rfl : o' = o := z
    rw [ho] at e; cases e
    exact .lst hH (r.mono hF)
  | .dic ks ds, z, ⟨vs, e, l, r⟩ => by
    obtain ⟨od, rfl⟩ := z
    rw [ho] at e; cases e
    exact .dic hH l (r.mono hF)
def SlotR (K : PySem.W.Frag) (F H : Hp) (ov : Option V) : Slot → Prop
  | .un => True
  | .d x => ∃ v, ov = some v ∧ Rep K F v x
  | .ow c _ => ∃ a, ov = some (.ref a) ∧ F a = none ∧ CRep K F H a c
end
/-- the tables of code objects that may be written, with the names of their code objects; what is frozen from the start -/
class TabT extends MgT where
  T : List (Addr × Str)
  FB : Hp
variable [TabT]
/-- a slot owns the object at a -/
def Ow (σ : L2.St) (ρ : DEnv) (a : Addr) : Prop := ∃ (i : Nat) (c : Cont) (m : Md), ρ[i]? = some (Slot.ow c m) ∧ σ[i]? = some (some (V.ref a))
/-- .. and may change it -/
def Mt (σ : L2.St) (ρ : DEnv) (a : Addr) : Prop := ∃ (i : Nat) (c : Cont) (m : Md), ρ[i]? = some (Slot.ow c m) ∧ m ≠ Md.lck ∧ σ[i]? = some (some (V.ref a))
theorem Mt.ow {σ : L2.St} {ρ : DEnv} {a : Addr} : Mt σ ρ a → Ow σ ρ a := fun ⟨i, c, m, h, _, q⟩ => ⟨i, c, m, h, q⟩
structure TabOk (F H : Hp) : Prop where
  tabs : LamX.Tabs TabT.T H
  out : ∀ p ∈ TabT.T, F p.1 = none
  base : Same TabT.FB F
theorem TabOk.step {F H F' H' : Hp} (t : TabOk F H) (sf : Same F F') (k : ∀ a o, KT a o → H a = some o → H' a = some o) (n : ∀ a, KT a (H a |>.getD (.lst [])) → F a = none → F' a = none) : TabOk F' H' := by
  refine ⟨fun p hp => ?_, fun p hp => ?_, fun a o e => sf _ _ (t.base _ _ e)⟩
  · obtain ⟨ps, h1, h2, h3⟩ := t.tabs p hp
    refine ⟨ps, k _ _ (.inl ⟨ps, rfl⟩) h1, h2, fun pos cv hc => ?_⟩
    obtain ⟨c, e1, e2⟩ := h3 pos cv hc
    exact ⟨c, e1, k _ _ (.inr ⟨_, rfl⟩) e2⟩
  · obtain ⟨ps, h1, _⟩ := t.tabs p hp
    exact n p.1 (by rw [h1]; exact .inl ⟨ps, rfl⟩) (t.out p hp)
theorem TabOk.frz {F H : Hp} {a : Addr} {o o' : HO} (t : TabOk F H) (h : H a = some o) (nk : ¬ KT a o) (fa : F a = none) : TabOk (upd F a o') (upd H a o') := by
  refine t.step (fun b u e => by rw [upd_ne (ne_of_none e fa)]; exact e) (fun b u k e => ?_) fun b k e => ?_
  · by_cases z : b = a
    · subst z; rw [h] at e; cases e; exact absurd k nk
    · rw [upd_ne z]; exact e
  · by_cases z : b = a
    · subst z; rw [h] at k; exact absurd k nk
    · rw [upd_ne z]; exact e
theorem TabOk.own {F H : Hp} {a : Addr} {o o' : HO} (t : TabOk F H) (h : H a = some o) (nk : ¬ KT a o) : TabOk F (upd H a o') := by
  refine t.step (Same.refl _) (fun b u k e => ?_) fun b _ e => e
  by_cases z : b = a
  · subst z; rw [h] at e; cases e; exact absurd k nk
  · rw [upd_ne z]; exact e
structure SR (K : PySem.W.Frag) (F H : Hp) (σ : L2.St) (ρ : DEnv) : Prop where
  len : σ.length = ρ.length
  sub : Same F H
  slot : ∀ (i : Nat) (s : Slot), ρ[i]? = some s → ∃ ov, σ[i]? = some ov ∧ SlotR K F H ov s
  dist : ∀ (i j : Nat) (c : Cont) (m : Md) (c' : Cont) (m' : Md) (a : Addr), ρ[i]? = some (.ow c m) → ρ[j]? = some (.ow c' m') → σ[i]? = some (some (.ref a)) → σ[j]? = some (some (.ref a)) → i = j
  tab : TabOk F H
/-- from (σ, ρ, F, H) to (σ', ρ', F', H') -/
structure Ev (σ : L2.St) (ρ : DEnv) (F H : Hp) (σ' : L2.St) (ρ' : DEnv) (F' H' : Hp) : Prop where
  ext : Same F F'
  keep : ∀ a o, H a = some o → ¬ Mt σ ρ a → NT o → H' a = some o
  newF : ∀ a, F a = none → F' a ≠ none → H a = none ∨ Ow σ ρ a
  dom : ∀ a, H a ≠ none → H' a ≠ none
  bor : ∀ (i : Nat) (c : Cont) (m : Md), ρ[i]? = some (.ow c m) → m ≠ .own → σ'[i]? = σ[i]? ∧ ∃ c' : Cont, ρ'[i]? = some (.ow c' m) ∧ (m = .lck → c' = c)
  own' : ∀ a, Ow σ' ρ' a → H a = none ∨ Ow σ ρ a
  mt' : ∀ a, Mt σ' ρ' a → H a = none ∨ Mt σ ρ a
section
variable {σ σ1 σ2 : L2.St} {ρ ρ1 ρ2 : DEnv} {F F1 F2 H H1 H2 : Hp}
theorem Ev.refl : Ev σ ρ F H σ ρ F H := ⟨Same.refl _, fun _ _ e _ _ => e, fun _ e n => absurd e n, fun _ h => h, fun i c m e _ => ⟨rfl, c, e, fun _ => rfl⟩, fun _ h => .inr h, fun _ h => .inr h⟩
theorem Ev.trans (a : Ev σ ρ F H σ1 ρ1 F1 H1) (b : Ev σ1 ρ1 F1 H1 σ2 ρ2 F2 H2) : Ev σ ρ F H σ2 ρ2 F2 H2 where
  ext := a.ext.trans b.ext
  keep := fun x o e n nt => by
    refine b.keep x o (a.keep x o e n nt) (fun m => ?_) nt
    rcases a.mt' x m with z | z
    · rw [e] at z; cases z
    · exact n z
  newF := fun x e n => by
    by_cases q : F1 x = none
    · rcases b.newF x q n with z | z
      · cases hx : H x with
        | none => exact .inl rfl
        | some o => exact absurd z (a.dom x (by rw [hx]; simp))
      · exact a.own' x z
    · exact a.newF x e q
  dom := fun x h => b.dom x (a.dom x h)
  bor := fun i c m e hm => by
    obtain ⟨s1, c1, r1, l1⟩ := a.bor i c m e hm
    obtain ⟨s2, c2, r2, l2⟩ := b.bor i c1 m r1 hm
    exact ⟨s2.trans s1, c2, r2, fun z => (l2 z).trans (l1 z)⟩
  own' := fun x h => by
    rcases b.own' x h with z | z
    · cases hx : H x with
      | none => exact .inl rfl
      | some o => exact absurd z (a.dom x (by rw [hx]; simp))
    · exact a.own' x z
  mt' := fun x h => by
    rcases b.mt' x h with z | z
    · cases hx : H x with
      | none => exact .inl rfl
      | some o => exact absurd z (a.dom x (by rw [hx]; simp))
    · exact a.mt' x z
end
/-- only new objects: of the abstract heap, of its frozen part -/
structure Gr (F H F' H' : Hp) : Prop where
  ext : Same F F'
  all : Same H H'
  sub : Same F' H'
  newF : ∀ a, F a = none → F' a ≠ none → H a = none
theorem Gr.refl {F H : Hp} (h : Same F H) : Gr F H F H := ⟨Same.refl _, Same.refl _, h, fun _ e n => absurd e n⟩
theorem Gr.trans {F H F1 H1 F2 H2 : Hp} (a : Gr F H F1 H1) (b : Gr F1 H1 F2 H2) : Gr F H F2 H2 := ⟨a.ext.trans b.ext, a.all.trans b.all, b.sub, fun x e n => by
  by_cases q : F1 x = none
  · exact Same.free a.all (b.newF x q n)
  · exact a.newF x e q⟩
section
variable {K : PySem.W.Frag} {σ : L2.St} {ρ : DEnv} {F H F' H' : Hp}
theorem Gr.tab (g : Gr F H F' H') (t : TabOk F H) : TabOk F' H' := t.step g.ext (fun a o _ e => g.all a o e) fun a k e => by
  cases h : F' a with
  | none => rfl
  | some u =>
    have := g.newF a e (by rw [h]; simp)
    rw [this] at k
    rcases k with ⟨ps, z⟩ | ⟨q, z⟩
    · cases z
    · unfold LamX.CodeO at z; cases z
theorem Gr.sr (g : Gr F H F' H') (s : SR K F H σ ρ) : SR K F' H' σ ρ := by
  refine ⟨s.len, g.sub, fun i sl e => ?_, s.dist, g.tab s.tab⟩
  obtain ⟨ov, h1, h2⟩ := s.slot i sl e
  refine ⟨ov, h1, ?_⟩
  cases sl with
  | un => trivial
  | d x => obtain ⟨v, q, r⟩ := h2; exact ⟨v, q, r.mono (.of g.ext)⟩
  | ow c m =>
    obtain ⟨a, q, fn, r⟩ := h2
    obtain ⟨o, ho⟩ := r.some
    refine ⟨a, q, ?_, r.mono (.of g.ext) ((g.all _ _ ho).trans ho.symm)⟩
    cases hF : F' a with
    | none => rfl
    | some u =>
      have z := g.newF a fn (by rw [hF]; simp)
      rw [ho] at z
      cases z
theorem Gr.ev (g : Gr F H F' H') : Ev σ ρ F H σ ρ F' H' := ⟨g.ext, fun a o e _ _ => g.all a o e, fun a e n => .inl (g.newF a e n), fun a h => by
  cases q : H a with
  | none => exact absurd q h
  | some o => rw [g.all a o q]; simp, fun i c m e _ => ⟨rfl, c, e, fun _ => rfl⟩, fun _ h => .inr h, fun _ h => .inr h⟩
/-- a new object, not frozen -/
theorem Gr.fresh {p : Addr} {o : HO} (h : Same F H) (n : H p = none) : Gr F H F (upd H p o) := ⟨Same.refl _, fun b u e => by rw [upd_ne (ne_of_none e n)]; exact e, fun b u e => by rw [upd_ne (ne_of_none (h _ _ e) n)]; exact h _ _ e, fun _ e z => absurd e z⟩
/-- a new object, frozen -/
theorem Gr.froz {p : Addr} {o : HO} (h : Same F H) (n : H p = none) : Gr F H (upd F p o) (upd H p o) := by
  have nF : F p = none := Same.free h n
  refine ⟨fun b u e => by rw [upd_ne (ne_of_none e nF)]; exact e, fun b u e => by rw [upd_ne (ne_of_none e n)]; exact e, fun b u e => ?_, fun b e z => ?_⟩
  · by_cases q : b = p
    · subst q; rw [upd_same] at e ⊢; exact e
    · rw [upd_ne q] at e ⊢; exact h _ _ e
  · by_cases q : b = p
    · subst q; exact n
    · rw [upd_ne q] at z; exact absurd e z
end
/-- the value v is x; Hb: the heap where the evaluation began -/
def VR (K : PySem.W.Frag) (σ : L2.St) (Hb F H : Hp) (ρ : DEnv) (v : V) : Val → Prop
  | .d x => Rep K F v x
  | .fr c => ∃ p, v = .ref p ∧ Hb p = none ∧ F p = none ∧ CRep K F H p c ∧ ¬ Ow σ ρ p
  | .sl i => σ[i]? = some (some v)
section
variable {K : PySem.W.Frag} {σ : L2.St} {ρ ρ' : DEnv} {Hb Hb' F H F' H' : Hp}
theorem VR.ev {v : V} {x : Val} (h : VR K σ Hb F H ρ v x) (ev : Ev σ ρ F H σ ρ' F' H') : VR K σ Hb F' H' ρ' v x := by
  cases x with
  | d x => exact Rep.mono (.of ev.ext) h
  | sl i => exact h
  | fr c =>
    obtain ⟨p, e, nb, nF, cr, no⟩ := h
    obtain ⟨o, ho⟩ := cr.some
    have nn : ¬ H p = none := fun z => by rw [ho] at z; cases z
    refine ⟨p, e, nb, ?_, cr.mono (.of ev.ext) ((ev.keep p o ho (fun m => no m.ow) (CRep.nt ho cr)).trans ho.symm), fun z => (ev.own' p z).elim nn no⟩
    cases hF : F' p with
    | none => rfl
    | some u => exact ((ev.newF p nF (by rw [hF]; simp)).elim nn no).elim
theorem VR.base {v : V} {x : Val} (h : VR K σ Hb F H ρ v x) (d : ∀ a, Hb' a ≠ none → Hb a ≠ none) : VR K σ Hb' F H ρ v x := by
  cases x with
  | d x => exact h
  | sl i => exact h
  | fr c =>
    obtain ⟨p, e, nb, r⟩ := h
    refine ⟨p, e, ?_, r⟩
    cases q : Hb' p with
    | none => rfl
    | some u => exact absurd nb (d p (by rw [q]; simp))
end
structure VRL (K : PySem.W.Frag) (σ : L2.St) (Hb F H : Hp) (ρ : DEnv) (vs : List V) (xs : List Val) : Prop where
  all : Paired (VR K σ Hb F H ρ) vs xs
  frs : ∀ (i j : Nat) (c c' : Cont) (p : Addr), xs[i]? = some (.fr c) → xs[j]? = some (.fr c') → vs[i]? = some (.ref p) → vs[j]? = some (.ref p) → i = j
/-- an exception, as what HandS tells of it -/
def XR (K : PySem.W.Frag) (mg : Str → Option Value) (F : Hp) (x : Ex) (cls : Value) (dd : Option Addr) : Prop :=
  mg x.c = some cls ∧ ∃ d vs, dd = some d ∧ F d = some (.xd (x.ns.zip vs)) ∧ x.ns.length = vs.length ∧ RepL K F vs x.vs
section
variable {α β γ δ : Type}
/-- how results lie -/
abbrev RelT (β α : Type) := Hp → Hp → Hp → DEnv → β → α → Prop
def Out (K : PySem.W.Frag) (mg : Str → Option Value) (E : XK) (rel : RelT β α) (σ : L2.St) (ρ : DEnv) (F H : Hp) (r : R α) (Q : β → Hp → Prop) : Prop :=
  match r with
  | .ok x ρ' => ∀ v F' H', SR K F' H' σ ρ' → Ev σ ρ F H σ ρ' F' H' → rel H F' H' ρ' v x → Q v H'
  | .ex x ρ' => ∀ cls dd F' H', SR K F' H' σ ρ' → Ev σ ρ F H σ ρ' F' H' → XR K mg F' x cls dd → E cls dd H'
  | .bad => False
variable {K : PySem.W.Frag} {mg : Str → Option Value} {E : XK} {rel : RelT β α} {rel2 : RelT δ γ} {σ : L2.St} {ρ ρ1 : DEnv} {F H F1 H1 : Hp}
theorem Out.bind {r : R α} {g : α → DEnv → R γ} {Q : δ → Hp → Prop} (h : Out K mg E rel2 σ ρ F H (r.bind g) Q) :
    Out K mg E rel σ ρ F H r (fun v H1 => ∃ x F1 ρ1, r = .ok x ρ1 ∧ SR K F1 H1 σ ρ1 ∧ Ev σ ρ F H σ ρ1 F1 H1 ∧ rel H F1 H1 ρ1 v x ∧ Out K mg E rel2 σ ρ F H (g x ρ1) Q) := by
  cases r with
  | ok x ρ' => exact fun v F' H' s e r => ⟨x, F', ρ', rfl, s, e, r, h⟩
  | ex x ρ' => exact h
  | bad => exact h
theorem Out.from {r : R α} {Q : β → Hp → Prop} (h : Out K mg E rel σ ρ F H r Q) (ev : Ev σ ρ F H σ ρ1 F1 H1) (hrel : ∀ F' H' ρ' v x, rel H1 F' H' ρ' v x → rel H F' H' ρ' v x) : Out K mg E rel σ ρ1 F1 H1 r Q := by
  cases r with
  | ok x ρ' => exact fun v F' H' s e r => h v F' H' s (ev.trans e) (hrel _ _ _ _ _ r)
  | ex x ρ' => exact fun c d F' H' s e r => h c d F' H' s (ev.trans e) r
  | bad => exact h
theorem Out.mono {r : R α} {Q Q' : β → Hp → Prop} (h : Out K mg E rel σ ρ F H r Q) (hQ : ∀ v H', Q v H' → Q' v H') : Out K mg E rel σ ρ F H r Q' := by
  cases r with
  | ok x ρ' => exact fun v F' H' s e r => hQ _ _ (h v F' H' s e r)
  | ex x ρ' => exact h
  | bad => exact h
end
def relV (K : PySem.W.Frag) (σ : L2.St) : RelT V Val := fun Hb F H ρ v x => VR K σ Hb F H ρ v x
def relL (K : PySem.W.Frag) (σ : L2.St) : RelT (List V) (List Val) := fun Hb F H ρ v x => VRL K σ Hb F H ρ v x
def relB : RelT Bool Bool := fun _ _ _ _ v x => v = x
/-- an expression's reading, by a function of the slots -/
def tD (K : PySem.W.Frag) (mg : Str → Option Value) (W : WX) (f : EM) : TE := fun σ H Q => ∃ F ρ, SR K F H σ ρ ∧ Out K mg (fun c d H => W c d σ H) (relV K σ) σ ρ F H (f ρ) Q
def tT (K : PySem.W.Frag) (mg : Str → Option Value) (W : WX) (f : M Bool) : TT := fun σ H Q => ∃ F ρ, SR K F H σ ρ ∧ Out K mg (fun c d H => W c d σ H) relB σ ρ F H (f ρ) Q
def tA (K : PySem.W.Frag) (mg : Str → Option Value) (W : WX) (f : M (List Val)) : TA := fun σ H Q => ∃ F ρ, SR K F H σ ρ ∧ Out K mg (fun c d H => W c d σ H) (relL K σ) σ ρ F H (f ρ) Q
/-- THE JUDGEMENTS -/
def DE (X : Cx) (E : WX) (e : Expr) (f : EM) : Prop := PE X e (tD X.K X.mg E f)
def DT (X : Cx) (E : WX) (e : Expr) (f : M Bool) : Prop := PT X e (tT X.K X.mg E f)
def DW (X : Cx) (E : WX) (e : Expr) (f : M Bool) : Prop := PW X e (tT X.K X.mg E f)
def DA (X : Cx) (E : WX) (es : List Expr) (f : M (List Val)) : Prop := PA X es (tA X.K X.mg E f)
theorem pe_conseq {X : Cx} {e : Expr} {t t' : TE} (h : PE X e t) (c : ∀ σ H Q, t' σ H Q → t σ H Q) : PE X e t' := ⟨fun pins s σ H Q I q => h.run pins s σ H Q I (c _ _ _ q)⟩
theorem pt_conseq {X : Cx} {e : Expr} {t t' : TT} (h : PT X e t) (c : ∀ σ H Q, t' σ H Q → t σ H Q) : PT X e t' := ⟨fun pins s σ H Q I q => h.run pins s σ H Q I (c _ _ _ q)⟩
theorem pw_conseq {X : Cx} {e : Expr} {t t' : TT} (h : PW X e t) (c : ∀ σ H Q, t' σ H Q → t σ H Q) : PW X e t' := ⟨fun w pins s σ H Q I q => h.run w pins s σ H Q I (c _ _ _ q)⟩
theorem pa_conseq {X : Cx} {es : List Expr} {t t' : TA} (h : PA X es t) (c : ∀ σ H Q, t' σ H Q → t σ H Q) : PA X es t' := ⟨fun pos pins s σ H Q I q => h.run pos pins s σ H Q I (c _ _ _ q)⟩
theorem pe_or2 {X : Cx} {e : Expr} {t u : TE} (h : PE X e t) (h' : PE X e u) : PE X e (fun σ H Q => t σ H Q ∨ u σ H Q) := ⟨fun pins s σ H Q I q => q.elim (h.run pins s σ H Q I) (h'.run pins s σ H Q I)⟩
/-! ### reading a value without freezing it -/
def Slot.peek : Slot → Option D
  | .un => none
  | .d x => some x
  | .ow c _ => some c.toD
def Val.peek (ρ : DEnv) : Val → Option D
  | .d x => some x
  | .fr c => some c.toD
  | .sl i => match ρ[i]? with
    | some s => s.peek
    | none => none
/-- data whose top may lie in H alone -/
def RepT (K : PySem.W.Frag) (F H : Hp) (v : V) : D → Prop
  | .lst ds => ∃ a xs, v = .ref a ∧ H a = some (.lst xs) ∧ RepL K F xs ds
  | .dic ks ds => ∃ a xs, v = .ref a ∧ Rd H a (.dK (ks.zip xs)) ∧ ks.length = xs.length ∧ RepL K F xs ds
  | d => Rep K F v d
section
variable {K : PySem.W.Frag} {σ : L2.St} {ρ : DEnv} {Hb F H : Hp} {v : V}
theorem Rep.top {d : D} (s : Same F H) (h : Rep K F v d) : RepT K F H v d := by
  cases h with
  | lst e r => exact ⟨_, _, rfl, s _ _ e, r⟩
  | dic e l r => exact ⟨_, _, rfl, .inr ⟨_, s _ _ e⟩, l, r⟩
  | non => exact .non
  | bl b => exact .bl b
  | int i => exact .int i
  | str x => exact .str x
  | tup e r => exact .tup e r
  | scr e => exact .scr e
  | ty n => exact .ty n
  | obj e1 e2 e3 l r => exact .obj e1 e2 e3 l r
  | ob0 e1 e2 => exact .ob0 e1 e2
  | pt a => exact .pt a
  | opq a => exact .opq a
  | cch e => exact .cch e
  | ins e1 e2 l r => exact .ins e1 e2 l r
theorem CRep.top {a : Addr} {c : Cont} (h : CRep K F H a c) : RepT K F H (.ref a) c.toD := by
  cases c with
  | lst ds => obtain ⟨vs, e, r⟩ := h; exact ⟨_, _, rfl, e, r⟩
  | dic ks ds => obtain ⟨vs, e, l, r⟩ := h; exact ⟨_, _, rfl, .inl e, l, r⟩
theorem RepT.rep {d : D} (nd : ∀ ks vs, d ≠ .dic ks vs) (s : Same F H) (h : RepT K F H v d) : Rep K H v d := by
  cases d with
  | lst ds => obtain ⟨a, xs, rfl, e, r⟩ := h; exact .lst e (r.mono (.of s))
  | dic ks ds => exact absurd rfl (nd ks ds)
  | non => exact Rep.mono (.of s) h
  | bl _ => exact Rep.mono (.of s) h
  | int _ => exact Rep.mono (.of s) h
  | str _ => exact Rep.mono (.of s) h
  | tup _ => exact Rep.mono (.of s) h
  | set _ => exact Rep.mono (.of s) h
  | scr _ => exact Rep.mono (.of s) h
  | ty _ => exact Rep.mono (.of s) h
  | obj _ _ _ => exact Rep.mono (.of s) h
  | ins _ _ _ => exact Rep.mono (.of s) h
theorem SlotR.peek {s : Slot} {d : D} (sub : Same F H) (h : SlotR K F H (some v) s) (e : s.peek = some d) : RepT K F H v d := by
  cases s with
  | un => cases e
  | d x =>
    cases e
    obtain ⟨u, q, r⟩ := h
    cases q
    exact r.top sub
  | ow c m =>
    cases e
    obtain ⟨a, q, _, r⟩ := h
    cases q
    exact r.top
theorem VR.peek {x : Val} {d : D} (sr : SR K F H σ ρ) (h : VR K σ Hb F H ρ v x) (e : x.peek ρ = some d) : RepT K F H v d := by
  cases x with
  | d x => cases e; exact Rep.top sr.sub h
  | fr c =>
    cases e
    obtain ⟨p, rfl, _, _, r, _⟩ := h
    exact r.top
  | sl i =>
    have h : σ[i]? = some (some v) := h
    unfold Val.peek at e
    dsimp only at e
    cases q : ρ[i]? with
    | none => rw [q] at e; cases e
    | some s =>
      rw [q] at e
      obtain ⟨ov, h1, h2⟩ := sr.slot i s q
      rw [h] at h1
      cases h1
      exact h2.peek sr.sub e
end
/-! ### freezing -/
def Val.fzA (x : Val) (ρ : DEnv) : R Val := match x with
  | .d x => .ok (.d x) ρ
  | .fr c => .ok (.d c.toD) ρ
  | .sl i => match ρ[i]? with
    | some (.d x) => .ok (.d x) ρ
    | some (.ow c .own) => .ok (.d c.toD) (ρ.set i (.d c.toD))
    | _ => .bad
/-- the same for lists alone (a dict is locked when it is frozen: that takes a step of its own) -/
def Val.fz (x : Val) (ρ : DEnv) : R Val := match x with
  | .d x => .ok (.d x) ρ
  | .fr (.lst ds) => .ok (.d (.lst ds)) ρ
  | .fr (.dic _ _) => .bad
  | .sl i => match ρ[i]? with
    | some (.d x) => .ok (.d x) ρ
    | some (.ow (.lst ds) .own) => .ok (.d (.lst ds)) (ρ.set i (.d (.lst ds)))
    | _ => .bad
def fz (f : EM) : EM := fun ρ => (f ρ).bind Val.fzA
end DL
/-! DL2: expressions. -/
namespace DL
open PySem PySem.Spec PyProof.Rows L2
variable [TabT]
theorem ow_set_d {σ : L2.St} {ρ : DEnv} {i : Nat} {x : D} {a : Addr} (h : Ow σ (ρ.set i (.d x)) a) : Ow σ ρ a := by
  obtain ⟨j, c, m, e, q⟩ := h
  by_cases hj : i = j
  · subst hj
    by_cases hl : i < ρ.length
    · rw [List.getElem?_set_self hl] at e; cases e
    · rw [List.getElem?_eq_none (by simpa using hl)] at e; cases e
  · rw [List.getElem?_set_ne hj] at e
    exact ⟨j, c, m, e, q⟩
theorem mt_set_d {σ : L2.St} {ρ : DEnv} {i : Nat} {x : D} {a : Addr} (h : Mt σ (ρ.set i (.d x)) a) : Mt σ ρ a := by
  obtain ⟨j, c, m, e, n, q⟩ := h
  by_cases hj : i = j
  · subst hj
    by_cases hl : i < ρ.length
    · rw [List.getElem?_set_self hl] at e; cases e
    · rw [List.getElem?_eq_none (by simpa using hl)] at e; cases e
  · rw [List.getElem?_set_ne hj] at e
    exact ⟨j, c, m, e, n, q⟩
section
variable {K : PySem.W.Frag} {σ σb : L2.St} {ρ ρb ρ2 : DEnv} {Hb Fb F H : Hp} {v : V} {x y : Val}
theorem froz_ext {p : Addr} {o : HO} (n : F p = none) : Same F (upd F p o) := fun b u q => by rw [upd_ne (ne_of_none q n)]; exact q
theorem fzA_ok (sr : SR K F H σ ρ) (ev : Ev σb ρb Fb Hb σ ρ F H) (h : VR K σ Hb F H ρ v x) (e : x.fzA ρ = .ok y ρ2) :
    (∃ d, y = .d d ∧ ρ2 = ρ ∧ Rep K F v d) ∨ ∃ a c o, v = .ref a ∧ y = .d c.toD ∧ H a = some o ∧ CRep K F H a c ∧
      (∀ o', FrzO c o o' → SR K (upd F a o') (upd H a o') σ ρ2 ∧ Ev σb ρb Fb Hb σ ρ2 (upd F a o') (upd H a o') ∧ Rep K (upd F a o') v c.toD) := by
  have ext : ∀ {a : Addr} {o o' : HO} {c : Cont}, F a = none → Same F (upd F a o') := fun {a o o' c} n => froz_ext n
  have sub : ∀ {a : Addr} {o' : HO}, Same (upd F a o') (upd H a o') := fun {a o'} b u q => by
    by_cases z : b = a
    · subst z; rw [upd_same] at q ⊢; exact q
    · rw [upd_ne z] at q ⊢; exact sr.sub _ _ q
  cases x with
  | d x => cases e; exact .inl ⟨x, rfl, rfl, h⟩
  | fr c =>
    cases e
    obtain ⟨p, rfl, nb, nF, cr, no⟩ := h
    obtain ⟨o, ho⟩ := cr.some
    refine .inr ⟨p, c, o, rfl, rfl, ho, cr, fun o' fo => ⟨⟨sr.len, sub, fun i s q => ?_, sr.dist, sr.tab.frz ho (CRep.kt ho cr) nF⟩, ⟨ev.ext.trans (froz_ext nF), fun b ob q n nt => ?_, fun a q n => ?_, fun b q => ?_, ev.bor, ev.own', ev.mt'⟩, cr.rep (.of (froz_ext nF)) ho upd_same fo⟩⟩
    · obtain ⟨ov, h1, h2⟩ := sr.slot i s q
      refine ⟨ov, h1, ?_⟩
      cases s with
      | un => trivial
      | d z => obtain ⟨u, e1, r⟩ := h2; exact ⟨u, e1, r.mono (.of (froz_ext nF))⟩
      | ow c' m =>
        obtain ⟨a, e1, fa, r⟩ := h2
        have ne : a ≠ p := fun z => no ⟨i, c', m, q, by rw [h1, e1, z]⟩
        exact ⟨a, e1, by rw [upd_ne ne]; exact fa, r.mono (.of (froz_ext nF)) (upd_ne ne)⟩
    · rw [upd_ne (fun z => by rw [z, nb] at q; cases q)]; exact ev.keep b ob q n nt
    · by_cases z : a = p
      · subst z; exact .inl nb
      · rw [upd_ne z] at n; exact ev.newF a q n
    · by_cases z : b = p
      · subst z; rw [upd_same]; simp
      · rw [upd_ne z]; exact ev.dom b q
  | sl i =>
    have h : σ[i]? = some (some v) := h
    unfold Val.fzA at e
    dsimp only at e
    cases q : ρ[i]? with
    | none => rw [q] at e; cases e
    | some s =>
      rw [q] at e
      obtain ⟨ov, h1, h2⟩ := sr.slot i s q
      rw [h] at h1; cases h1
      cases s with
      | un => cases e
      | d z =>
        cases e
        obtain ⟨u, e1, r⟩ := h2
        cases e1
        exact .inl ⟨z, rfl, rfl, r⟩
      | ow c m =>
        cases m with
        | bor => cases e
        | lck => cases e
        | own =>
          cases e
          obtain ⟨a, e1, fa, cr⟩ := h2
          cases e1
          obtain ⟨o, ho⟩ := cr.some
          have hl : i < ρ.length := by
            rcases Nat.lt_or_ge i ρ.length with z | z
            · exact z
            · rw [List.getElem?_eq_none z] at q; cases q
          have mt : Mt σ ρ a := ⟨i, c, .own, q, by decide, h⟩
          refine .inr ⟨a, c, o, rfl, rfl, ho, cr, fun o' fo => ⟨⟨by rw [List.length_set]; exact sr.len, sub, fun j s q' => ?_, fun j k c1 m1 c2 m2 b q1 q2 => ?_, sr.tab.frz ho (CRep.kt ho cr) fa⟩, ⟨ev.ext.trans (froz_ext fa), fun b ob q' n nt => ?_, fun b q' n => ?_, fun b q' => ?_, fun j c1 m1 q' hm => ?_, fun b z => ev.own' b (ow_set_d z), fun b z => ev.mt' b (mt_set_d z)⟩, cr.rep (.of (froz_ext fa)) ho upd_same fo⟩⟩
          · by_cases hj : i = j
            · subst hj
              rw [List.getElem?_set_self hl] at q'; cases q'
              exact ⟨_, h, .ref a, rfl, cr.rep (.of (froz_ext fa)) ho upd_same fo⟩
            · rw [List.getElem?_set_ne hj] at q'
              obtain ⟨ov, h1, h2⟩ := sr.slot j s q'
              refine ⟨ov, h1, ?_⟩
              cases s with
              | un => trivial
              | d z => obtain ⟨u, e1, r⟩ := h2; exact ⟨u, e1, r.mono (.of (froz_ext fa))⟩
              | ow c' m' =>
                obtain ⟨b, e1, fb, r⟩ := h2
                have ne : b ≠ a := fun z => hj (sr.dist i j _ _ _ _ a q q' h (by rw [h1, e1, z]))
                exact ⟨b, e1, by rw [upd_ne ne]; exact fb, r.mono (.of (froz_ext fa)) (upd_ne ne)⟩
          · by_cases hj : i = j
            · subst hj; rw [List.getElem?_set_self hl] at q1; cases q1
            · by_cases hk : i = k
              · subst hk; rw [List.getElem?_set_self hl] at q2; cases q2
              · rw [List.getElem?_set_ne hj] at q1
                rw [List.getElem?_set_ne hk] at q2
                exact sr.dist j k c1 m1 c2 m2 b q1 q2
          · rw [upd_ne (fun z => by
              subst z
              rcases ev.mt' _ mt with z | z
              · rw [z] at q'; cases q'
              · exact n z)]
            exact ev.keep b ob q' n nt
          · by_cases z : b = a
            · subst z; exact ev.own' b ⟨i, c, _, q, h⟩
            · rw [upd_ne z] at n; exact ev.newF b q' n
          · by_cases z : b = a
            · subst z; rw [upd_same]; simp
            · rw [upd_ne z]; exact ev.dom b q'
          · obtain ⟨z1, c3, z2, z3⟩ := ev.bor j c1 m1 q' hm
            refine ⟨z1, c3, ?_, z3⟩
            by_cases hj : i = j
            · subst hj
              rw [q] at z2
              cases z2
              exact absurd rfl hm
            · rw [List.getElem?_set_ne hj]; exact z2
theorem fz_fzA {x y : Val} {ρ ρ2 : DEnv} (e : x.fz ρ = .ok y ρ2) : x.fzA ρ = .ok y ρ2 ∧ ∀ ks ds, y = .d (.dic ks ds) → x = .d (.dic ks ds) ∨ ∃ i, x = .sl i ∧ ρ[i]? = some (.d (.dic ks ds)) := by
  cases x with
  | d x => cases e; exact ⟨rfl, fun ks ds h => by cases h; exact .inl rfl⟩
  | fr c =>
    cases c with
    | lst ds => cases e; exact ⟨rfl, fun ks ds h => by cases h⟩
    | dic ks ds => cases e
  | sl i =>
    unfold Val.fz at e
    unfold Val.fzA
    dsimp only at e ⊢
    split at e
    · rename_i z; rw [z]; cases e; exact ⟨rfl, fun ks ds h => by cases h; exact .inr ⟨i, rfl, z⟩⟩
    · rename_i z; rw [z]; cases e; exact ⟨rfl, fun ks ds h => by cases h⟩
    · cases e
theorem upd_id {H : Hp} {a : Addr} {o : HO} (h : H a = some o) : upd H a o = H := funext fun b => by
  by_cases z : b = a
  · subst z; rw [upd_same, h]
  · rw [upd_ne z]
theorem fz_ok (sr : SR K F H σ ρ) (ev : Ev σb ρb Fb Hb σ ρ F H) (h : VR K σ Hb F H ρ v x) (e : x.fz ρ = .ok y ρ2) :
    ∃ F2 d, y = .d d ∧ SR K F2 H σ ρ2 ∧ Ev σb ρb Fb Hb σ ρ2 F2 H ∧ Rep K F2 v d := by
  obtain ⟨e1, e2⟩ := fz_fzA e
  rcases fzA_ok sr ev h e1 with ⟨d, rfl, rfl, r⟩ | ⟨a, c, o, rfl, rfl, ho, cr, f⟩
  · exact ⟨F, d, rfl, sr, ev, r⟩
  · cases c with
    | lst ds =>
      obtain ⟨s2, ev2, r2⟩ := f o rfl
      rw [upd_id ho] at s2 ev2
      exact ⟨_, _, rfl, s2, ev2, r2⟩
    | dic ks ds =>
      rcases e2 ks ds rfl with rfl | ⟨i, rfl, q⟩
      · cases e; exact ⟨F, _, rfl, sr, ev, h⟩
      · have e3 : (Val.sl i).fz ρ = .ok (.d (.dic ks ds)) ρ := by unfold Val.fz; dsimp only; rw [q]
        rw [e3] at e; cases e
        obtain ⟨ov, h1, h2⟩ := sr.slot i _ q
        have h : σ[i]? = some (some (V.ref a)) := h
        rw [h] at h1; cases h1
        obtain ⟨u, q1, r⟩ := h2
        cases q1
        exact ⟨F, _, rfl, sr, ev, r⟩
end
section
variable {X : Cx} {E : WX} {xk : XK} {a b c e : Expr} {es : List Expr} {f g h : EM} {pos : Pos}
/-- behind an expression a dict may be locked for good -/
theorem pe_lockP {X : Cx} {e : Expr} {t : TE} (h : PE X e t) : PE X e (fun σ H Q => t σ H fun v H1 => Q v H1 ∨ ∃ a kvs, H1 a = some (.dK kvs) ∧ ∀ od, Q v (upd H1 a (.frz od (.dK kvs)))) := by
  refine ⟨fun pins s σ H Q I hq => thn (h.run pins s σ H _ I hq) fun u s1 ⟨x, H1, I1, r, q⟩ => ?_⟩
  rcases q with q | ⟨a, kvs, ha, q⟩
  · exact ⟨x, H1, I1, r, q⟩
  · obtain ⟨od, I2⟩ := I1.lock ha True.intro
    exact ⟨x, _, I2, r, q od⟩
theorem de_fz (H : DE X E e f) : DE X E e (fz f) := by
  refine pe_conseq (pe_lockP H) fun σ H Q hq => ?_
  obtain ⟨F, ρ, sr, q⟩ := hq
  refine ⟨F, ρ, sr, (Out.bind (rel := relV X.K σ) q).mono fun v H1 h1 => ?_⟩
  obtain ⟨x, F1, ρ1, e1, s1, ev1, r1, o1⟩ := h1
  cases hx : x.fzA ρ1 with
  | bad => rw [hx] at o1; exact o1.elim
  | ex z ρ2 =>
    exfalso
    cases x with
    | d x => cases hx
    | fr c => cases hx
    | sl i =>
      unfold Val.fzA at hx
      dsimp only at hx
      split at hx <;> cases hx
  | ok y ρ2 =>
    rw [hx] at o1
    rcases fzA_ok s1 ev1 r1 hx with ⟨d, rfl, rfl, r⟩ | ⟨a, c, o, rfl, rfl, ho, cr, g⟩
    · exact .inl (o1 v F1 H1 s1 ev1 r)
    · cases c with
      | lst ds =>
        obtain ⟨s2, ev2, r2⟩ := g o rfl
        rw [upd_id ho] at s2 ev2
        exact .inl (o1 _ _ H1 s2 ev2 r2)
      | dic ks ds =>
        obtain ⟨vs, e, _⟩ := id cr
        rw [ho] at e; cases e
        refine .inr ⟨a, _, ho, fun od => ?_⟩
        obtain ⟨s2, ev2, r2⟩ := g (.frz od (.dK (ks.zip vs))) ⟨od, rfl⟩
        exact o1 _ _ _ s2 ev2 r2
def eVar (i : Nat) : EM := fun ρ => match ρ[i]? with
  | some (.d x) => .ok (.d x) ρ
  | some (.ow _ _) => .ok (.sl i) ρ
  | _ => .bad
theorem de_var (i : Nat) {x : Str} (hN : X.N[i]? = some x := by rfl) (hv : Vis X.env.scope x := by first | exact Or.inl rfl | exact Or.inr (Or.inl rfl) | exact Or.inr (Or.inr rfl)) (hd : (x == ("__debug__" : Str)) = false := by decide)
    (hcd : (x == ("__classdict__" : Str)) = false := by decide) : DE X E (.Name x pos) (eVar i) := by
  refine pe_conseq (pe_var hN hv hd hcd) fun σ H Q hq => ?_
  obtain ⟨F, ρ, sr, q⟩ := hq
  unfold eVar at q
  cases hs : ρ[i]? with
  | none => rw [hs] at q; exact q.elim
  | some s =>
    rw [hs] at q
    obtain ⟨ov, h1, h2⟩ := sr.slot i s hs
    cases s with
    | un => exact q.elim
    | d x =>
      obtain ⟨v, rfl, r⟩ := h2
      exact ⟨v, h1, q v F H sr .refl r⟩
    | ow c m =>
      obtain ⟨a, rfl, r⟩ := h2
      exact ⟨_, h1, q (.ref a) F H sr .refl h1⟩
def eC (x : D) : EM := fun ρ => .ok (.d x) ρ
theorem de_const {t : TE} {v : V} {x : D} (h : PE X e (tC v)) (r : ∀ F, Rep X.K F v x) : DE X E e (eC x) := by
  refine pe_conseq h fun σ H Q hq => ?_
  obtain ⟨F, ρ, sr, q⟩ := hq
  exact q v F H sr .refl (r F)
theorem de_int {i j} : DE X E (.Constant (.int i) j pos) (eC (.int i)) := de_const (t := tC .non) pe_int fun _ => .int i
theorem de_bl {b j} : DE X E (.Constant (.bool b) j pos) (eC (.bl b)) := de_const (t := tC .non) pe_bl fun _ => .bl b
theorem de_non {j} : DE X E (.Constant .none j pos) (eC .non) := de_const (t := tC .non) pe_non fun _ => .non
theorem de_str {x j} : DE X E (.Constant (.str x) j pos) (eC (.str x)) := de_const (t := tC .non) pe_str fun _ => .str x
/-- a constant of the module -/
theorem de_globI {x : Str} {i : Int} {t : Tok} (hg : Gl X x) (hm : X.mg x = some (.int i t)) (hd : (x == ("__debug__" : Str)) = false := by decide) : DE X E (.Name x pos) (eC (.int i)) := de_const (t := tC .non) (pe_glob (v := .int i) hg hm ⟨t, rfl⟩ hd) fun _ => .int i
theorem de_globS {x : Str} {i : Str} {t : Tok} (hg : Gl X x) (hm : X.mg x = some (.str i t)) (hd : (x == ("__debug__" : Str)) = false := by decide) : DE X E (.Name x pos) (eC (.str i)) := de_const (t := tC .non) (pe_glob (v := .str i) hg hm ⟨t, rfl⟩ hd) fun _ => .str i
/-! ### operations on what is only read -/
/-- a new result -/
def VN (K : PySem.W.Frag) (Hb F H : Hp) (v : V) : Val → Prop
  | .d x => Rep K F v x
  | .fr c => ∃ p, v = .ref p ∧ Hb p = none ∧ F p = none ∧ CRep K F H p c
  | .sl _ => False
def OpS (K : PySem.W.Frag) (r : R2) (op : D → D → Option Val) : Prop :=
  ∀ F H v w a b z Q, Same F H → RepT K F H v a → RepT K F H w b → op a b = some z → (∀ u F' H', Gr F H F' H' → VN K H F' H' u z → Q u H') → r v w H Q
def UnS (K : PySem.W.Frag) (r : V → Hp → VK → Prop) (op : D → Option Val) : Prop :=
  ∀ F H v a z Q, Same F H → RepT K F H v a → op a = some z → (∀ u F' H', Gr F H F' H' → VN K H F' H' u z → Q u H') → r v H Q
def RepTL (K : PySem.W.Frag) (F H : Hp) : List V → List D → Prop := Paired (RepT K F H)
def CallS (K : PySem.W.Frag) (r : List V → Hp → VK → Prop) (op : List D → Option Val) : Prop :=
  ∀ F H vs as z Q, Same F H → RepTL K F H vs as → op as = some z → (∀ u F' H', Gr F H F' H' → VN K H F' H' u z → Q u H') → r vs H Q
def ret1 (o : Option Val) : EM := fun ρ => match o with
  | some z => .ok z ρ
  | none => .bad
def opV (op : D → D → Option Val) (x y : Val) : EM := fun ρ => match x.peek ρ, y.peek ρ with
  | some a, some b => ret1 (op a b) ρ
  | _, _ => .bad
def unV (op : D → Option Val) (x : Val) : EM := fun ρ => match x.peek ρ with
  | some a => ret1 (op a) ρ
  | _ => .bad
def peekL (ρ : DEnv) : List Val → Option (List D)
  | [] => some []
  | x :: xs => match x.peek ρ, peekL ρ xs with
    | some a, some as => some (a :: as)
    | _, _ => none
def callV (op : List D → Option Val) (xs : List Val) : EM := fun ρ => match peekL ρ xs with
  | some as => ret1 (op as) ρ
  | _ => .bad
def eOp (op : D → D → Option Val) (f g : EM) : EM := fun ρ => (f ρ).bind fun x ρ1 => (g ρ1).bind fun y ρ2 => opV op x y ρ2
def eUn (op : D → Option Val) (f : EM) : EM := fun ρ => (f ρ).bind fun x ρ1 => unV op x ρ1
def eCallB (op : List D → Option Val) (f : M (List Val)) : EM := fun ρ => (f ρ).bind fun x ρ1 => callV op x ρ1
section
variable {K : PySem.W.Frag} {mg : Str → Option Value} {σ : L2.St} {ρ : DEnv} {F H : Hp} {v w : V} {x y : Val}
theorem VN.vr {F' H' : Hp} {u : V} {z : Val} (sr : SR K F H σ ρ) (h : VN K H F' H' u z) : VR K σ H F' H' ρ u z := by
  cases z with
  | d x => exact h
  | sl _ => exact h.elim
  | fr c =>
    obtain ⟨p, e, n, nF, cr⟩ := h
    refine ⟨p, e, n, nF, cr, fun ⟨i, c', m, q1, q2⟩ => ?_⟩
    obtain ⟨ov, h1, a, h2, _, cr'⟩ := sr.slot i _ q1
    rw [q2] at h1; cases h1
    cases h2
    obtain ⟨o, ho⟩ := cr'.some
    rw [n] at ho; cases ho
theorem ret1_ok {o : Option Val} {Q : VK} (sr : SR K F H σ ρ) (h : Out K mg xk (relV K σ) σ ρ F H (ret1 o ρ) Q) :
    ∃ z, o = some z ∧ ∀ u F' H', Gr F H F' H' → VN K H F' H' u z → Q u H' := by
  cases o with
  | none => exact h.elim
  | some z => exact ⟨z, rfl, fun u F' H' g vn => h u F' H' (g.sr sr) g.ev (vn.vr sr)⟩
theorem opV_ok {r : R2} {op : D → D → Option Val} {Q : VK} {Hb Hb' : Hp} (s : OpS K r op) (sr : SR K F H σ ρ) (rx : VR K σ Hb F H ρ v x) (ry : VR K σ Hb' F H ρ w y) (h : Out K mg xk (relV K σ) σ ρ F H (opV op x y ρ) Q) : r v w H Q := by
  unfold opV at h
  cases hx : x.peek ρ with
  | none => rw [hx] at h; exact h.elim
  | some a =>
    cases hy : y.peek ρ with
    | none => rw [hx, hy] at h; exact h.elim
    | some b =>
      rw [hx, hy] at h
      obtain ⟨z, e, q⟩ := ret1_ok sr h
      exact s F H v w a b z Q sr.sub (rx.peek sr hx) (ry.peek sr hy) e q
theorem unV_ok {r : V → Hp → VK → Prop} {op : D → Option Val} {Q : VK} {Hb : Hp} (s : UnS K r op) (sr : SR K F H σ ρ) (rx : VR K σ Hb F H ρ v x) (h : Out K mg xk (relV K σ) σ ρ F H (unV op x ρ) Q) : r v H Q := by
  unfold unV at h
  cases hx : x.peek ρ with
  | none => rw [hx] at h; exact h.elim
  | some a =>
    rw [hx] at h
    obtain ⟨z, e, q⟩ := ret1_ok sr h
    exact s F H v a z Q sr.sub (rx.peek sr hx) e q
theorem peekL_ok {Hb : Hp} (sr : SR K F H σ ρ) : ∀ {vs : List V} {xs : List Val} {as : List D}, Paired (VR K σ Hb F H ρ) vs xs → peekL ρ xs = some as → RepTL K F H vs as
  | _, _, _, .nil, e => by cases e; exact .nil
  | _, _, _, .cons (b := x) (l₂ := xs) r t, e => by
    unfold peekL at e
    cases hx : x.peek ρ with
    | none => rw [hx] at e; cases e
    | some a =>
      cases hy : peekL ρ xs with
      | none => rw [hx, hy] at e; cases e
      | some as =>
        rw [hx, hy] at e
        cases e
        exact .cons (r.peek sr hx) (peekL_ok sr t hy)
theorem callV_ok {r : List V → Hp → VK → Prop} {op : List D → Option Val} {Q : VK} {Hb : Hp} {vs : List V} {xs : List Val} (s : CallS K r op) (sr : SR K F H σ ρ) (rx : VRL K σ Hb F H ρ vs xs) (h : Out K mg xk (relV K σ) σ ρ F H (callV op xs ρ) Q) : r vs H Q := by
  unfold callV at h
  cases hx : peekL ρ xs with
  | none => rw [hx] at h; exact h.elim
  | some as =>
    rw [hx] at h
    obtain ⟨z, e, q⟩ := ret1_ok sr h
    exact s F H vs as z Q sr.sub (peekL_ok sr rx.all hx) e q
end
/-- two operands in a row -/
theorem two {r : R2} {op : D → D → Option Val} (s : OpS X.K r op) {σ : L2.St} {H : Hp} {Q : VK} (hq : tD X.K X.mg E (eOp op f g) σ H Q) : tOp r (tD X.K X.mg E f) (tD X.K X.mg E g) σ H Q := by
  obtain ⟨F, ρ, sr, q⟩ := hq
  refine ⟨F, ρ, sr, (Out.bind (rel := relV X.K σ) q).mono fun v H1 ⟨x, F1, ρ1, e1, s1, ev1, r1, o1⟩ => ?_⟩
  refine ⟨F1, ρ1, s1, ?_⟩
  have o2 := o1.from ev1 fun F' H' ρ' v x (h : VR X.K σ H1 F' H' ρ' v x) => VR.base h ev1.dom
  refine (Out.bind (rel := relV X.K σ) o2).mono fun w H2 ⟨y, F2, ρ2, e2, s2, ev2, r2, o3⟩ => ?_
  exact opV_ok s s2 (VR.ev r1 ev2) r2 (o3.from ev2 fun F' H' ρ' v x (h : VR X.K σ H2 F' H' ρ' v x) => VR.base h ev2.dom)
theorem one1 {r : V → Hp → VK → Prop} {op : D → Option Val} (s : UnS X.K r op) {σ : L2.St} {H : Hp} {Q : VK} (hq : tD X.K X.mg E (eUn op f) σ H Q) : tUn r (tD X.K X.mg E f) σ H Q := by
  obtain ⟨F, ρ, sr, q⟩ := hq
  refine ⟨F, ρ, sr, (Out.bind (rel := relV X.K σ) q).mono fun v H1 ⟨x, F1, ρ1, e1, s1, ev1, r1, o1⟩ => ?_⟩
  exact unV_ok s s1 r1 (o1.from ev1 fun F' H' ρ' v x (h : VR X.K σ H1 F' H' ρ' v x) => VR.base h ev1.dom)
theorem de_op {o : Operator} {r : R2} {op : D → D → Option Val} (ho : OpR X (binaryOp o) r) (s : OpS X.K r op) (ha : DE X E a f) (hb : DE X E b g) : DE X E (.BinOp a o b pos) (eOp op f g) :=
  pe_conseq (pe_op ho ha hb) fun _ _ _ => two s
theorem de_cmp {o : CmpOp} {r : R2} {op : D → D → Option Val} (ho : OpR X (compareOp o) r) (s : OpS X.K r op) (ha : DE X E a f) (hb : DE X E b g) (hm : behindInMarks o b = false := by rfl) : DE X E (.Compare a [o] [b] pos) (eOp op f g) :=
  pe_conseq (pe_cmpR ho ha hb hm) fun _ _ _ => two s
theorem de_un {o : UnaryOp} {r : V → Hp → VK → Prop} {op : D → Option Val} (ho : UnR X (unaryOp o) r) (s : UnS X.K r op) (ha : DE X E a f) : DE X E (.UnaryOp o a pos) (eUn op f) :=
  pe_conseq (pe_un ho ha) fun _ _ _ => one1 s
/-! ### tests -/
def bT (x : Val) : M Bool := fun ρ => match x with
  | .d (.bl b) => .ok b ρ
  | _ => .bad
def tst (f : EM) : M Bool := fun ρ => (f ρ).bind bT
theorem bT_ok {K : PySem.W.Frag} {mg : Str → Option Value} {σ : L2.St} {ρ : DEnv} {F H Hb : Hp} {v : V} {x : Val} {Q : Bool → Hp → Prop} (sr : SR K F H σ ρ) (rx : VR K σ Hb F H ρ v x) (h : Out K mg xk relB σ ρ F H (bT x ρ) Q) : ∃ k, v = .bl k ∧ Q k H := by
  cases x with
  | fr c => exact h.elim
  | sl i => exact h.elim
  | d d =>
    cases d with
    | bl b =>
      have rx : Rep K F v (.bl b) := rx
      cases rx
      exact ⟨b, rfl, h b F H sr .refl rfl⟩
    | _ => exact h.elim
theorem tst_ok {σ : L2.St} {H : Hp} {Q : Bool → Hp → Prop} (hq : tT X.K X.mg E (tst f) σ H Q) : tD X.K X.mg E f σ H fun x H' => ∃ k, x = .bl k ∧ Q k H' := by
  obtain ⟨F, ρ, sr, q⟩ := hq
  refine ⟨F, ρ, sr, (Out.bind (rel := relV X.K σ) q).mono fun v H1 ⟨x, F1, ρ1, e1, s1, ev1, r1, o1⟩ => ?_⟩
  exact bT_ok s1 r1 (o1.from ev1 fun F' H' ρ' v x (h : v = x) => h)
theorem dt_cmp {o : CmpOp} {r : R2} {op : D → D → Option Val} (ho : OpR X (compareOp o) r) (s : OpS X.K r op) (ha : DE X E a f) (hb : DE X E b g) (hm : behindInMarks o b = false := by rfl) : DT X E (.Compare a [o] [b] pos) (tst (eOp op f g)) :=
  pt_conseq (pt_cmpR ho ha hb hm) fun σ H Q hq => by
    obtain ⟨F, ρ, sr, q⟩ := tst_ok hq
    exact two s ⟨F, ρ, sr, q⟩
theorem dt_val (ha : DE X E e f) (he : ∀ whole, isTrue e X.env whole = (do let v ← whole; standAt e.pos; holding [v] (truthy v)) := by intro _; rfl) : DT X E e (tst f) :=
  pt_conseq (pt_val ha he) fun _ _ _ => tst_ok
end
end DL
/-! DL3: the operators. -/
namespace DL
open PySem PySem.Spec PyProof.Rows L2
variable [TabT]
/-! ### data as the library's PyData -/
mutual
def D.toPy : D → Option PyData
  | .non => some .none
  | .bl b => some (.bool b)
  | .int i => some (.int i)
  | .str x => some (.str x)
  | .tup xs => (toPyL xs).map .tuple
  | .lst xs => (toPyL xs).map .list
  | .dic _ _ => none
  | .set _ => none
  | .scr _ => none
  | .ty _ => none
  | .obj _ _ _ => none
  | .ins _ _ _ => none
def toPyL : List D → Option (List PyData)
  | [] => some []
  | x :: xs => match D.toPy x, toPyL xs with
    | some p, some ps => some (p :: ps)
    | _, _ => none
end
section
variable {K : PySem.W.Frag} {H : Hp}
mutual
theorem Rep.dp : ∀ {v : V} {d : D} {p : PyData}, Rep K H v d → d.toPy = some p → Dp K H v p
  | _, _, _, .non, e => by simp only [D.toPy] at e; cases e; exact .non
  | _, _, _, .bl b, e => by simp only [D.toPy] at e; cases e; exact .bl b
  | _, _, _, .int i, e => by simp only [D.toPy] at e; cases e; exact .int i
  | _, _, _, .str x, e => by simp only [D.toPy] at e; cases e; exact .str x
  | _, _, _, .lst (ds := ds) h r, e => by
    simp only [D.toPy] at e
    cases q : toPyL ds with
    | none => rw [q] at e; cases e
    | some ps => rw [q] at e; cases e; exact .lst (.of h) (RepL.dp r q)
  | _, _, _, .tup (ds := ds) h r, e => by
    simp only [D.toPy] at e
    cases q : toPyL ds with
    | none => rw [q] at e; cases e
    | some ps => rw [q] at e; cases e; exact .tup h (RepL.dp r q)
  | _, _, _, .dic .., e => by simp only [D.toPy] at e; cases e
  | _, _, _, .scr .., e => by simp only [D.toPy] at e; cases e
theorem RepL.dp : ∀ {vs : List V} {ds : List D} {ps : List PyData}, RepL K H vs ds → toPyL ds = some ps → DpAll K H vs ps
  | _, _, _, .nil, e => by simp only [toPyL] at e; cases e; exact .nil
  | _, _, _, .cons (d := d) (ds := ds) a b, e => by
    simp only [toPyL] at e
    cases q1 : d.toPy with
    | none => rw [q1] at e; cases e
    | some p =>
      cases q2 : toPyL ds with
      | none => rw [q1, q2] at e; cases e
      | some ps => rw [q1, q2] at e; cases e; exact .cons (Rep.dp a q1) (RepL.dp b q2)
end
end
theorem toPy_nd {d : D} {p : PyData} (e : d.toPy = some p) : ∀ ks vs, d ≠ .dic ks vs := fun ks vs z => by subst z; simp only [D.toPy] at e; cases e
/-! ### ==, != -/
def eqD : D → D → Option Bool
  | .int i, .int j => some (decide (i = j))
  | .str x, .str y => some (decide (x = y))
  | .bl x, .bl y => some (x == y)
  | .non, .non => some true
  | .non, .int _ => some false
  | .non, .str _ => some false
  | .non, .bl _ => some false
  | .int _, .non => some false
  | .str _, .non => some false
  | .bl _, .non => some false
  | a, b => match a.toPy, b.toPy with
    | some p, some q => if SeqAt.shaped p = true ∧ SeqAt.shaped q = true then some (PyData.eqv p q) else none
    | _, _ => none
def bV (o : Option Bool) : Option Val := o.map fun b => .d (.bl b)
section
variable {K : PySem.W.Frag} {F H : Hp}
theorem vn_d {Q : VK} {v : V} {x : D} (s : Same F H) (q : ∀ u F' H', Gr F H F' H' → VN K H F' H' u (.d x) → Q u H') (r : Rep K F v x) : Q v H := q v F H (.refl s) r
theorem vn_bl {Q : VK} {b : Bool} (s : Same F H) (q : ∀ u F' H', Gr F H F' H' → VN K H F' H' u (.d (.bl b)) → Q u H') : Q (.bl b) H := vn_d s q (.bl b)
theorem vn_int {Q : VK} {b : Int} (s : Same F H) (q : ∀ u F' H', Gr F H F' H' → VN K H F' H' u (.d (.int b)) → Q u H') : Q (.int b) H := vn_d s q (.int b)
theorem vn_str {Q : VK} {b : Str} (s : Same F H) (q : ∀ u F' H', Gr F H F' H' → VN K H F' H' u (.d (.str b)) → Q u H') : Q (.str b) H := vn_d s q (.str b)
theorem vn_lst {Q : VK} {xs : List V} {ds : List D} (s : Same F H) (q : ∀ u F' H', Gr F H F' H' → VN K H F' H' u (.fr (.lst ds)) → Q u H') (r : RepL K F xs ds) {p : Addr} (n : H p = none) : Q (.ref p) (upd H p (.lst xs)) :=
  q (.ref p) F _ (.fresh s n) ⟨p, rfl, n, Same.free s n, xs, upd_same, r⟩
theorem vn_tup {Q : VK} {xs : List V} {ds : List D} (s : Same F H) (q : ∀ u F' H', Gr F H F' H' → VN K H F' H' u (.d (.tup ds)) → Q u H') (r : RepL K F xs ds) {p : Addr} (n : H p = none) : Q (.ref p) (upd H p (.tup xs)) :=
  q (.ref p) (upd F p (.tup xs)) _ (.froz s n) (.tup (.of upd_same) (r.mono (.of (froz_ext (Same.free s n)))))
theorem RepT.int {v : V} {i : Int} (h : RepT K F H v (.int i)) : v = .int i := by
  have h : Rep K F v (.int i) := h
  cases h; rfl
theorem RepT.str {v : V} {i : Str} (h : RepT K F H v (.str i)) : v = .str i := by
  have h : Rep K F v (.str i) := h
  cases h; rfl
theorem RepT.bl {v : V} {i : Bool} (h : RepT K F H v (.bl i)) : v = .bl i := by
  have h : Rep K F v (.bl i) := h
  cases h; rfl
theorem RepT.non {v : V} (h : RepT K F H v .non) : v = .non := by
  have h : Rep K F v .non := h
  cases h; rfl
theorem RepT.lst {v : V} {ds : List D} (h : RepT K F H v (.lst ds)) : ∃ a xs, v = .ref a ∧ H a = some (.lst xs) ∧ RepL K F xs ds := h
theorem RepT.tup {v : V} {ds : List D} (s : Same F H) (h : RepT K F H v (.tup ds)) : ∃ a xs, v = .ref a ∧ SqT K H a xs ∧ RepL K F xs ds := by
  have h : Rep K F v (.tup ds) := h
  cases h with
  | tup e r => exact ⟨_, _, rfl, (RdLe.of s).sqT e, r⟩
theorem RepT.scr {v : V} {ns : List Int} (s : Same F H) (h : RepT K F H v (.scr ns)) : ∃ a, v = .ref a ∧ SqL K H a (ns.map V.int) := by
  have h : Rep K F v (.scr ns) := h
  cases h with
  | scr e => exact ⟨_, rfl, (RdLe.of s).sqL e⟩
def rEqA (K : PySem.W.Frag) : R2 := fun x y H Q => rEq x y H Q ∨ rEqD K x y H Q
def rNeA (K : PySem.W.Frag) : R2 := fun x y H Q => rNe x y H Q ∨ rNeD K x y H Q
theorem eqD_sound {F H : Hp} {v w : V} {a b : D} {k : Bool} (s : Same F H) (ra : RepT K F H v a) (rb : RepT K F H w b) (e : eqD a b = some k) :
    (scal v w = true ∧ decide (v = w) = k) ∨ ∃ p q, Dp K H v p ∧ Dp K H w q ∧ SeqAt.shaped p = true ∧ SeqAt.shaped q = true ∧ PyData.eqv p q = k := by
  have gen : (∃ p q, a.toPy = some p ∧ b.toPy = some q ∧ SeqAt.shaped p = true ∧ SeqAt.shaped q = true ∧ PyData.eqv p q = k) → ∃ p q, Dp K H v p ∧ Dp K H w q ∧ SeqAt.shaped p = true ∧ SeqAt.shaped q = true ∧ PyData.eqv p q = k := fun ⟨p, q, e1, e2, z⟩ =>
    ⟨p, q, (ra.rep (toPy_nd e1) s).dp e1, (rb.rep (toPy_nd e2) s).dp e2, z⟩
  unfold eqD at e
  split at e
  · obtain rfl := ra.int; obtain rfl := rb.int; cases e
    exact .inl ⟨rfl, by simp⟩
  · obtain rfl := ra.str; obtain rfl := rb.str; cases e
    exact .inl ⟨rfl, by simp⟩
  · obtain rfl := ra.bl; obtain rfl := rb.bl; cases e
    refine .inl ⟨rfl, ?_⟩
    rw [dec_bl]
  · obtain rfl := ra.non; obtain rfl := rb.non; cases e; exact .inl ⟨rfl, by decide⟩
  · obtain rfl := ra.non; obtain rfl := rb.int; cases e; exact .inl ⟨rfl, by simp⟩
  · obtain rfl := ra.non; obtain rfl := rb.str; cases e; exact .inl ⟨rfl, by simp⟩
  · obtain rfl := ra.non; obtain rfl := rb.bl; cases e; exact .inl ⟨rfl, by simp⟩
  · obtain rfl := ra.int; obtain rfl := rb.non; cases e; exact .inl ⟨rfl, by simp⟩
  · obtain rfl := ra.str; obtain rfl := rb.non; cases e; exact .inl ⟨rfl, by simp⟩
  · obtain rfl := ra.bl; obtain rfl := rb.non; cases e; exact .inl ⟨rfl, by simp⟩
  · refine .inr (gen ?_)
    split at e
    · rename_i p q e1 e2
      split at e
      · rename_i z; cases e; exact ⟨p, q, e1, e2, z.1, z.2, rfl⟩
      · cases e
    · cases e
theorem os_eq : OpS K (rEqA K) (fun a b => bV (eqD a b)) := by
  intro F H v w a b z Q s ra rb e q
  dsimp only at e
  cases h : eqD a b with
  | none => rw [h] at e; cases e
  | some k =>
    rw [h] at e; cases e
    rcases eqD_sound s ra rb h with ⟨h1, rfl⟩ | ⟨p, r, h1, h2, h3, h4, rfl⟩
    · exact .inl ⟨h1, vn_bl s q⟩
    · exact .inr ⟨p, r, h1, h2, h3, h4, vn_bl s q⟩
theorem os_ne : OpS K (rNeA K) (fun a b => bV ((eqD a b).map (!·))) := by
  intro F H v w a b z Q s ra rb e q
  dsimp only at e
  cases h : eqD a b with
  | none => rw [h] at e; cases e
  | some k =>
    rw [h] at e; cases e
    rcases eqD_sound s ra rb h with ⟨h1, rfl⟩ | ⟨p, r, h1, h2, h3, h4, rfl⟩
    · exact .inl ⟨h1, vn_bl s q⟩
    · exact .inr ⟨p, r, h1, h2, h3, h4, vn_bl s q⟩
/-! ### ints -/
def intV (g : Int → Int → Option Int) : D → D → Option Val
  | .int i, .int j => (g i j).map fun k => .d (.int k)
  | _, _ => none
theorem os_int {C : Int → Int → Prop} {g : Int → Int → Int} {o : Int → Int → Option Int} (h : ∀ i j k, o i j = some k → C i j ∧ g i j = k) : OpS K (rI C fun i j => .int (g i j)) (intV o) := by
  intro F H v w a b z Q s ra rb e q
  unfold intV at e
  split at e
  · rename_i i j
    obtain rfl := ra.int; obtain rfl := rb.int
    cases h1 : o i j with
    | none => rw [h1] at e; cases e
    | some k =>
      rw [h1] at e; cases e
      obtain ⟨c, rfl⟩ := h i j k h1
      exact ⟨i, j, rfl, rfl, c, vn_int s q⟩
  · cases e
theorem os_int0 {g : Int → Int → Int} : OpS K (rI0 fun i j => .int (g i j)) (intV fun i j => some (g i j)) := by
  intro F H v w a b z Q s ra rb e q
  unfold intV at e
  split at e
  · obtain rfl := ra.int; obtain rfl := rb.int
    cases e
    exact ⟨_, _, rfl, rfl, vn_int s q⟩
  · cases e
def cmpV (g : Int → Int → Bool) : D → D → Option Val
  | .int i, .int j => some (.d (.bl (g i j)))
  | _, _ => none
theorem os_cmp0 {g : Int → Int → Bool} : OpS K (rI0 fun i j => .bl (g i j)) (cmpV g) := by
  intro F H v w a b z Q s ra rb e q
  unfold cmpV at e
  split at e
  · obtain rfl := ra.int; obtain rfl := rb.int
    cases e
    exact ⟨_, _, rfl, rfl, vn_bl s q⟩
  · cases e
def mulI (i j : Int) : Option Int := if (-(2 ^ 64) < i ∧ i < 2 ^ 64) ∨ (-(2 ^ 64) < j ∧ j < 2 ^ 64) ∨ i.natAbs.log2 + j.natAbs.log2 < 1000000 then some (i * j) else none
def divI (i j : Int) : Option Int := if 0 < j ∧ j.natAbs.log2 < 9000 then some (i / j) else none
def modI (i j : Int) : Option Int := if 0 < j then some (i % j) else none
def CMulA (i j : Int) : Prop := (-(2 ^ 64) < i ∧ i < 2 ^ 64) ∨ (-(2 ^ 64) < j ∧ j < 2 ^ 64) ∨ i.natAbs.log2 + j.natAbs.log2 < 1000000
theorem CMulA.ok {i j : Int} (h : CMulA i j) : IntMulOk i j := by
  rcases h with h | h | h
  · exact CMul.ok (.inl h)
  · exact CMul.ok (.inr h)
  · exact CMulW.ok h
/-- union of readings -/
def rU2 (r r' : R2) : R2 := fun x y H Q => r x y H Q ∨ r' x y H Q
theorem os_or {r r' : R2} {op op' : D → D → Option Val} (h : OpS K r op) (h' : OpS K r' op') : OpS K (rU2 r r') (fun a b => match op a b with | some z => some z | none => op' a b) := by
  intro F H v w a b z Q s ra rb e q
  dsimp only at e
  cases hz : op a b with
  | some y => rw [hz] at e; cases e; exact .inl (h F H v w a b _ Q s ra rb hz q)
  | none => rw [hz] at e; exact .inr (h' F H v w a b _ Q s ra rb e q)
def addS : D → D → Option Val
  | .str x, .str y => if x.length + y.length ≤ sizeLine then some (.d (.str (x ++ y))) else none
  | _, _ => none
theorem os_addS : OpS K (fun x y H Q => ∃ i j, x = .str i ∧ y = .str j ∧ i.length + j.length ≤ sizeLine ∧ Q (.str (i ++ j)) H) addS := by
  intro F H v w a b z Q s ra rb e q
  unfold addS at e
  split at e
  · obtain rfl := ra.str; obtain rfl := rb.str
    split at e
    · rename_i h; cases e; exact ⟨_, _, rfl, rfl, h, vn_str s q⟩
    · cases e
  · cases e
def addL : D → D → Option Val
  | .lst xs, .lst ys => if xs.length + ys.length ≤ sizeLine then some (.fr (.lst (xs ++ ys))) else none
  | _, _ => none
theorem os_addL : OpS K rCat addL := by
  intro F H v w a b z Q s ra rb e q
  unfold addL at e
  split at e
  · obtain ⟨l, xs, rfl, hl, r⟩ := ra.lst
    obtain ⟨l', ys, rfl, hl', r'⟩ := rb.lst
    split at e
    · rename_i h; cases e
      exact ⟨l, l', xs, ys, rfl, rfl, hl, hl', by rw [r.length, r'.length]; exact h, fun p n => vn_lst s q (r.app r') n⟩
    · cases e
  · cases e
def addT : D → D → Option Val
  | .tup xs, .tup ys => if xs.length + ys.length ≤ sizeLine then some (.d (.tup (xs ++ ys))) else none
  | _, _ => none
theorem os_addT : OpS K (rCatA K) addT := by
  intro F H v w a b z Q s ra rb e q
  unfold addT at e
  split at e
  · have ra' : Rep K F v (.tup _) := ra
    have rb' : Rep K F w (.tup _) := rb
    obtain ⟨l, xs, rfl, hl, r⟩ := ra.tup s
    obtain ⟨l', ys, rfl, hl', r'⟩ := rb.tup s
    split at e
    · rename_i h; cases e
      refine ⟨l, l', xs, ys, rfl, rfl, hl, hl', by rw [r.length, r'.length]; exact h, fun e1 => ?_, fun _ e1 => ?_, fun _ _ p n => vn_tup s q (r.app r') n⟩
      · subst e1
        cases r
        exact vn_d s q rb'
      · subst e1
        cases r'
        rw [List.append_nil] at q
        exact vn_d s q ra'
    · cases e
  · cases e
def repL : D → D → Option Val
  | .lst xs, .int k => if -(2 ^ 63) ≤ k ∧ k < 2 ^ 63 ∧ xs.length * k.toNat ≤ sizeLine then some (.fr (.lst (List.replicate k.toNat xs).flatten)) else none
  | _, _ => none
theorem os_repL : OpS K rRep repL := by
  intro F H v w a b z Q s ra rb e q
  unfold repL at e
  split at e
  · obtain ⟨l, xs, rfl, hl, r⟩ := ra.lst
    obtain rfl := rb.int
    split at e
    · rename_i h; cases e
      exact ⟨l, _, xs, rfl, rfl, hl, h.1, h.2.1, by rw [r.length]; exact h.2.2, fun p n => vn_lst s q (r.flatten _) n⟩
    · cases e
  · cases e
def addD : D → D → Option Val := fun a b => match intV (fun i j => some (i + j)) a b with | some z => some z | none => match addS a b with | some z => some z | none => match addL a b with | some z => some z | none => addT a b
def subD : D → D → Option Val := intV fun i j => some (i - j)
def mulD : D → D → Option Val := fun a b => match intV mulI a b with | some z => some z | none => repL a b
def divD : D → D → Option Val := intV divI
def modD : D → D → Option Val := intV modI
end
section
variable {X : Cx}
theorem opr_u {f : Value → Value → Sem Value} {r r' : R2} (h : OpR X f r) (h' : OpR X f r') : OpR X f (rU2 r r') := OpR.or h h'
theorem op_mulA : OpR X (binaryOp .Mult) (rI CMulA fun i j => .int (i * j)) := opI fun _ _ _ _ _ _ _ hc q => mul_int q hc.ok
variable {E : WX} {a b c e : Expr} {f g : EM} {pos : Pos}
theorem de_add (ha : DE X E a f) (hb : DE X E b g) : DE X E (.BinOp a .Add b pos) (eOp addD f g) :=
  de_op (opr_u op_add (opr_u op_add_str (opr_u op_cat op_catA))) (os_or os_int0 (os_or os_addS (os_or os_addL os_addT))) ha hb
theorem de_sub (ha : DE X E a f) (hb : DE X E b g) : DE X E (.BinOp a .Sub b pos) (eOp subD f g) := de_op op_sub os_int0 ha hb
theorem de_mul (ha : DE X E a f) (hb : DE X E b g) : DE X E (.BinOp a .Mult b pos) (eOp mulD f g) :=
  de_op (opr_u op_mulA op_rep) (os_or (os_int fun i j k h => by
    unfold mulI at h
    split at h
    · rename_i z; cases h; exact ⟨z, rfl⟩
    · cases h) os_repL) ha hb
theorem de_div (ha : DE X E a f) (hb : DE X E b g) : DE X E (.BinOp a .FloorDiv b pos) (eOp divD f g) :=
  de_op op_fdivW (os_int fun i j k h => by
    unfold divI at h
    split at h
    · rename_i z; cases h; exact ⟨z, rfl⟩
    · cases h) ha hb
theorem de_mod (ha : DE X E a f) (hb : DE X E b g) : DE X E (.BinOp a .Mod b pos) (eOp modD f g) :=
  de_op op_mod (os_int fun i j k h => by
    unfold modI at h
    split at h
    · rename_i z; cases h; exact ⟨z, rfl⟩
    · cases h) ha hb
def ltD : D → D → Option Val := cmpV fun i j => decide (i < j)
def leD : D → D → Option Val := cmpV fun i j => decide (i ≤ j)
def gtD : D → D → Option Val := cmpV fun i j => decide (j < i)
def geD : D → D → Option Val := cmpV fun i j => decide (j ≤ i)
def eqV' : D → D → Option Val := fun a b => bV (eqD a b)
def neV' : D → D → Option Val := fun a b => bV ((eqD a b).map (!·))
theorem de_ge (ha : DE X E a f) (hb : DE X E b g) : DE X E (.Compare a [.GtE] [b] pos) (eOp geD f g) := de_cmp op_ge os_cmp0 ha hb (nomark _)
theorem dt_lt (ha : DE X E a f) (hb : DE X E b g) : DT X E (.Compare a [.Lt] [b] pos) (tst (eOp ltD f g)) := dt_cmp op_lt os_cmp0 ha hb (nomark _)
theorem dt_gt (ha : DE X E a f) (hb : DE X E b g) : DT X E (.Compare a [.Gt] [b] pos) (tst (eOp gtD f g)) := dt_cmp op_gt os_cmp0 ha hb (nomark _)
theorem opr_eq (hu : X.A.units + 64 < cLine) : OpR X (compareOp .Eq) (rEqA X.K) := OpR.or op_eq (op_eqD hu)
theorem opr_ne (hu : X.A.units + 64 < cLine) : OpR X (compareOp .NotEq) (rNeA X.K) := OpR.or op_ne (op_neD hu)
theorem de_eq (hu : X.A.units + 64 < cLine) (ha : DE X E a f) (hb : DE X E b g) : DE X E (.Compare a [.Eq] [b] pos) (eOp eqV' f g) := de_cmp (opr_eq hu) os_eq ha hb (nomark _)
theorem dt_eq (hu : X.A.units + 64 < cLine) (ha : DE X E a f) (hb : DE X E b g) : DT X E (.Compare a [.Eq] [b] pos) (tst (eOp eqV' f g)) := dt_cmp (opr_eq hu) os_eq ha hb (nomark _)
theorem dt_ne (hu : X.A.units + 64 < cLine) (ha : DE X E a f) (hb : DE X E b g) : DT X E (.Compare a [.NotEq] [b] pos) (tst (eOp neV' f g)) := dt_cmp (opr_ne hu) os_ne ha hb (nomark _)
end
end DL
/-! DL4: more expressions: powers, truth, chains, subscripts, displays. -/
namespace DL
open PySem PySem.Spec PyProof.Rows L2
variable [TabT]
/-! ### powers, signs -/
def powI (i j : Int) : Option Int := if 0 ≤ j ∧ (i.natAbs.log2 + 1) * j.toNat ≤ 1000000 then some (i ^ j.toNat) else none
def CPowA (i j : Int) : Prop := 0 ≤ j ∧ (i.natAbs.log2 + 1) * j.toNat ≤ 1000000
section
variable {X : Cx} {E : WX} {xk : XK} {a b c e : Expr} {es : List Expr} {f g h : EM} {t u : M Bool} {pos : Pos}
theorem op_powA : OpR X (binaryOp .Pow) (rI CPowA fun i j => .int (i ^ j.toNat)) := opI fun i j _ _ _ _ _ hc q => pow_int hc.1 (by
  have h2 := hc.2
  have hb : Builtin.Int.intBits i ≤ i.natAbs.log2 + 1 := by
    unfold Builtin.Int.intBits
    split <;> omega
  have h0 := hc.1
  obtain ⟨n, rfl⟩ : ∃ n : Nat, j = n := ⟨j.toNat, by omega⟩
  rw [Int.toNat_natCast] at h2
  have h5 : Builtin.Int.intBits i * n ≤ (i.natAbs.log2 + 1) * n := Nat.mul_le_mul_right _ hb
  have h6 : (((Builtin.Int.intBits i : Nat) : Int) * (n : Int)) = ((Builtin.Int.intBits i * n : Nat) : Int) := by rw [Int.natCast_mul]
  rw [h6]
  have h7 : ((2 : Int) ^ 27) = 134217728 := by decide
  omega) q
def powD : D → D → Option Val := intV powI
theorem de_pow (ha : DE X E a f) (hb : DE X E b g) : DE X E (.BinOp a .Pow b pos) (eOp powD f g) :=
  de_op op_powA (os_int fun i j k h => by
    unfold powI at h
    split at h
    · rename_i z; cases h; exact ⟨z, rfl⟩
    · cases h) ha hb
def negD : D → Option Val
  | .int i => some (.d (.int (-i)))
  | _ => none
theorem de_neg (ha : DE X E a f) : DE X E (.UnaryOp .USub a pos) (eUn negD f) := de_un un_neg (by
  intro F H v a z Q s ra e q
  unfold negD at e
  split at e
  · obtain rfl := ra.int
    cases e
    exact ⟨_, rfl, vn_int s q⟩
  · cases e) ha
/-! ### and, or, not, if-else -/
def tAndM (t u : M Bool) : M Bool := fun ρ => (t ρ).bind fun b ρ1 => if b = true then u ρ1 else .ok false ρ1
def tOrM (t u : M Bool) : M Bool := fun ρ => (t ρ).bind fun b ρ1 => if b = true then .ok true ρ1 else u ρ1
def tNotM (t : M Bool) : M Bool := fun ρ => (t ρ).bind fun b ρ1 => .ok (!b) ρ1
theorem dw_and1 (ha : DT X E a t) : DW X E (.BoolOp .And [a] pos) t := pw_and1 ha
theorem dw_or1 (ha : DT X E a t) : DW X E (.BoolOp .Or [a] pos) t := pw_or1 ha
theorem DW.dt (h : DW X E e t) : DT X E e t := PW.pt h
theorem dw_and (ha : DT X E a t) (hb : DW X E (.BoolOp .And (b :: es) pos) u) : DW X E (.BoolOp .And (a :: b :: es) pos) (tAndM t u) :=
  pw_conseq (pw_and ha hb) fun σ H Q hq => by
    obtain ⟨F, ρ, sr, q⟩ := hq
    refine ⟨F, ρ, sr, (Out.bind (rel := relB) q).mono fun v H1 ⟨x, F1, ρ1, e1, s1, ev1, r1, o1⟩ => ?_⟩
    have r1 : v = x := r1
    subst r1
    have o2 := o1.from ev1 fun _ _ _ _ _ h => h
    cases v with
    | true => exact ⟨F1, ρ1, s1, o2⟩
    | false => exact o2 false F1 H1 s1 .refl rfl
theorem dw_or (ha : DT X E a t) (hb : DW X E (.BoolOp .Or (b :: es) pos) u) : DW X E (.BoolOp .Or (a :: b :: es) pos) (tOrM t u) :=
  pw_conseq (pw_or ha hb) fun σ H Q hq => by
    obtain ⟨F, ρ, sr, q⟩ := hq
    refine ⟨F, ρ, sr, (Out.bind (rel := relB) q).mono fun v H1 ⟨x, F1, ρ1, e1, s1, ev1, r1, o1⟩ => ?_⟩
    have r1 : v = x := r1
    subst r1
    have o2 := o1.from ev1 fun _ _ _ _ _ h => h
    cases v with
    | false => exact ⟨F1, ρ1, s1, o2⟩
    | true => exact o2 true F1 H1 s1 .refl rfl
theorem dt_not (ha : DT X E a t) : DT X E (.UnaryOp .Not a pos) (tNotM t) :=
  pt_conseq (pt_not ha) fun σ H Q hq => by
    obtain ⟨F, ρ, sr, q⟩ := hq
    refine ⟨F, ρ, sr, (Out.bind (rel := relB) q).mono fun v H1 ⟨x, F1, ρ1, e1, s1, ev1, r1, o1⟩ => ?_⟩
    have r1 : v = x := r1
    subst r1
    exact (o1.from ev1 fun _ _ _ _ _ h => h) _ F1 H1 s1 .refl rfl
def eAnd (f g : EM) : EM := fun ρ => (f ρ).bind fun x ρ1 => match x with
  | .d (.bl true) => g ρ1
  | .d (.bl false) => .ok (.d (.bl false)) ρ1
  | _ => .bad
def eOr (f g : EM) : EM := fun ρ => (f ρ).bind fun x ρ1 => match x with
  | .d (.bl false) => g ρ1
  | .d (.bl true) => .ok (.d (.bl true)) ρ1
  | _ => .bad
def eNot (f : EM) : EM := fun ρ => (f ρ).bind fun x ρ1 => match x with
  | .d (.bl b) => .ok (.d (.bl (!b))) ρ1
  | _ => .bad
theorem vr_bl {K : PySem.W.Frag} {σ : L2.St} {Hb F H : Hp} {ρ : DEnv} {v : V} {b : Bool} (h : VR K σ Hb F H ρ v (.d (.bl b))) : v = .bl b := by
  have h : Rep K F v (.bl b) := h
  cases h; rfl
theorem vr_int {K : PySem.W.Frag} {σ : L2.St} {Hb F H : Hp} {ρ : DEnv} {v : V} {b : Int} (h : VR K σ Hb F H ρ v (.d (.int b))) : v = .int b := by
  have h : Rep K F v (.int b) := h
  cases h; rfl
theorem vr_str {K : PySem.W.Frag} {σ : L2.St} {Hb F H : Hp} {ρ : DEnv} {v : V} {b : Str} (h : VR K σ Hb F H ρ v (.d (.str b))) : v = .str b := by
  have h : Rep K F v (.str b) := h
  cases h; rfl
theorem relV_from {K : PySem.W.Frag} {σ : L2.St} {ρ ρ1 : DEnv} {F H F1 H1 : Hp} (ev : Ev σ ρ F H σ ρ1 F1 H1) : ∀ F' H' ρ' v x, relV K σ H1 F' H' ρ' v x → relV K σ H F' H' ρ' v x := fun _ _ _ _ _ h => VR.base h ev.dom
theorem de_one {o} (ha : DE X E a f) : DE X E (.BoolOp o [a] pos) f := pe_one ha
theorem de_and (ha : DE X E a f) (hb : DE X E (.BoolOp .And (b :: es) pos) g) : DE X E (.BoolOp .And (a :: b :: es) pos) (eAnd f g) :=
  pe_conseq (pe_and ha hb) fun σ H Q hq => by
    obtain ⟨F, ρ, sr, q⟩ := hq
    refine ⟨F, ρ, sr, (Out.bind (rel := relV X.K σ) q).mono fun v H1 ⟨x, F1, ρ1, e1, s1, ev1, r1, o1⟩ => ?_⟩
    have o2 := o1.from ev1 (relV_from ev1)
    split at o2
    · obtain rfl := vr_bl r1
      exact ⟨true, rfl, F1, ρ1, s1, o2⟩
    · obtain rfl := vr_bl r1
      exact ⟨false, rfl, o2 (.bl false) F1 H1 s1 .refl (Rep.bl false)⟩
    · exact o2.elim
theorem de_not (ha : DE X E a f) : DE X E (.UnaryOp .Not a pos) (eNot f) :=
  pe_conseq (pe_not ha) fun σ H Q hq => by
    obtain ⟨F, ρ, sr, q⟩ := hq
    refine ⟨F, ρ, sr, (Out.bind (rel := relV X.K σ) q).mono fun v H1 ⟨x, F1, ρ1, e1, s1, ev1, r1, o1⟩ => ?_⟩
    have o2 := o1.from ev1 (relV_from ev1)
    split at o2
    · rename_i b
      obtain rfl := vr_bl r1
      exact ⟨b, rfl, o2 (.bl (!b)) F1 H1 s1 .refl (Rep.bl _)⟩
    · exact o2.elim
def eIf (t : M Bool) (f g : EM) : EM := fun ρ => (t ρ).bind fun b ρ1 => if b = true then f ρ1 else g ρ1
theorem de_if {c : Expr} (hc : DT X E c t) (ha : DE X E a f) (hb : DE X E b g) : DE X E (.IfExp c a b pos) (eIf t f g) :=
  pe_conseq (pe_ifExp hc ha hb) fun σ H Q hq => by
    obtain ⟨F, ρ, sr, q⟩ := hq
    refine ⟨F, ρ, sr, (Out.bind (rel := relB) q).mono fun v H1 ⟨x, F1, ρ1, e1, s1, ev1, r1, o1⟩ => ?_⟩
    have r1 : v = x := r1
    subst r1
    have o2 := o1.from ev1 (relV_from ev1)
    cases v with
    | true => exact ⟨F1, ρ1, s1, o2⟩
    | false => exact ⟨F1, ρ1, s1, o2⟩
/-! ### None -/
def isNonV : Val → Bool
  | .d .non => true
  | _ => false
def eIsN (f : EM) : EM := fun ρ => (f ρ).bind fun x ρ1 => match x with
  | .sl _ => .bad
  | x => .ok (.d (.bl (isNonV x))) ρ1
def eNotN (f : EM) : EM := fun ρ => (f ρ).bind fun x ρ1 => match x with
  | .sl _ => .bad
  | x => .ok (.d (.bl (!isNonV x))) ρ1
theorem isNon_ok {K : PySem.W.Frag} {σ : L2.St} {Hb F H : Hp} {ρ : DEnv} {v : V} {x : Val} (h : VR K σ Hb F H ρ v x) (n : ∀ i, x ≠ .sl i) : decide (v = .non) = isNonV x := by
  cases x with
  | sl i => exact absurd rfl (n i)
  | fr c => obtain ⟨p, rfl, _⟩ := h; rfl
  | d x =>
    have h : Rep K F v x := h
    cases h <;> rfl
/-! ### chains -/
def eChain (op op' : D → D → Option Val) (f g h : EM) : EM := fun ρ => (f ρ).bind fun x ρ1 => (g ρ1).bind fun y ρ2 => (opV op x y ρ2).bind fun z ρ3 => match z with
  | .d (.bl true) => (h ρ3).bind fun w ρ4 => opV op' y w ρ4
  | .d (.bl false) => .ok (.d (.bl false)) ρ3
  | _ => .bad
theorem opV_ok' {K : PySem.W.Frag} {mg : Str → Option Value} {σ : L2.St} {ρ : DEnv} {F H Hb Hb' : Hp} {v w : V} {x y : Val} {γ δ : Type} {rel2 : RelT δ γ} {k : Val → DEnv → R γ} {Q2 : δ → Hp → Prop} {r : R2} {op : D → D → Option Val} (s : OpS K r op) (sr : SR K F H σ ρ) (rx : VR K σ Hb F H ρ v x) (ry : VR K σ Hb' F H ρ w y)
    (h : Out K mg xk rel2 σ ρ F H ((opV op x y ρ).bind k) Q2) :
    r v w H (fun u H1 => ∃ z F1 ρ1, SR K F1 H1 σ ρ1 ∧ Ev σ ρ F H σ ρ1 F1 H1 ∧ VR K σ H F1 H1 ρ1 u z ∧ Out K mg xk rel2 σ ρ F H (k z ρ1) Q2) := by
  refine opV_ok s sr rx ry ((Out.bind (rel := relV K σ) h).mono fun u H1 ⟨z, F1, ρ1, e1, s1, ev1, r1, o1⟩ => ⟨z, F1, ρ1, s1, ev1, r1, o1⟩)
theorem chain_ok {r r' : R2} {op op' : D → D → Option Val} (s : OpS X.K r op) (s' : OpS X.K r' op') {σ : L2.St} {H : Hp} {Q : VK} (hq : tD X.K X.mg E (eChain op op' f g h) σ H Q) : tChain r r' (tD X.K X.mg E f) (tD X.K X.mg E g) (tD X.K X.mg E h) σ H Q := by
  obtain ⟨F, ρ, sr, q⟩ := hq
  refine ⟨F, ρ, sr, (Out.bind (rel := relV X.K σ) q).mono fun v H1 ⟨x, F1, ρ1, e1, s1, ev1, r1, o1⟩ => ?_⟩
  refine ⟨F1, ρ1, s1, (Out.bind (rel := relV X.K σ) (o1.from ev1 (relV_from ev1))).mono fun w H2 ⟨y, F2, ρ2, e2, s2, ev2, r2, o2⟩ => ?_⟩
  have h3 := opV_ok' s s2 (VR.ev r1 ev2) r2 (o2.from ev2 (relV_from ev2))
  refine opV_ok s s2 (VR.ev r1 ev2) r2 ((Out.bind (rel := relV X.K σ) (o2.from ev2 (relV_from ev2))).mono fun u H3 ⟨z, F3, ρ3, e3, s3, ev3, r3, o3⟩ => ?_)
  have o4 := o3.from ev3 (relV_from ev3)
  split at o4
  · obtain rfl := vr_bl r3
    refine ⟨true, rfl, ?_⟩
    rw [if_pos rfl]
    refine ⟨F3, ρ3, s3, (Out.bind (rel := relV X.K σ) o4).mono fun w' H4 ⟨z', F4, ρ4, e4, s4, ev4, r4, o5⟩ => ?_⟩
    exact opV_ok s' s4 (VR.ev (VR.ev r2 ev3) ev4) r4 (o5.from ev4 (relV_from ev4))
  · obtain rfl := vr_bl r3
    refine ⟨false, rfl, ?_⟩
    rw [if_neg Bool.false_ne_true]
    exact o4 (.bl false) F3 H3 s3 .refl (Rep.bl false)
  · exact o4.elim
theorem de_chain {o o' : CmpOp} {r r' : R2} {op op' : D → D → Option Val} (ho : OpR X (compareOp o) r) (s : OpS X.K r op) (ho' : OpR X (compareOp o') r') (s' : OpS X.K r' op') (ha : DE X E a f) (hb : DE X E b g) (hc : DE X E c h) (hm : lastMarks [o, o'] [b, c] = false := by rfl) : DE X E (.Compare a [o, o'] [b, c] pos) (eChain op op' f g h) :=
  pe_conseq (pe_chain ho ho' ha hb hc hm) fun _ _ _ => chain_ok s s'
theorem dt_chain {o o' : CmpOp} {r r' : R2} {op op' : D → D → Option Val} (ho : OpR X (compareOp o) r) (s : OpS X.K r op) (ho' : OpR X (compareOp o') r') (s' : OpS X.K r' op') (ha : DE X E a f) (hb : DE X E b g) (hc : DE X E c h) (hm : lastMarks [o, o'] [b, c] = false := by rfl) : DT X E (.Compare a [o, o'] [b, c] pos) (tst (eChain op op' f g h)) :=
  pt_conseq (pt_chain ho ho' ha hb hc hm) fun σ H Q hq => by
    obtain ⟨F, ρ, sr, q⟩ := tst_ok hq
    exact chain_ok s s' ⟨F, ρ, sr, q⟩
theorem de_leLe (ha : DE X E a f) (hb : DE X E b g) (hc : DE X E c h) (hm : lastMarks [.LtE, .LtE] [b, c] = false := by rfl) : DE X E (.Compare a [.LtE, .LtE] [b, c] pos) (eChain leD leD f g h) := de_chain op_le os_cmp0 op_le os_cmp0 ha hb hc hm
theorem dt_leLe (ha : DE X E a f) (hb : DE X E b g) (hc : DE X E c h) (hm : lastMarks [.LtE, .LtE] [b, c] = false := by rfl) : DT X E (.Compare a [.LtE, .LtE] [b, c] pos) (tst (eChain leD leD f g h)) := dt_chain op_le os_cmp0 op_le os_cmp0 ha hb hc hm
/-! ### in -/
def flatD : D → Bool
  | .non => true
  | .bl _ => true
  | .int _ => true
  | .str _ => true
  | _ => false
def eqF : D → D → Bool
  | .non, .non => true
  | .bl a, .bl b => a == b
  | .bl a, .int b => (if a then 1 else 0) == b
  | .int a, .bl b => a == (if b then 1 else 0)
  | .int a, .int b => a == b
  | .str a, .str b => a == b
  | _, _ => false
def inS (x : D) (xs : List D) : Bool := xs.any fun y => eqF y x
def inSeqD (neg : Bool) : D → D → Option Val := fun x y => match y with
  | .lst xs => if flatD x = true ∧ xs.all flatD = true then some (.d (.bl (if neg then !inS x xs else inS x xs))) else none
  | .tup xs => if flatD x = true ∧ xs.all flatD = true then some (.d (.bl (if neg then !inS x xs else inS x xs))) else none
  | _ => none
section
variable {K : PySem.W.Frag} {F H : Hp}
theorem flat_ok {v : V} {x : D} (h : Rep K F v x) (e : flatD x = true) : flatV v = true := by
  cases h <;> first | rfl | cases e
theorem flatL_ok : ∀ {vs : List V} {xs : List D}, RepL K F vs xs → xs.all flatD = true → vs.all flatV = true
  | _, _, .nil, _ => rfl
  | _, _, .cons a b, e => by
    simp only [List.all_cons, Bool.and_eq_true] at e ⊢
    exact ⟨flat_ok a e.1, flatL_ok b e.2⟩
theorem eqF_ok {v w : V} {x y : D} (h : Rep K F v x) (h' : Rep K F w y) : eqV v w = eqF x y := by
  cases h <;> cases h' <;> rfl
theorem inS_ok {v : V} {x : D} (h : Rep K F v x) : ∀ {vs : List V} {xs : List D}, RepL K F vs xs → inV v vs = inS x xs
  | _, _, .nil => rfl
  | _, _, .cons a b => by
    unfold inV inS
    rw [List.any_cons, List.any_cons, eqF_ok a h]
    exact congrArg _ (inS_ok h b)
theorem RepT.flat {v : V} {x : D} (h : RepT K F H v x) (e : flatD x = true) : Rep K F v x := by
  cases x <;> first | exact h | cases e
theorem os_inSeq (neg : Bool) : OpS K (rIn K neg) (inSeqD neg) := by
  intro F H v w a b z Q s ra rb e q
  unfold inSeqD at e
  split at e
  · obtain ⟨p, xs, rfl, hl, r⟩ := rb.lst
    split at e
    · rename_i hh
      cases e
      have rx := ra.flat hh.1
      refine ⟨p, xs, rfl, .inl (.of hl), flat_ok rx hh.1, flatL_ok r hh.2, ?_⟩
      rw [inS_ok rx r]
      exact vn_bl s q
    · cases e
  · obtain ⟨p, xs, rfl, hl, r⟩ := rb.tup s
    split at e
    · rename_i hh
      cases e
      have rx := ra.flat hh.1
      refine ⟨p, xs, rfl, .inr hl, flat_ok rx hh.1, flatL_ok r hh.2, ?_⟩
      rw [inS_ok rx r]
      exact vn_bl s q
    · cases e
  · cases e
end
end
end DL
/-! DL5: in, subscripts, slices, displays, built-in functions. -/
namespace DL
open PySem PySem.Spec PyProof.Rows L2
variable [TabT]
section
variable {X : Cx} {E : WX} {xk : XK} {a b c e : Expr} {es : List Expr} {f g h : EM} {t u : M Bool} {pos : Pos}
/-! ### either of two operations, by what they are given -/
def orOp (op op' : D → D → Option Val) : D → D → Option Val := fun a b => match op a b with | some z => some z | none => op' a b
theorem eOp_or {op op' : D → D → Option Val} {σ : L2.St} {H : Hp} {Q : VK} (hq : tD X.K X.mg E (eOp (orOp op op') f g) σ H Q) : tD X.K X.mg E (eOp op f g) σ H Q ∨ tD X.K X.mg E (eOp op' f g) σ H Q := by
  obtain ⟨F, ρ, sr, q⟩ := hq
  unfold eOp at q
  cases h1 : f ρ with
  | bad => rw [h1] at q; exact q.elim
  | ex x ρ1 => rw [h1] at q; exact .inl ⟨F, ρ, sr, by unfold eOp; rw [h1]; exact q⟩
  | ok x ρ1 =>
    cases h2 : g ρ1 with
    | bad => rw [h1] at q; simp only [R.bind, h2] at q; exact q.elim
    | ex y ρ2 => rw [h1] at q; simp only [R.bind, h2] at q; exact .inl ⟨F, ρ, sr, by unfold eOp; rw [h1]; simp only [R.bind, h2]; exact q⟩
    | ok y ρ2 =>
      rw [h1] at q
      simp only [R.bind, h2] at q
      cases hx : x.peek ρ2 with
      | none => simp only [opV, hx] at q; exact q.elim
      | some p =>
        cases hy : y.peek ρ2 with
        | none => simp only [opV, hx, hy] at q; exact q.elim
        | some r =>
          cases hz : op p r with
          | some z => exact .inl ⟨F, ρ, sr, by unfold eOp; rw [h1]; simp only [R.bind, h2, opV, hx, hy, hz]; simpa only [opV, hx, hy, orOp, hz] using q⟩
          | none => exact .inr ⟨F, ρ, sr, by unfold eOp; rw [h1]; simp only [R.bind, h2, opV, hx, hy]; simpa only [opV, hx, hy, orOp, hz] using q⟩
theorem de_opOr {r r' : R2} {op op' : D → D → Option Val} (h : PE X e (tOp r (tD X.K X.mg E f) (tD X.K X.mg E g))) (s : OpS X.K r op) (h' : PE X e (tOp r' (tD X.K X.mg E f) (tD X.K X.mg E g))) (s' : OpS X.K r' op') : DE X E e (eOp (orOp op op') f g) :=
  pe_conseq (pe_or2 h h') fun _ _ _ hq => (eOp_or hq).imp (two s) (two s')
/-! ### dicts, looked up -/
def keyD : D → Option Key
  | .int i => some (.inl i)
  | .str x => some (.inr x)
  | _ => none
def dLook : List Key → List D → Key → Option D
  | k :: ks, v :: vs, j => if k = j then some v else dLook ks vs j
  | _, _, _ => none
section
variable {K : PySem.W.Frag} {F H : Hp}
theorem keyD_ok {v : V} {x : D} {k : Key} (h : Rep K F v x) (e : keyD x = some k) : v = kV k := by
  cases h <;> cases e <;> rfl
theorem RepT.key {v : V} {x : D} {k : Key} (h : RepT K F H v x) (e : keyD x = some k) : v = kV k := by
  cases x with
  | int i => exact keyD_ok (show Rep K F v _ from h) e
  | str i => exact keyD_ok (show Rep K F v _ from h) e
  | _ => cases e
theorem valV_zip_cons {k j : Key} {v : V} {ks : List Key} {vs : List V} : valV ((k, v) :: ks.zip vs) j = if k = j then some v else valV (ks.zip vs) j := by
  unfold valV
  rw [List.find?_cons]
  by_cases h : k = j
  · rw [if_pos h]; simp [h]
  · rw [if_neg h]; simp [h]
theorem dLook_ok : ∀ {ks : List Key} {vs : List V} {ds : List D} {j : Key}, ks.length = vs.length → RepL K F vs ds →
    (∃ v d, valV (ks.zip vs) j = some v ∧ dLook ks ds j = some d ∧ Rep K F v d) ∨ (valV (ks.zip vs) j = none ∧ dLook ks ds j = none)
  | [], _, _, j, _, _ => .inr ⟨rfl, by cases ‹List D› <;> rfl⟩
  | k :: ks, [], _, j, l, _ => by simp at l
  | k :: ks, v :: vs, _, j, l, .cons (d := d) (ds := ds) a b => by
    rw [List.zip_cons_cons, valV_zip_cons]
    unfold dLook
    by_cases h : k = j
    · rw [if_pos h, if_pos h]; exact .inl ⟨v, d, rfl, rfl, a⟩
    · rw [if_neg h, if_neg h]; exact dLook_ok (by simpa using l) b
theorem RepT.dic {v : V} {ks : List Key} {ds : List D} (h : RepT K F H v (.dic ks ds)) : ∃ a xs, v = .ref a ∧ Rd H a (.dK (ks.zip xs)) ∧ ks.length = xs.length ∧ RepL K F xs ds := h
end
def idxD1 : D → D → Option Val
  | .lst xs, .int i => (atI xs i).map .d
  | .tup xs, .int i => (atI xs i).map .d
  | .scr ns, .int i => (atI ns i).map fun k => .d (.int k)
  | _, _ => none
def idxD2 : D → D → Option Val
  | .dic ks vs, y => match keyD y with
    | some k => (dLook ks vs k).map .d
    | none => none
  | _, _ => none
def idxD3 : D → D → Option Val
  | .str z, .int i => if z.length ≤ 16777216 then (atI z.cps.toList i).map fun c => .d (.str ⟨#[c]⟩) else none
  | _, _ => none
section
variable {K : PySem.W.Frag} {F H : Hp}
theorem atI_rep {vs : List V} {ds : List D} {i : Int} {d : D} (r : RepL K F vs ds) (e : atI ds i = some d) : ∃ v, atI vs i = some v ∧ Rep K F v d := by
  unfold atI at e ⊢
  rw [r.length]
  cases h : ixN ds.length i with
  | none => rw [h] at e; cases e
  | some j => rw [h] at e; exact r.get e
theorem atI_map {α β : Type} {f : α → β} {xs : List α} {i : Int} {x : α} (e : atI xs i = some x) : atI (xs.map f) i = some (f x) := by
  unfold atI at e ⊢
  rw [List.length_map]
  cases h : ixN xs.length i with
  | none => rw [h] at e; cases e
  | some j =>
    rw [h] at e
    show (xs.map f)[j]? = _
    rw [List.getElem?_map, show xs[j]? = some x from e]
    rfl
theorem os_idx1 : OpS K (rIx K) idxD1 := by
  intro F H v w a b z Q s ra rb e q
  unfold idxD1 at e
  split at e
  · obtain ⟨p, xs, rfl, hl, r⟩ := ra.lst
    obtain rfl := rb.int
    rename_i xs' i
    cases h : atI xs' i with
    | none => rw [h] at e; cases e
    | some d =>
      rw [h] at e; cases e
      obtain ⟨v, h1, h2⟩ := atI_rep r h
      exact .inl ⟨p, xs, i, v, rfl, rfl, .of hl, h1, vn_d s q h2⟩
  · obtain ⟨p, xs, rfl, hl, r⟩ := ra.tup s
    obtain rfl := rb.int
    rename_i xs' i
    cases h : atI xs' i with
    | none => rw [h] at e; cases e
    | some d =>
      rw [h] at e; cases e
      obtain ⟨v, h1, h2⟩ := atI_rep r h
      exact .inr (.inl ⟨p, xs, i, v, rfl, rfl, hl, h1, vn_d s q h2⟩)
  · obtain ⟨p, rfl, hl⟩ := ra.scr s
    obtain rfl := rb.int
    rename_i ns i
    cases h : atI ns i with
    | none => rw [h] at e; cases e
    | some d =>
      rw [h] at e; cases e
      exact .inl ⟨p, _, i, _, rfl, rfl, hl, atI_map h, vn_int s q⟩
  · cases e
theorem os_idx3 : OpS K (rIx K) idxD3 := by
  intro F H v w a b z Q s ra rb e q
  unfold idxD3 at e
  split at e
  · obtain rfl := ra.str
    obtain rfl := rb.int
    split at e
    · rename_i z' i hz
      cases h : atI z'.cps.toList i with
      | none => rw [h] at e; cases e
      | some d =>
        rw [h] at e; cases e
        exact .inr (.inr ⟨_, _, d, rfl, rfl, by rw [sizeLine_eq]; exact hz, h, vn_str s q⟩)
    · cases e
  · cases e
def rDG : R2 := fun x y H Q => ∃ a v, x = .ref a ∧ DGet H a y (some v) ∧ Q v H
theorem os_idx2 : OpS K rDG idxD2 := by
  intro F H v w a b z Q s ra rb e q
  unfold idxD2 at e
  split at e
  · obtain ⟨p, xs, rfl, hl, ln, r⟩ := ra.dic
    split at e
    · rename_i k hk
      obtain rfl := rb.key hk
      rcases dLook_ok (j := k) ln r with ⟨v, d, h1, h2, h3⟩ | ⟨h1, h2⟩
      · rw [h2] at e; cases e
        exact ⟨p, v, rfl, .inl ⟨_, k, hl, rfl, h1.symm⟩, vn_d s q h3⟩
      · rw [h2] at e; cases e
    · cases e
  · cases e
/-- one reading, two operations -/
theorem os_or' {r : R2} {op op' : D → D → Option Val} (h : OpS K r op) (h' : OpS K r op') : OpS K r (orOp op op') := by
  intro F H v w a b z Q s ra rb e q
  unfold orOp at e
  cases hz : op a b with
  | some y => rw [hz] at e; cases e; exact h F H v w a b _ Q s ra rb hz q
  | none => rw [hz] at e; exact h' F H v w a b _ Q s ra rb e q
end
def idxD : D → D → Option Val := orOp (orOp idxD1 idxD3) idxD2
theorem de_idx (hu : X.A.units + 1 < cLine) (ha : DE X E a f) (hb : DE X E b g) (hs : PlainIx b := by exact fun _ _ => rfl) (hn : NoSl b := by exact fun _ _ => rfl) : DE X E (.Subscript a b pos) (eOp idxD f g) :=
  de_opOr (pe_ix ix_seq ha hb hs) (os_or' os_idx1 os_idx3) (pe_dget hu ha hb hn) os_idx2
/-! ### in -/
def inDicD (neg : Bool) : D → D → Option Val := fun x y => match y with
  | .dic ks vs => match keyD x with
    | some k => some (.d (.bl (if neg then !(dLook ks vs k).isSome else (dLook ks vs k).isSome)))
    | none => none
  | _ => none
def rDI (neg : Bool) : R2 := fun y x H Q => ∃ a o, x = .ref a ∧ DGet H a y o ∧ Q (.bl (if neg then !o.isSome else o.isSome)) H
theorem os_inDic {K : PySem.W.Frag} (neg : Bool) : OpS K (rDI neg) (inDicD neg) := by
  intro F H v w a b z Q s ra rb e q
  unfold inDicD at e
  split at e
  · obtain ⟨p, xs, rfl, hl, ln, r⟩ := rb.dic
    split at e
    · rename_i k hk
      cases e
      obtain rfl := ra.key hk
      rcases dLook_ok (j := k) ln r with ⟨v, d, h1, h2, h3⟩ | ⟨h1, h2⟩
      · refine ⟨p, some v, rfl, .inl ⟨_, k, hl, rfl, h1.symm⟩, ?_⟩
        rw [h2] at q
        exact vn_bl s q
      · refine ⟨p, none, rfl, .inl ⟨_, k, hl, rfl, h1.symm⟩, ?_⟩
        rw [h2] at q
        exact vn_bl s q
    · cases e
  · cases e
def inD : D → D → Option Val := orOp (inSeqD false) (inDicD false)
def ninD : D → D → Option Val := orOp (inSeqD true) (inDicD true)
/-- an in as a test, by its value -/
theorem dt_in (hu : X.A.units + 1 < cLine) (ha : DE X E a f) (hb : DE X E b g) (hm : behindInMarks .In b = false := by rfl) : DT X E (.Compare a [.In] [b] pos) (tst (eOp inD f g)) :=
  pt_conseq (⟨fun pins s σ H Q I q => q.elim ((pt_cmpR op_in_seq ha hb hm).run pins s σ H Q I) ((pt_cmp (pc_din hu ha hb) hm).run pins s σ H Q I)⟩ : PT X _ (fun σ H Q => _ ∨ _)) fun σ H Q hq => by
    obtain ⟨F, ρ, sr, q⟩ := tst_ok hq
    exact (eOp_or ⟨F, ρ, sr, q⟩).imp (two (os_inSeq false)) (two (os_inDic false))
theorem dt_nin (hu : X.A.units + 1 < cLine) (ha : DE X E a f) (hb : DE X E b g) (hm : behindInMarks .NotIn b = false := by rfl) : DT X E (.Compare a [.NotIn] [b] pos) (tst (eOp ninD f g)) :=
  pt_conseq (⟨fun pins s σ H Q I q => q.elim ((pt_cmpR op_notIn_seq ha hb hm).run pins s σ H Q I) ((pt_cmp (pc_dnotin hu ha hb) hm).run pins s σ H Q I)⟩ : PT X _ (fun σ H Q => _ ∨ _)) fun σ H Q hq => by
    obtain ⟨F, ρ, sr, q⟩ := tst_ok hq
    exact (eOp_or ⟨F, ρ, sr, q⟩).imp (two (os_inSeq true)) (two (os_inDic true))
/-! ### arguments, displays -/
def aNil : M (List Val) := fun ρ => .ok [] ρ
def aCons (f : EM) (g : M (List Val)) : M (List Val) := fun ρ => (f ρ).bind fun x ρ1 => (g ρ1).bind fun xs ρ2 => .ok (x :: xs) ρ2
theorem da_nil : DA X E [] aNil := pa_conseq pa_nil fun σ H Q hq => by
  obtain ⟨F, ρ, sr, q⟩ := hq
  exact q [] F H sr .refl ⟨.nil, fun i j c c' p h => by simp at h⟩
theorem relL_base {K : PySem.W.Frag} {σ : L2.St} {ρ ρ1 : DEnv} {F H F1 H1 : Hp} (ev : Ev σ ρ F H σ ρ1 F1 H1) : ∀ F' H' ρ' v x, relL K σ H1 F' H' ρ' v x → relL K σ H F' H' ρ' v x := fun F' H' ρ' v x h => by
  refine ⟨?_, h.frs⟩
  have := h.all
  clear h
  induction this with
  | nil => exact .nil
  | cons a b ih => exact .cons (VR.base a ev.dom) ih
theorem paired_get {α β : Type} {G : α → β → Prop} : ∀ {l : List α} {m : List β} {i : Nat} {x : α} {y : β}, Paired G l m → l[i]? = some x → m[i]? = some y → G x y
  | _, _, _, _, _, .nil, e, _ => by simp at e
  | _, _, 0, _, _, .cons a b, e, e' => by simp at e e'; subst e; subst e'; exact a
  | _, _, i + 1, _, _, .cons a b, e, e' => paired_get (i := i) b (by simpa using e) (by simpa using e')
theorem aCons_read {g : M (List Val)} {σ : L2.St} {H : Hp} {Q : List V → Hp → Prop} (hq : tA X.K X.mg E (aCons f g) σ H Q) : tCons (tD X.K X.mg E f) (tA X.K X.mg E g) σ H Q := by
  obtain ⟨F, ρ, sr, q⟩ := hq
  refine ⟨F, ρ, sr, (Out.bind (rel := relV X.K σ) q).mono fun v H1 ⟨x, F1, ρ1, e1, s1, ev1, r1, o1⟩ => ?_⟩
  refine ⟨F1, ρ1, s1, (Out.bind (rel := relL X.K σ) (o1.from ev1 (relL_base ev1))).mono fun vs H2 ⟨xs, F2, ρ2, e2, s2, ev2, r2, o2⟩ => ?_⟩
  rw [e2] at o1
  have nn : ∀ c, x = .fr c → ∀ p, v = .ref p → ¬ H1 p = none := fun c e p e' z => by
    subst e
    obtain ⟨p', e2, _, _, cr, _⟩ := r1
    rw [e'] at e2; cases e2
    obtain ⟨o, ho⟩ := cr.some
    rw [z] at ho; cases ho
  have nw : ∀ (i : Nat) (c : Cont) (p : Addr), xs[i]? = some (.fr c) → vs[i]? = some (.ref p) → H1 p = none := fun i c p e e' => by
    obtain ⟨p', e3, n, _⟩ := paired_get r2.all e' e
    cases e3
    exact n
  refine o1 (v :: vs) F2 H2 s2 (ev1.trans ev2) ⟨.cons (VR.ev r1 ev2) (relL_base ev1 _ _ _ _ _ r2).all, fun i j c c' p h1 h2 h3 h4 => ?_⟩
  cases i with
  | zero =>
    cases j with
    | zero => rfl
    | succ j => exact absurd (nw j c' p (by simpa using h2) (by simpa using h4)) (nn c (by simpa using h1) p (by simpa using h3))
  | succ i =>
    cases j with
    | zero => exact absurd (nw i c p (by simpa using h1) (by simpa using h3)) (nn c' (by simpa using h2) p (by simpa using h4))
    | succ j => exact congrArg (· + 1) (r2.frs i j c c' p (by simpa using h1) (by simpa using h2) (by simpa using h3) (by simpa using h4))
theorem da_cons {g : M (List Val)} (ha : DE X E e f) (hb : DA X E es g) (hs : starEach (e :: es) X.env = (false, eval e X.env) :: starEach es X.env := by rfl) : DA X E (e :: es) (aCons f g) := pa_conseq (pa_cons ha hb hs) fun σ H Q hq => aCons_read hq
/-- frozen values -/
def dsL : List Val → Option (List D)
  | [] => some []
  | .d x :: xs => (dsL xs).map (x :: ·)
  | _ :: _ => none
theorem dsL_ok {K : PySem.W.Frag} {σ : L2.St} {Hb F H : Hp} {ρ : DEnv} : ∀ {vs : List V} {xs : List Val} {ds : List D}, Paired (VR K σ Hb F H ρ) vs xs → dsL xs = some ds → RepL K F vs ds
  | _, _, _, .nil, e => by cases e; exact .nil
  | _, _, _, .cons (b := x) (l₂ := xs) r t, e => by
    cases x with
    | fr c => cases e
    | sl i => cases e
    | d x =>
      unfold dsL at e
      cases h : dsL xs with
      | none => rw [h] at e; cases e
      | some ds => rw [h] at e; cases e; exact .cons r (dsL_ok t h)
def mkTup (xs : List Val) : EM := fun ρ => match dsL xs with
  | some ds => if ds.length ≤ 16777216 then .ok (.d (.tup ds)) ρ else .bad
  | none => .bad
def mkLst (xs : List Val) : EM := fun ρ => match dsL xs with
  | some ds => if ds.length ≤ 16777216 then .ok (.fr (.lst ds)) ρ else .bad
  | none => .bad
def eTup (g : M (List Val)) : EM := fun ρ => (g ρ).bind mkTup
def eLst (g : M (List Val)) : EM := fun ρ => (g ρ).bind mkLst
section
variable {K : PySem.W.Frag} {F H : Hp}
theorem Gr.vtup {σ : L2.St} {ρ : DEnv} {xs : List V} {ds : List D} {p : Addr} (s : SR K F H σ ρ) (r : RepL K F xs ds) (n : H p = none) : Rep K (upd F p (.tup xs)) (.ref p) (.tup ds) :=
  .tup (.of upd_same) (r.mono (.of (froz_ext (Same.free s.sub n))))
end
theorem de_tup {g : M (List Val)} {x1} (h : DA X E es g) : DE X E (.Tuple es x1 pos) (eTup g) := pe_conseq (pe_tup h) fun σ H Q hq => by
  obtain ⟨F, ρ, sr, q⟩ := hq
  refine ⟨F, ρ, sr, (Out.bind (rel := relL X.K σ) q).mono fun vs H1 ⟨xs, F1, ρ1, e1, s1, ev1, r1, o1⟩ => ?_⟩
  have o2 := o1.from ev1 (relV_from ev1)
  unfold mkTup at o2
  split at o2
  · rename_i ds hd
    split at o2
    · rename_i hl
      have r := dsL_ok r1.all hd
      refine ⟨by rw [r.length, sizeLine_eq]; exact hl, fun p n => ?_⟩
      have g := Gr.froz (o := .tup vs) s1.sub n
      exact o2 _ _ _ (g.sr s1) g.ev (Gr.vtup s1 r n)
    · exact o2.elim
  · exact o2.elim
theorem fr_vr {K : PySem.W.Frag} {σ : L2.St} {ρ : DEnv} {F H H' : Hp} {p : Addr} {c : Cont} (sr : SR K F H σ ρ) (n : H p = none) (nF : F p = none) (cr : CRep K F H' p c) : VR K σ H F H' ρ (.ref p) (.fr c) := by
  refine ⟨p, rfl, n, nF, cr, fun ⟨i, c', m, q1, q2⟩ => ?_⟩
  obtain ⟨ov, h1, a, h2, _, cr'⟩ := sr.slot i _ q1
  rw [q2] at h1; cases h1
  cases h2
  obtain ⟨o, ho⟩ := cr'.some
  rw [n] at ho; cases ho
theorem de_lst {g : M (List Val)} (h : DA X E es g) : DE X E (.List es pos) (eLst g) := pe_conseq (pe_lst h) fun σ H Q hq => by
  obtain ⟨F, ρ, sr, q⟩ := hq
  refine ⟨F, ρ, sr, (Out.bind (rel := relL X.K σ) q).mono fun vs H1 ⟨xs, F1, ρ1, e1, s1, ev1, r1, o1⟩ => ?_⟩
  have o2 := o1.from ev1 (relV_from ev1)
  unfold mkLst at o2
  split at o2
  · rename_i ds hd
    split at o2
    · rename_i hl
      have r := dsL_ok r1.all hd
      refine ⟨by rw [r.length, sizeLine_eq]; exact hl, fun p n => ?_⟩
      have g := Gr.fresh (o := .lst vs) s1.sub n
      exact o2 _ _ _ (g.sr s1) g.ev (fr_vr s1 n (Same.free s1.sub n) ⟨vs, upd_same, r⟩)
    · exact o2.elim
  · exact o2.elim
/-! ### slices -/
def cutD {α : Type} (xs : List α) (lo hi : Option Int) : List α := (xs.drop (HT.sIx xs.length 0 lo)).take (HT.sIx xs.length xs.length hi - HT.sIx xs.length 0 lo)
def sliceD (x : D) (lo hi : Option Int) : Option Val := match x with
  | .lst xs => some (.fr (.lst (cutD xs lo hi)))
  | .tup xs => some (.d (.tup (cutD xs lo hi)))
  | .str z => if z.length ≤ 16777216 then some (.d (.str (Txt.slice z lo hi))) else none
  | _ => none
abbrev OM := M (Option Int)
def oNone : OM := fun ρ => .ok none ρ
def oSome (f : EM) : OM := fun ρ => (f ρ).bind fun x ρ1 => match x with
  | .d (.int i) => .ok (some i) ρ1
  | _ => .bad
def relO : RelT (Option Int) (Option Int) := fun _ _ _ _ v x => v = x
def DO (X : Cx) (E : WX) (e : Option Expr) (f : OM) : Prop := PO X e (fun σ H Q => ∃ F ρ, SR X.K F H σ ρ ∧ Out X.K X.mg (fun c d H => E c d σ H) relO σ ρ F H (f ρ) Q)
theorem po_conseq {e : Option Expr} {t t' : TO} (h : PO X e t) (c : ∀ σ H Q, t' σ H Q → t σ H Q) : PO X e t' := ⟨fun pins s σ H Q I q => h.run pins s σ H Q I (c _ _ _ q)⟩
theorem do_none : DO X E none oNone := po_conseq po_none fun σ H Q hq => by
  obtain ⟨F, ρ, sr, q⟩ := hq
  exact q none F H sr .refl rfl
theorem do_some (h : DE X E e f) : DO X E (some e) (oSome f) := po_conseq (po_some h) fun σ H Q hq => by
  obtain ⟨F, ρ, sr, q⟩ := hq
  refine ⟨F, ρ, sr, (Out.bind (rel := relV X.K σ) q).mono fun v H1 ⟨x, F1, ρ1, e1, s1, ev1, r1, o1⟩ => ?_⟩
  have o2 := o1.from ev1 fun _ _ _ _ _ h => h
  split at o2
  · rename_i i
    obtain rfl := vr_int r1
    exact ⟨i, rfl, o2 (some i) F1 H1 s1 .refl rfl⟩
  · exact o2.elim
def eSl (f : EM) (l u : OM) : EM := fun ρ => (f ρ).bind fun x ρ1 => (l ρ1).bind fun lo ρ2 => (u ρ2).bind fun hi ρ3 => unV (fun d => sliceD d lo hi) x ρ3
def rSlAll (K : PySem.W.Frag) : V → Option Int → Option Int → Hp → VK → Prop := fun x lo hi H Q => rSlL K x lo hi H Q ∨ (rSlA K x lo hi H Q ∨ C8.rSlX x lo hi H Q)
theorem cut_rep {K : PySem.W.Frag} {F : Hp} {vs : List V} {ds : List D} (r : RepL K F vs ds) (lo hi : Option Int) : RepL K F (cutV vs lo hi) (cutD ds lo hi) := by
  unfold cutV cutD
  rw [r.length]
  exact (r.drop _).take _
theorem us_slice {K : PySem.W.Frag} (lo hi : Option Int) : UnS K (fun x H Q => rSlAll K x lo hi H Q) (fun d => sliceD d lo hi) := by
  intro F H v a z Q s ra e q
  dsimp only at e
  unfold sliceD at e
  split at e
  · cases e
    obtain ⟨p, xs, rfl, hl, r⟩ := ra.lst
    exact .inl ⟨p, xs, rfl, .of hl, fun p' n => vn_lst s q (cut_rep r lo hi) n⟩
  · cases e
    have ra' : Rep K F v (.tup _) := ra
    obtain ⟨p, xs, rfl, hl, r⟩ := ra.tup s
    refine .inr (.inl ⟨p, xs, rfl, hl, fun hh => ?_, fun _ p' n => vn_tup s q (cut_rep r lo hi) n⟩)
    refine vn_d s q ?_
    have e2 : ∀ {α : Type} (l : List α), HT.sIx l.length 0 lo = 0 ∧ HT.sIx l.length l.length hi = l.length → cutD l lo hi = l := fun l h => by
      unfold cutD
      rw [h.1, h.2, List.drop_zero, Nat.sub_zero, List.take_length]
    rw [e2 _ (by rw [← r.length]; exact hh)]
    exact ra'
  · split at e
    · rename_i hz
      cases e
      obtain rfl := ra.str
      exact .inr (.inr ⟨_, rfl, by rw [sizeLine_eq]; exact hz, vn_str s q⟩)
    · cases e
  · cases e
theorem de_slice {lo hi : Option Expr} {l u : OM} {p2 : Pos} (ha : DE X E a f) (hl : DO X E lo l) (hh : DO X E hi u) : DE X E (.Subscript a (.Slice lo hi none p2) pos) (eSl f l u) :=
  pe_conseq (pe_slice (SlR.or sl_list (SlR.or sl_tupA C8.sl_txt)) ha hl hh) fun σ H Q hq => by
    obtain ⟨F, ρ, sr, q⟩ := hq
    refine ⟨F, ρ, sr, (Out.bind (rel := relV X.K σ) q).mono fun v H1 ⟨x, F1, ρ1, e1, s1, ev1, r1, o1⟩ => ?_⟩
    refine ⟨F1, ρ1, s1, (Out.bind (rel := relO) (o1.from ev1 (relV_from ev1))).mono fun lo' H2 ⟨y, F2, ρ2, e2, s2, ev2, r2, o2⟩ => ?_⟩
    have r2 : lo' = y := r2
    subst r2
    refine ⟨F2, ρ2, s2, (Out.bind (rel := relO) (o2.from ev2 (relV_from ev2))).mono fun hi' H3 ⟨z, F3, ρ3, e3, s3, ev3, r3, o3⟩ => ?_⟩
    have r3 : hi' = z := r3
    subst r3
    exact unV_ok (us_slice lo' hi') s3 (VR.ev (VR.ev r1 ev2) ev3) (o3.from ev3 (relV_from ev3))
end
end DL
/-! DL6: built-in functions. -/
namespace DL
open PySem PySem.Spec PyProof.Rows L2
variable [TabT]
section
variable {X : Cx} {E : WX} {xk : XK} {a b c e : Expr} {es : List Expr} {f g h : EM} {pos p : Pos}
theorem callr_or {fv : Value} {r r' : List V → Hp → VK → Prop} (h : CallR X fv r) (h' : CallR X fv r') : CallR X fv (fun xs H Q => r xs H Q ∨ r' xs H Q) :=
  fun pins s σ H xs us Q I rv q => q.elim (h pins s σ H xs us Q I rv) (h' pins s σ H xs us Q I rv)
theorem calls_ok {r : List V → Hp → VK → Prop} {op : List D → Option Val} {g : M (List Val)} (s : CallS X.K r op) {σ : L2.St} {H : Hp} {Q : VK} (hq : tD X.K X.mg E (eCallB op g) σ H Q) : tCB r (tA X.K X.mg E g) σ H Q := by
  obtain ⟨F, ρ, sr, q⟩ := hq
  refine ⟨F, ρ, sr, (Out.bind (rel := relL X.K σ) q).mono fun vs H1 ⟨xs, F1, ρ1, e1, s1, ev1, r1, o1⟩ => ?_⟩
  exact callV_ok s s1 r1 (o1.from ev1 (relV_from ev1))
theorem de_callB {x : Str} {id : String} {r : List V → Hp → VK → Prop} {op : List D → Option Val} {g : M (List Val)} (hc : CallR X (.builtin id) r) (s : CallS X.K r op) (hg : Gl X x) (hm : X.mg x = none) (hv : bootBuiltins x = some (.builtin id)) (ha : DA X E (e :: es) g) (hn : x ≠ "__name__" := by decide) (hdb : (x == ("__debug__" : Str)) = false := by decide)
    (he : starEach (e :: es) X.env = (false, eval e X.env) :: starEach es X.env := by rfl) (hpl : (backTo pos (starEach es X.env)).any (·.1) = false := by rfl) : DE X E (.Call (.Name x p) (e :: es) [] pos) (eCallB op g) :=
  pe_conseq (pe_callB hc hg hm hv ha hn hdb he hpl) fun _ _ _ => calls_ok s
theorem de_callTy {x : Str} {T : String} {r : List V → Hp → VK → Prop} {op : List D → Option Val} {g : M (List Val)} (hc : CallR X (.type T) r) (s : CallS X.K r op) (hg : Gl X x) (hm : X.mg x = none) (hv : bootBuiltins x = some (.type T)) (ha : DA X E (e :: es) g) (hn : x ≠ "__name__" := by decide) (hdb : (x == ("__debug__" : Str)) = false := by decide)
    (he : starEach (e :: es) X.env = (false, eval e X.env) :: starEach es X.env := by rfl) (hpl : (backTo pos (starEach es X.env)).any (·.1) = false := by rfl) : DE X E (.Call (.Name x p) (e :: es) [] pos) (eCallB op g) :=
  pe_conseq (pe_callTy hc hg hm hv ha hn hdb he hpl) fun _ _ _ => calls_ok s
section
variable {K : PySem.W.Frag} {F H : Hp}
theorem rep1 {vs : List V} {a : D} (h : RepTL K F H vs [a]) : ∃ v, vs = [v] ∧ RepT K F H v a := by
  cases h with
  | cons a t => cases t; exact ⟨_, rfl, a⟩
theorem rep2 {vs : List V} {a b : D} (h : RepTL K F H vs [a, b]) : ∃ v w, vs = [v, w] ∧ RepT K F H v a ∧ RepT K F H w b := by
  cases h with
  | cons a t =>
    obtain ⟨w, rfl, r⟩ := rep1 t
    exact ⟨_, w, rfl, a, r⟩
def intsD : List D → Option (List Int)
  | [] => some []
  | .int i :: ds => (intsD ds).map (i :: ·)
  | _ :: _ => none
theorem intsD_ok : ∀ {ds : List D} {ns : List Int}, intsD ds = some ns → ds = ns.map D.int
  | [], ns, e => by cases e; rfl
  | .int i :: ds, ns, e => by
    unfold intsD at e
    cases h : intsD ds with
    | none => rw [h] at e; cases e
    | some ms => rw [h] at e; cases e; rw [intsD_ok h]; rfl
  | .non :: _, _, e => by cases e
  | .bl _ :: _, _, e => by cases e
  | .str _ :: _, _, e => by cases e
  | .tup _ :: _, _, e => by cases e
  | .lst _ :: _, _, e => by cases e
  | .dic _ _ :: _, _, e => by cases e
  | .set _ :: _, _, e => by cases e
  | .scr _ :: _, _, e => by cases e
  | .ty _ :: _, _, e => by cases e
  | .obj _ _ _ :: _, _, e => by cases e
  | .ins _ _ _ :: _, _, e => by cases e
theorem intsD_map : ∀ (ns : List Int), intsD (ns.map D.int) = some ns
  | [] => rfl
  | n :: ns => by
    show (intsD (ns.map D.int)).map (n :: ·) = _
    rw [intsD_map ns]; rfl
def blsD : List D → Option (List Bool)
  | [] => some []
  | .bl i :: ds => (blsD ds).map (i :: ·)
  | _ :: _ => none
theorem blsD_ok : ∀ {ds : List D} {ns : List Bool}, blsD ds = some ns → ds = ns.map D.bl
  | [], ns, e => by cases e; rfl
  | .bl i :: ds, ns, e => by
    unfold blsD at e
    cases h : blsD ds with
    | none => rw [h] at e; cases e
    | some ms => rw [h] at e; cases e; rw [blsD_ok h]; rfl
  | .non :: _, _, e => by cases e
  | .int _ :: _, _, e => by cases e
  | .str _ :: _, _, e => by cases e
  | .tup _ :: _, _, e => by cases e
  | .lst _ :: _, _, e => by cases e
  | .dic _ _ :: _, _, e => by cases e
  | .set _ :: _, _, e => by cases e
  | .scr _ :: _, _, e => by cases e
  | .ty _ :: _, _, e => by cases e
  | .obj _ _ _ :: _, _, e => by cases e
  | .ins _ _ _ :: _, _, e => by cases e
theorem blsD_map : ∀ (ns : List Bool), blsD (ns.map D.bl) = some ns
  | [] => rfl
  | n :: ns => by
    show (blsD (ns.map D.bl)).map (n :: ·) = _
    rw [blsD_map ns]; rfl
theorem RepL.blsV : ∀ {vs : List V} {ns : List Bool}, RepL K F vs (ns.map D.bl) → vs = ns.map V.bl
  | _, [], .nil => rfl
  | _, n :: ns, .cons a b => by
    cases a
    rw [RepL.blsV b]
    rfl
/-! ### len -/
def lenD : List D → Option Val
  | [.lst xs] => some (.d (.int xs.length))
  | [.tup xs] => some (.d (.int xs.length))
  | [.scr xs] => some (.d (.int xs.length))
  | [.str z] => if z.length ≤ 16777216 then some (.d (.int z.length)) else none
  | _ => none
theorem cs_len : CallS K (fun xs H Q => (∃ p ys, xs = [.ref p] ∧ (SqL K H p ys ∨ SqT K H p ys) ∧ Q (.int ys.length) H) ∨ ∃ x n, xs = [x] ∧ LenV K x H n ∧ Q (.int n) H) lenD := by
  intro F H vs as z Q s ra e q
  unfold lenD at e
  split at e
  · cases e
    obtain ⟨v, rfl, r⟩ := rep1 ra
    obtain ⟨p, xs, rfl, hl, r⟩ := r.lst
    refine .inl ⟨p, xs, rfl, .inl (.of hl), ?_⟩
    rw [r.length]
    exact vn_int s q
  · cases e
    obtain ⟨v, rfl, r⟩ := rep1 ra
    obtain ⟨p, xs, rfl, hl, r⟩ := r.tup s
    refine .inl ⟨p, xs, rfl, .inr hl, ?_⟩
    rw [r.length]
    exact vn_int s q
  · cases e
    obtain ⟨v, rfl, r⟩ := rep1 ra
    obtain ⟨p, rfl, hl⟩ := r.scr s
    refine .inl ⟨p, _, rfl, .inl hl, ?_⟩
    rw [List.length_map]
    exact vn_int s q
  · split at e
    · rename_i hz
      cases e
      obtain ⟨v, rfl, r⟩ := rep1 ra
      obtain rfl := r.str
      exact .inr ⟨_, _, rfl, ⟨by rw [sizeLine_eq]; exact hz, rfl⟩, vn_int s q⟩
    · cases e
  · cases e
/-! ### numbers -/
def absD : List D → Option Val
  | [.int i] => some (.d (.int (if i < 0 then -i else i)))
  | _ => none
theorem cs_abs : CallS K (fun xs H Q => ∃ i, xs = [.int i] ∧ Q (.int (if i < 0 then -i else i)) H) absD := by
  intro F H vs as z Q s ra e q
  unfold absD at e
  split at e
  · cases e
    obtain ⟨v, rfl, r⟩ := rep1 ra
    obtain rfl := r.int
    exact ⟨_, rfl, vn_int s q⟩
  · cases e
def maxL : List Int → Int
  | [] => 0
  | x :: xs => xs.foldl max x
def minL : List Int → Int
  | [] => 0
  | x :: xs => xs.foldl min x
theorem foldl_max : ∀ (xs : List Int) (x : Int), (xs.foldl max x = x ∨ xs.foldl max x ∈ xs) ∧ x ≤ xs.foldl max x ∧ ∀ y ∈ xs, y ≤ xs.foldl max x
  | [], x => ⟨.inl rfl, Int.le_refl _, fun y h => nomatch h⟩
  | z :: xs, x => by
    obtain ⟨h1, h2, h3⟩ := foldl_max xs (max x z)
    rw [List.foldl_cons]
    refine ⟨?_, by omega, fun y hy => ?_⟩
    · rcases h1 with h1 | h1
      · rw [h1]
        by_cases q : x ≤ z
        · right; rw [Int.max_eq_right q]; exact List.mem_cons_self ..
        · left; omega
      · right; exact List.mem_cons_of_mem _ h1
    · rcases List.mem_cons.mp hy with rfl | hy
      · omega
      · exact h3 y hy
theorem foldl_min : ∀ (xs : List Int) (x : Int), (xs.foldl min x = x ∨ xs.foldl min x ∈ xs) ∧ xs.foldl min x ≤ x ∧ ∀ y ∈ xs, xs.foldl min x ≤ y
  | [], x => ⟨.inl rfl, Int.le_refl _, fun y h => nomatch h⟩
  | z :: xs, x => by
    obtain ⟨h1, h2, h3⟩ := foldl_min xs (min x z)
    rw [List.foldl_cons]
    refine ⟨?_, by omega, fun y hy => ?_⟩
    · rcases h1 with h1 | h1
      · rw [h1]
        by_cases q : x ≤ z
        · left; omega
        · right; rw [Int.min_eq_right (by omega)]; exact List.mem_cons_self ..
      · right; exact List.mem_cons_of_mem _ h1
    · rcases List.mem_cons.mp hy with rfl | hy
      · omega
      · exact h3 y hy
theorem maxL_mem {ns : List Int} (h : ns ≠ []) : maxL ns ∈ ns := by
  cases ns with
  | nil => exact absurd rfl h
  | cons x xs =>
    rcases (foldl_max xs x).1 with e | e
    · show xs.foldl max x ∈ _
      rw [e]; exact List.mem_cons_self ..
    · exact List.mem_cons_of_mem _ e
theorem maxL_le {ns : List Int} {y : Int} (h : y ∈ ns) : y ≤ maxL ns := by
  cases ns with
  | nil => exact nomatch h
  | cons x xs =>
    rcases List.mem_cons.mp h with rfl | h
    · exact (foldl_max xs y).2.1
    · exact (foldl_max xs x).2.2 y h
theorem minL_mem {ns : List Int} (h : ns ≠ []) : minL ns ∈ ns := by
  cases ns with
  | nil => exact absurd rfl h
  | cons x xs =>
    rcases (foldl_min xs x).1 with e | e
    · show xs.foldl min x ∈ _
      rw [e]; exact List.mem_cons_self ..
    · exact List.mem_cons_of_mem _ e
theorem minL_le {ns : List Int} {y : Int} (h : y ∈ ns) : minL ns ≤ y := by
  cases ns with
  | nil => exact nomatch h
  | cons x xs =>
    rcases List.mem_cons.mp h with rfl | h
    · exact (foldl_min xs y).2.1
    · exact (foldl_min xs x).2.2 y h
def maxD : List D → Option Val
  | [.int i, .int j] => some (.d (.int (max i j)))
  | [.lst ds] => match intsD ds with
    | some (n :: ns) => some (.d (.int (maxL (n :: ns))))
    | _ => none
  | _ => none
def minD : List D → Option Val
  | [.int i, .int j] => some (.d (.int (min i j)))
  | [.lst ds] => match intsD ds with
    | some (n :: ns) => some (.d (.int (minL (n :: ns))))
    | _ => none
  | _ => none
theorem cs_max : CallS K (fun xs H Q => (∃ i j, xs = [.int i, .int j] ∧ Q (.int (if j > i then j else i)) H) ∨ rMax K xs H Q) maxD := by
  intro F H vs as z Q s ra e q
  unfold maxD at e
  split at e
  · rename_i i j
    cases e
    obtain ⟨v, w, rfl, r, r'⟩ := rep2 ra
    obtain rfl := r.int
    obtain rfl := r'.int
    refine .inl ⟨i, j, rfl, ?_⟩
    rw [show (if j > i then j else i) = max i j by split <;> omega]
    exact vn_int s q
  · rename_i ds
    split at e
    · rename_i n ns hn
      cases e
      obtain ⟨v, rfl, r⟩ := rep1 ra
      obtain ⟨p, xs, rfl, hl, r⟩ := r.lst
      rw [intsD_ok hn] at r
      obtain rfl := r.intsV
      refine .inr ⟨p, _, rfl, .of hl, by simp, fun m h1 h2 => ?_⟩
      have e1 : m = maxL (n :: ns) := Int.le_antisymm (maxL_le h1) (h2 _ (maxL_mem (by simp)))
      rw [e1]
      exact vn_int s q
    · cases e
  · cases e
theorem cs_min : CallS K (fun xs H Q => (∃ i j, xs = [.int i, .int j] ∧ Q (.int (if j < i then j else i)) H) ∨ rMin K xs H Q) minD := by
  intro F H vs as z Q s ra e q
  unfold minD at e
  split at e
  · rename_i i j
    cases e
    obtain ⟨v, w, rfl, r, r'⟩ := rep2 ra
    obtain rfl := r.int
    obtain rfl := r'.int
    refine .inl ⟨i, j, rfl, ?_⟩
    rw [show (if j < i then j else i) = min i j by split <;> omega]
    exact vn_int s q
  · rename_i ds
    split at e
    · rename_i n ns hn
      cases e
      obtain ⟨v, rfl, r⟩ := rep1 ra
      obtain ⟨p, xs, rfl, hl, r⟩ := r.lst
      rw [intsD_ok hn] at r
      obtain rfl := r.intsV
      refine .inr ⟨p, _, rfl, .of hl, by simp, fun m h1 h2 => ?_⟩
      have e1 : m = minL (n :: ns) := Int.le_antisymm (h2 _ (minL_mem (by simp))) (minL_le h1)
      rw [e1]
      exact vn_int s q
    · cases e
  · cases e
def sumD : List D → Option Val
  | [.lst ds] => (intsD ds).map fun ns => .d (.int ns.sum)
  | _ => none
def allD : List D → Option Val
  | [.lst ds] => (blsD ds).map fun ns => .d (.bl (ns.all id))
  | _ => none
def anyD : List D → Option Val
  | [.lst ds] => (blsD ds).map fun ns => .d (.bl (ns.any id))
  | _ => none
theorem cs_all : CallS K (rAll K) allD := by
  intro F H vs as z Q s ra e q
  unfold allD at e
  split at e
  · rename_i ds
    cases hn : blsD ds with
    | none => rw [hn] at e; cases e
    | some ns =>
      rw [hn] at e
      cases e
      obtain ⟨v, rfl, r⟩ := rep1 ra
      obtain ⟨p, xs, rfl, hl, r⟩ := r.lst
      rw [blsD_ok hn] at r
      obtain rfl := r.blsV
      exact ⟨p, ns, rfl, .of hl, vn_bl s q⟩
  · cases e
def intD : List D → Option Val
  | [.int i] => some (.d (.int i))
  | [.bl b] => some (.d (.int (if b then 1 else 0)))
  | _ => none
theorem cs_int : CallS K (fun xs H Q => (∃ i, xs = [.int i] ∧ Q (.int i) H) ∨ ∃ k, xs = [.bl k] ∧ Q (.int (if k then 1 else 0)) H) intD := by
  intro F H vs as z Q s ra e q
  unfold intD at e
  split at e
  · cases e
    obtain ⟨v, rfl, r⟩ := rep1 ra
    obtain rfl := r.int
    exact .inl ⟨_, rfl, vn_int s q⟩
  · cases e
    obtain ⟨v, rfl, r⟩ := rep1 ra
    obtain rfl := r.bl
    exact .inr ⟨_, rfl, vn_int s q⟩
  · cases e
/-! ### sequences -/
def tupleD : List D → Option Val
  | [.lst xs] => some (.d (.tup xs))
  | [.tup xs] => some (.d (.tup xs))
  | _ => none
theorem cs_tuple : CallS K (fun xs H Q => ∃ p ys, xs = [.ref p] ∧ ((SqL K H p ys ∧ ∀ l, H l = none → Q (.ref l) (upd H l (.tup ys))) ∨ (SqT K H p ys ∧ Q (.ref p) H))) tupleD := by
  intro F H vs as z Q s ra e q
  unfold tupleD at e
  split at e
  · cases e
    obtain ⟨v, rfl, r⟩ := rep1 ra
    obtain ⟨p, xs, rfl, hl, r⟩ := r.lst
    exact ⟨p, xs, rfl, .inl ⟨.of hl, fun l n => vn_tup s q r n⟩⟩
  · cases e
    obtain ⟨v, rfl, r⟩ := rep1 ra
    have r' : Rep K F v (.tup _) := r
    obtain ⟨p, xs, rfl, hl, r⟩ := r.tup s
    exact ⟨p, xs, rfl, .inr ⟨hl, vn_d s q r'⟩⟩
  · cases e
def listD : List D → Option Val
  | [.lst xs] => some (.fr (.lst xs))
  | [.tup xs] => some (.fr (.lst xs))
  | _ => none
theorem cs_list : CallS K (fun xs H Q => ∃ p ys, xs = [.ref p] ∧ (SqL K H p ys ∨ SqT K H p ys) ∧ ∀ l, H l = none → Q (.ref l) (upd H l (.lst ys))) listD := by
  intro F H vs as z Q s ra e q
  unfold listD at e
  split at e
  · cases e
    obtain ⟨v, rfl, r⟩ := rep1 ra
    obtain ⟨p, xs, rfl, hl, r⟩ := r.lst
    exact ⟨p, xs, rfl, .inl (.of hl), fun l n => vn_lst s q r n⟩
  · cases e
    obtain ⟨v, rfl, r⟩ := rep1 ra
    obtain ⟨p, xs, rfl, hl, r⟩ := r.tup s
    exact ⟨p, xs, rfl, .inr hl, fun l n => vn_lst s q r n⟩
  · cases e
end
end
end DL
/-! DL7: statements. -/
namespace DL
open PySem PySem.Spec PyProof.Rows L2
variable [TabT]
inductive RS where
  | nx (ρ : DEnv) | rt (x : Val) (ρ : DEnv) | bk (ρ : DEnv) | ct (ρ : DEnv) | ex (x : Ex) (ρ : DEnv) | bad
abbrev SM := DEnv → RS
def R.bindS {α : Type} (r : R α) (g : α → DEnv → RS) : RS := match r with
  | .ok a ρ => g a ρ
  | .ex x ρ => .ex x ρ
  | .bad => .bad
def OutS (K : PySem.W.Frag) (mg : Str → Option Value) (W : WX) (σ : L2.St) (ρ : DEnv) (F H : Hp) (r : RS) (D : Ends) : Prop :=
  match r with
  | .nx ρ' => ∀ σ' F' H', SR K F' H' σ' ρ' → Ev σ ρ F H σ' ρ' F' H' → D.nx σ' H'
  | .bk ρ' => ∀ σ' F' H', SR K F' H' σ' ρ' → Ev σ ρ F H σ' ρ' F' H' → D.bk σ' H'
  | .ct ρ' => ∀ σ' F' H', SR K F' H' σ' ρ' → Ev σ ρ F H σ' ρ' F' H' → D.ct σ' H'
  | .rt x ρ' => ∀ v σ' F' H', SR K F' H' σ' ρ' → Ev σ ρ F H σ' ρ' F' H' → VR K σ' H F' H' ρ' v x → D.rt v H'
  | .ex x ρ' => ∀ cls dd σ' F' H', SR K F' H' σ' ρ' → Ev σ ρ F H σ' ρ' F' H' → XR K mg F' x cls dd → W cls dd σ' H'
  | .bad => False
def tS (K : PySem.W.Frag) (mg : Str → Option Value) (W : WX) (g : SM) : TS := fun D σ H => ∃ F ρ, SR K F H σ ρ ∧ OutS K mg W σ ρ F H (g ρ) D
def DS (X : Cx) (W : WX) (st : Stmt) (g : SM) : Prop := PS X st (tS X.K X.mg W g)
def DSs (X : Cx) (W : WX) (st : List Stmt) (g : SM) : Prop := PSs X st (tS X.K X.mg W g)
theorem ps_conseq {X : Cx} {st : Stmt} {t t' : TS} (h : PS X st t) (c : ∀ D σ H, t' D σ H → t D σ H) : PS X st t' := ⟨fun pins s σ H D I q => h.run pins s σ H D I (c _ _ _ q)⟩
theorem pss_conseq {X : Cx} {st : List Stmt} {t t' : TS} (h : PSs X st t) (c : ∀ D σ H, t' D σ H → t D σ H) : PSs X st t' := ⟨fun pins s σ H D I q => h.run pins s σ H D I (c _ _ _ q)⟩
section
variable {K : PySem.W.Frag} {mg : Str → Option Value} {W : WX} {σ σ1 : L2.St} {ρ ρ1 : DEnv} {F H F1 H1 : Hp}
theorem OutS.from {r : RS} {D : Ends} (h : OutS K mg W σ ρ F H r D) (ev : Ev σ ρ F H σ1 ρ1 F1 H1) : OutS K mg W σ1 ρ1 F1 H1 r D := by
  cases r with
  | nx ρ' => exact fun σ' F' H' s e => h σ' F' H' s (ev.trans e)
  | bk ρ' => exact fun σ' F' H' s e => h σ' F' H' s (ev.trans e)
  | ct ρ' => exact fun σ' F' H' s e => h σ' F' H' s (ev.trans e)
  | rt x ρ' => exact fun v σ' F' H' s e r => h v σ' F' H' s (ev.trans e) (r.base ev.dom)
  | ex x ρ' => exact fun c d σ' F' H' s e r => h c d σ' F' H' s (ev.trans e) r
  | bad => exact h
/-- an expression's outcome, then a statement's -/
theorem Out.bindS {α β : Type} {rel : RelT β α} {r : R α} {g : α → DEnv → RS} {D : Ends} (h : OutS K mg W σ ρ F H (r.bindS g) D) :
    Out K mg (fun c d H => W c d σ H) rel σ ρ F H r (fun v H1 => ∃ x F1 ρ1, r = .ok x ρ1 ∧ SR K F1 H1 σ ρ1 ∧ Ev σ ρ F H σ ρ1 F1 H1 ∧ rel H F1 H1 ρ1 v x ∧ OutS K mg W σ ρ F H (g x ρ1) D) := by
  cases r with
  | ok x ρ' => exact fun v F' H' s e r => ⟨x, F', ρ', rfl, s, e, r, h⟩
  | ex x ρ' => exact fun c d F' H' s e r => h c d σ F' H' s e r
  | bad => exact h
end
section
variable {X : Cx} {W : WX} {e c : Expr} {f : EM} {t : M Bool} {st : Stmt} {sts sts' : List Stmt} {g h : SM} {pos : Pos}
def sSkip : SM := .nx
def sSeq (g h : SM) : SM := fun ρ => match g ρ with
  | .nx ρ' => h ρ'
  | r => r
theorem ds_nil : DSs X W [] sSkip := pss_conseq pss_nil fun D σ H ⟨F, ρ, sr, q⟩ => q σ F H sr .refl
theorem ds_cons (h1 : DS X W st g) (h2 : DSs X W sts h) : DSs X W (st :: sts) (sSeq g h) := pss_conseq (pss_cons h1 h2) fun D σ H hq => by
  obtain ⟨F, ρ, sr, q⟩ := hq
  refine ⟨F, ρ, sr, ?_⟩
  unfold sSeq at q
  cases hg : g ρ with
  | nx ρ' => rw [hg] at q; exact fun σ' F' H' s ev => ⟨F', ρ', s, q.from ev⟩
  | rt x ρ' => rw [hg] at q; exact q
  | bk ρ' => rw [hg] at q; exact q
  | ct ρ' => rw [hg] at q; exact q
  | ex x ρ' => rw [hg] at q; exact q
  | bad => rw [hg] at q; exact q
theorem ds_one (h1 : DS X W st g) : DSs X W [st] g := pss_conseq (pss_one h1) fun D σ H hq => hq
def sBreak : SM := .bk
def sCont : SM := .ct
def sDrop (f : EM) : SM := fun ρ => (f ρ).bindS fun _ ρ1 => .nx ρ1
theorem ds_expr (he : DE X W e f) (hs : swapsWith e none pos.line X.env = pure false := by rfl) : DS X W (.Expr e pos) (sDrop f) := ps_conseq (ps_expr he hs) fun D σ H hq => by
  obtain ⟨F, ρ, sr, q⟩ := hq
  refine ⟨F, ρ, sr, (Out.bindS (rel := relV X.K σ) q).mono fun v H1 ⟨x, F1, ρ1, e1, s1, ev1, r1, o1⟩ => o1 σ F1 H1 s1 ev1⟩
def sRet (f : EM) : SM := fun ρ => (f ρ).bindS fun x ρ1 => .rt x ρ1
theorem ds_ret (he : DE X W e f) : DS X W (.Return (some e) pos) (sRet f) := ps_conseq (ps_ret he) fun D σ H hq => by
  obtain ⟨F, ρ, sr, q⟩ := hq
  exact ⟨F, ρ, sr, (Out.bindS (rel := relV X.K σ) q).mono fun v H1 ⟨x, F1, ρ1, e1, s1, ev1, r1, o1⟩ => o1 v σ F1 H1 s1 ev1 r1⟩
def sRetN : SM := fun ρ => .rt (.d .non) ρ
def sIf (t : M Bool) (g h : SM) : SM := fun ρ => (t ρ).bindS fun b ρ1 => if b = true then g ρ1 else h ρ1
theorem ds_if (hc : DT X W c t) (h1 : DSs X W sts g) (h2 : DSs X W sts' h) : DS X W (.If c sts sts' pos) (sIf t g h) := ps_conseq (ps_if hc h1 h2) fun D σ H hq => by
  obtain ⟨F, ρ, sr, q⟩ := hq
  refine ⟨F, ρ, sr, (Out.bindS (rel := relB) q).mono fun v H1 ⟨x, F1, ρ1, e1, s1, ev1, r1, o1⟩ => ?_⟩
  have r1 : v = x := r1
  subst r1
  have o2 := o1.from ev1
  cases v with
  | true => exact ⟨F1, ρ1, s1, o2⟩
  | false => exact ⟨F1, ρ1, s1, o2⟩
/-! ### names stored -/
def put (i : Nat) (s : Slot) (ρ : DEnv) : RS := match ρ[i]? with
  | some .un => .nx (ρ.set i s)
  | some (.d _) => .nx (ρ.set i s)
  | some (.ow _ .own) => .nx (ρ.set i s)
  | _ => .bad
def asgV (i : Nat) (x : Val) : SM := fun ρ => match x with
  | .fr c => put i (.ow c .own) ρ
  | x => (x.fz ρ).bindS fun y ρ1 => match y with
    | .d d => put i (.d d) ρ1
    | _ => .bad
section
variable {K : PySem.W.Frag} {mg : Str → Option Value} {σ σb : L2.St} {ρ ρb ρ' : DEnv} {Fb Hb F H : Hp} {v : V} {i : Nat}
theorem put_nx {s : Slot} (h : put i s ρ = .nx ρ') : i < ρ.length ∧ ρ' = ρ.set i s ∧ ∀ c m, ρ[i]? = some (.ow c m) → m = .own := by
  unfold put at h
  cases q : ρ[i]? with
  | none => rw [q] at h; cases h
  | some t =>
    have hl : i < ρ.length := by
      rcases Nat.lt_or_ge i ρ.length with z | z
      · exact z
      · rw [List.getElem?_eq_none z] at q; cases q
    rw [q] at h
    cases t with
    | un => cases h; exact ⟨hl, rfl, fun c m e => by cases e⟩
    | d x => cases h; exact ⟨hl, rfl, fun c m e => by cases e⟩
    | ow c m =>
      cases m with
      | own => cases h; exact ⟨hl, rfl, fun c m e => by cases e; rfl⟩
      | bor => cases h
      | lck => cases h
theorem put_cases (s : Slot) (ρ : DEnv) (i : Nat) : put i s ρ = .bad ∨ ∃ ρ', put i s ρ = .nx ρ' := by
  unfold put
  split <;> first | exact .inl rfl | exact .inr ⟨_, rfl⟩
/-- what the store brings: data, or a new object of ours -/
def PutOk (K : PySem.W.Frag) (σ : L2.St) (ρ : DEnv) (Hb F H : Hp) (v : V) : Slot → Prop
  | .un => True
  | .d x => Rep K F v x
  | .ow c m => m = .own ∧ ∃ p, v = .ref p ∧ Hb p = none ∧ F p = none ∧ CRep K F H p c ∧ ¬ Ow σ ρ p
theorem put_ok {s : Slot} (sr : SR K F H σ ρ) (ev : Ev σb ρb Fb Hb σ ρ F H) (ok : PutOk K σ ρ Hb F H v s) (h : put i s ρ = .nx ρ') :
    SR K F H (σ.set i (some v)) ρ' ∧ Ev σb ρb Fb Hb (σ.set i (some v)) ρ' F H := by
  obtain ⟨hl, rfl, hm⟩ := put_nx h
  have hlσ : i < σ.length := by rw [sr.len]; exact hl
  have at_i : (ρ.set i s)[i]? = some s := List.getElem?_set_self hl
  have at_σ : (σ.set i (some v))[i]? = some (some v) := List.getElem?_set_self hlσ
  have ow_of : ∀ {j : Nat} {c : Cont} {m : Md} {a : Addr}, (ρ.set i s)[j]? = some (.ow c m) → (σ.set i (some v))[j]? = some (some (.ref a)) → (j = i ∧ s = .ow c m ∧ v = .ref a) ∨ (j ≠ i ∧ ρ[j]? = some (.ow c m) ∧ σ[j]? = some (some (.ref a))) := fun {j c m a} e1 e2 => by
    by_cases hj : i = j
    · subst hj
      rw [at_i] at e1
      rw [at_σ] at e2
      cases e1; cases e2
      exact .inl ⟨rfl, rfl, rfl⟩
    · rw [List.getElem?_set_ne hj] at e1 e2
      exact .inr ⟨fun z => hj z.symm, e1, e2⟩
  refine ⟨⟨by rw [List.length_set, List.length_set]; exact sr.len, sr.sub, fun j t e => ?_, fun j k c1 m1 c2 m2 a e1 e2 e3 e4 => ?_, sr.tab⟩, ⟨ev.ext, ev.keep, ev.newF, ev.dom, fun j c m e n => ?_, fun a z => ?_, fun a z => ?_⟩⟩
  · by_cases hj : i = j
    · subst hj
      rw [at_i] at e
      cases e
      refine ⟨some v, at_σ, ?_⟩
      cases s with
      | un => trivial
      | d x => exact ⟨v, rfl, ok⟩
      | ow c m =>
        obtain ⟨_, p, rfl, _, nF, cr, _⟩ := ok
        exact ⟨p, rfl, nF, cr⟩
    · rw [List.getElem?_set_ne hj] at e ⊢
      exact sr.slot j t e
  · rcases ow_of e1 e3 with ⟨rfl, e5, rfl⟩ | ⟨n1, f1, f3⟩
    · rcases ow_of e2 e4 with ⟨rfl, _, _⟩ | ⟨n2, f2, f4⟩
      · rfl
      · subst e5
        obtain ⟨_, p, e6, _, _, _, no⟩ := ok
        cases e6
        exact absurd ⟨k, c2, m2, f2, f4⟩ no
    · rcases ow_of e2 e4 with ⟨rfl, e5, rfl⟩ | ⟨n2, f2, f4⟩
      · subst e5
        obtain ⟨_, p, e6, _, _, _, no⟩ := ok
        cases e6
        exact absurd ⟨j, c1, m1, f1, f3⟩ no
      · exact sr.dist j k c1 m1 c2 m2 a f1 f2 f3 f4
  · obtain ⟨z1, c', z2, z3⟩ := ev.bor j c m e n
    have hj : i ≠ j := fun hj => by subst hj; exact n (hm c' m z2)
    rw [List.getElem?_set_ne hj, List.getElem?_set_ne hj]
    exact ⟨z1, c', z2, z3⟩
  · obtain ⟨j, c, m, e1, e2⟩ := z
    rcases ow_of e1 e2 with ⟨rfl, e5, rfl⟩ | ⟨n1, f1, f3⟩
    · subst e5
      obtain ⟨_, p, e6, nb, _⟩ := ok
      cases e6
      exact .inl nb
    · exact ev.own' a ⟨j, c, m, f1, f3⟩
  · obtain ⟨j, c, m, e1, hm', e2⟩ := z
    rcases ow_of e1 e2 with ⟨rfl, e5, rfl⟩ | ⟨n1, f1, f3⟩
    · subst e5
      obtain ⟨_, p, e6, nb, _⟩ := ok
      cases e6
      exact .inl nb
    · exact ev.mt' a ⟨j, c, m, f1, hm', f3⟩
/-- a store of a value: the outcome at the new slots -/
theorem asg_ok {W : WX} {x : Val} {D : Ends} (sr : SR K F H σ ρ) (ev : Ev σb ρb Fb Hb σ ρ F H) (r : VR K σ Hb F H ρ v x) (h : OutS K mg W σb ρb Fb Hb (asgV i x ρ) D) : ∃ ρ', asgV i x ρ = .nx ρ' ∧ ∃ F', SR K F' H (σ.set i (some v)) ρ' ∧ Ev σb ρb Fb Hb (σ.set i (some v)) ρ' F' H := by
  have frz : ∀ {y : Val} {ρ1 : DEnv}, x.fz ρ = .ok y ρ1 → OutS K mg W σb ρb Fb Hb (match y with | .d d => put i (.d d) ρ1 | _ => .bad) D → ∃ ρ', (match y with | .d d => put i (.d d) ρ1 | _ => RS.bad) = .nx ρ' ∧ ∃ F', SR K F' H (σ.set i (some v)) ρ' ∧ Ev σb ρb Fb Hb (σ.set i (some v)) ρ' F' H := fun {y ρ1} e o => by
    obtain ⟨F2, d, rfl, s2, ev2, r2⟩ := fz_ok sr ev r e
    dsimp only at o ⊢
    rcases put_cases (.d d) ρ1 i with q | ⟨ρ', q⟩
    · rw [q] at o; exact o.elim
    · refine ⟨ρ', q, F2, ?_⟩
      exact put_ok s2 ev2 (s := .d d) r2 q
  cases x with
  | fr c =>
    unfold asgV at h ⊢
    dsimp only at h ⊢
    obtain ⟨p, e, nb, nF, cr, no⟩ := r
    rcases put_cases (.ow c .own) ρ i with q | ⟨ρ', q⟩
    · rw [q] at h; exact h.elim
    · exact ⟨ρ', q, F, put_ok sr ev (s := .ow c .own) ⟨rfl, p, e, nb, nF, cr, no⟩ q⟩
  | d d =>
    unfold asgV at h ⊢
    exact frz (y := .d d) rfl h
  | sl j =>
    unfold asgV at h ⊢
    dsimp only at h ⊢
    cases hz : (Val.sl j).fz ρ with
    | bad => rw [hz] at h; exact h.elim
    | ex z ρ2 =>
      exfalso
      unfold Val.fz at hz
      dsimp only at hz
      split at hz <;> cases hz
    | ok y ρ1 =>
      rw [hz] at h
      exact frz hz h
end
def sAsg (i : Nat) (f : EM) : SM := fun ρ => (f ρ).bindS fun x ρ1 => asgV i x ρ1
theorem ds_asg (i : Nat) {x : Str} {pos' : Pos} (hN : X.N.Nodup) (he : DE X W e f) (hi : X.N[i]? = some x := by rfl) (hx : Loc X.env.scope x := by first | exact .inl rfl | exact .inr rfl) (hs : swapsWith e (some (.Name x pos')) pos.line X.env = pure false := by rfl) (hf : X.fn x = true ∨ X.env.scope.names.lookup x = some .local := by first | exact .inl rfl | exact .inr rfl) :
    DS X W (.Assign [.Name x pos'] e pos) (sAsg i f) := ps_conseq (ps_set hN hi hx he hs hf) fun D σ H hq => by
  obtain ⟨F, ρ, sr, q⟩ := hq
  refine ⟨F, ρ, sr, (Out.bindS (rel := relV X.K σ) q).mono fun v H1 ⟨x, F1, ρ1, e1, s1, ev1, r1, o1⟩ => ?_⟩
  obtain ⟨ρ', e2, F2, s2, ev2⟩ := asg_ok s1 ev1 r1 o1
  rw [e2] at o1
  exact o1 _ F2 H1 s2 ev2
/-! ### targets -/
/-- σ' is as σ but for the slots of S -/
def Off (S : List Nat) (σ σ' : L2.St) : Prop := σ'.length = σ.length ∧ ∀ j, j ∉ S → σ'[j]? = σ[j]?
theorem Off.refl {S : List Nat} {σ : L2.St} : Off S σ σ := ⟨rfl, fun _ _ => rfl⟩
theorem Off.trans {S T : List Nat} {σ σ1 σ2 : L2.St} (a : Off S σ σ1) (b : Off T σ1 σ2) : Off (S ++ T) σ σ2 := ⟨b.1.trans a.1, fun j h => by
  rw [List.mem_append, not_or] at h
  exact (b.2 j h.2).trans (a.2 j h.1)⟩
def OutN (K : PySem.W.Frag) (S : List Nat) (σ σb : L2.St) (ρb : DEnv) (Fb Hb : Hp) (r : RS) (Q : L2.St → Hp → Prop) : Prop := match r with
  | .nx ρ' => ∀ σ' F' H', SR K F' H' σ' ρ' → Ev σb ρb Fb Hb σ' ρ' F' H' → Off S σ σ' → Q σ' H'
  | _ => False
def tG (K : PySem.W.Frag) (S : List Nat) (g : Val → SM) : TG := fun v σ H Q => ∃ σb ρb Fb Hb F ρ x, SR K F H σ ρ ∧ Ev σb ρb Fb Hb σ ρ F H ∧ VR K σ Hb F H ρ v x ∧ OutN K S σ σb ρb Fb Hb (g x ρ) Q
def DG (X : Cx) (tg : Expr) (S : List Nat) (g : Val → SM) : Prop := PG X tg (tG X.K S g)
theorem pg_conseq {tg : Expr} {t t' : TG} (h : PG X tg t) (c : ∀ v σ H Q, t' v σ H Q → t v σ H Q) : PG X tg t' := ⟨fun pins s σ H v u Q I r q => h.run pins s σ H v u Q I r (c _ _ _ _ q)⟩
theorem OutN.outS {K : PySem.W.Frag} {mg : Str → Option Value} {S : List Nat} {σ σb : L2.St} {ρb : DEnv} {Fb Hb : Hp} {r : RS} {Q : L2.St → Hp → Prop} (h : OutN K S σ σb ρb Fb Hb r Q) :
    ∃ ρ', r = .nx ρ' ∧ ∀ σ' F' H', SR K F' H' σ' ρ' → Ev σb ρb Fb Hb σ' ρ' F' H' → Off S σ σ' → Q σ' H' := by
  cases r <;> first | exact ⟨_, rfl, h⟩ | exact h.elim
theorem dg_name (i : Nat) {x : Str} (hN : X.N.Nodup) (hi : X.N[i]? = some x := by rfl) (hx : Loc X.env.scope x := by first | exact .inl rfl | exact .inr rfl) (hf : X.fn x = true ∨ X.env.scope.names.lookup x = some .local := by first | exact .inl rfl | exact .inr rfl) : DG X (.Name x pos) [i] (fun x => asgV i x) :=
  pg_conseq (pg_name hN hi hx hf) fun v σ H Q ⟨σb, ρb, Fb, Hb, F, ρ, x, sr, ev, r, q⟩ => by
    dsimp only at q
    obtain ⟨ρ', e1, q1⟩ := q.outS (mg := X.mg)
    obtain ⟨ρ2, e2, F2, s2, ev2⟩ := asg_ok (mg := X.mg) (W := fun _ _ _ _ => True) (D := { nx := fun _ _ => True, rt := fun _ _ => True }) sr ev r (by rw [e1]; exact fun _ _ _ _ _ => trivial)
    rw [e1] at e2
    cases e2
    refine q1 _ F2 H s2 ev2 ⟨List.length_set, fun j h => ?_⟩
    rw [List.getElem?_set_ne]
    exact fun z => h (by simp [z])
end
end DL
/-! DL8: tuple targets, parallel stores, op= at a name. -/
namespace DL
open PySem PySem.Spec PyProof.Rows L2
variable [TabT]
section
variable {X : Cx} {W : WX} {e c : Expr} {es : List Expr} {f : EM} {g : M (List Val)} {st : Stmt} {sts : List Stmt} {pos : Pos}
/-! ### (a, b, ..) as a target -/
def RS.thenS (r : RS) (h : SM) : RS := match r with
  | .nx ρ' => h ρ'
  | r => r
def tGs (K : PySem.W.Frag) (S : List Nat) (g : List D → SM) : TGs := fun vs σ H Q => ∃ σb ρb Fb Hb F ρ ds, SR K F H σ ρ ∧ Ev σb ρb Fb Hb σ ρ F H ∧ RepL K F vs ds ∧ OutN K S σ σb ρb Fb Hb (g ds ρ) Q
def DGs (X : Cx) (tgs : List Expr) (S : List Nat) (g : List D → SM) : Prop := PGs X tgs (tGs X.K S g)
theorem pgs_conseq {tgs : List Expr} {t t' : TGs} (h : PGs X tgs t) (c : ∀ v σ H Q, t' v σ H Q → t v σ H Q) : PGs X tgs t' := ⟨fun pins s σ H v u Q I r q => h.run pins s σ H v u Q I r (c _ _ _ _ q)⟩
def gsNil : List D → SM := fun ds ρ => match ds with
  | [] => .nx ρ
  | _ => .bad
def gsCons (g : Val → SM) (h : List D → SM) : List D → SM := fun ds ρ => match ds with
  | d :: ds => (g (.d d) ρ).thenS (h ds)
  | [] => .bad
theorem dgs_nil : DGs X [] [] gsNil := pgs_conseq pgs_nil fun vs σ H Q hq => by
  obtain ⟨σb, ρb, Fb, Hb, F, ρ, ds, sr, ev, r, q⟩ := hq
  cases r with
  | nil => exact ⟨rfl, q σ F H sr ev .refl⟩
  | cons a b => exact q.elim
theorem dgs_cons {S T : List Nat} {h : List D → SM} {g : Val → SM} {tg : Expr} {tgs : List Expr} (h1 : DG X tg S g) (h2 : DGs X tgs T h) (hs : (assignEach (tg :: tgs) X.env).map (·.2) = assign tg X.env :: (assignEach tgs X.env).map (·.2) := by rfl) : DGs X (tg :: tgs) (S ++ T) (gsCons g h) :=
  pgs_conseq (pgs_cons h1 h2 hs) fun vs σ H Q hq => by
    obtain ⟨σb, ρb, Fb, Hb, F, ρ, ds, sr, ev, r, q⟩ := hq
    cases r with
    | nil => exact q.elim
    | cons a b =>
      rename_i v vs d ds
      refine ⟨v, vs, rfl, σ, ρ, F, H, F, ρ, .d d, sr, .refl, a, ?_⟩
      dsimp only [gsCons] at q
      cases hg : g (.d d) ρ with
      | nx ρ1 =>
        rw [hg] at q
        refine fun σ' F' H' s1 ev1 of1 => ⟨σb, ρb, Fb, Hb, F', ρ1, ds, s1, ev.trans ev1, b.mono (.of ev1.ext), ?_⟩
        obtain ⟨ρ2, e2, q2⟩ := OutN.outS (mg := X.mg) q
        have e3 : h ds ρ1 = .nx ρ2 := e2
        rw [e3]
        exact fun σ2 F2 H2 s2 ev2 of2 => q2 σ2 F2 H2 s2 ev2 (of1.trans of2)
      | rt x ρ' => rw [hg] at q; exact q.elim
      | bk ρ' => rw [hg] at q; exact q.elim
      | ct ρ' => rw [hg] at q; exact q.elim
      | ex x ρ' => rw [hg] at q; exact q.elim
      | bad => rw [hg] at q; exact q.elim
def tupG (n : Nat) (h : List D → SM) : Val → SM := fun x ρ => match x.peek ρ with
  | some (.tup ds) => if ds.length = n then h ds ρ else .bad
  | some (.lst ds) => if ds.length = n then h ds ρ else .bad
  | _ => .bad
theorem pg_or {tg : Expr} {t t' : TG} (h1 : PG X tg t) (h2 : PG X tg t') : PG X tg (fun v σ H Q => t v σ H Q ∨ t' v σ H Q) := ⟨fun pins s σ H v u Q I r hw => hw.elim (h1.run pins s σ H v u Q I r) (h2.run pins s σ H v u Q I r)⟩
theorem dg_tup (n : Nat) {S : List Nat} {h : List D → SM} {tgs : List Expr} {k : Nat} (hc : X.calm = true) (hh : DGs X tgs S h) (hn : (assignEach tgs X.env).length = n := by rfl) (hst : (assignEach tgs X.env).findIdx? (·.1) = none := by rfl) : DG X (.Tuple tgs k pos) S (tupG n h) :=
  pg_conseq (pg_or (pg_tup hc hh hn hst) (pg_unl hc hh hn hst)) fun v σ H Q hq => by
    obtain ⟨σb, ρb, Fb, Hb, F, ρ, x, sr, ev, r, q⟩ := hq
    unfold tupG at q
    cases hx : x.peek ρ with
    | none => rw [hx] at q; exact q.elim
    | some d =>
      rw [hx] at q
      cases d with
      | tup ds =>
        dsimp only at q
        split at q
        · rename_i hl
          have rt := r.peek sr hx
          obtain ⟨a, xs, rfl, hs, rl⟩ := rt.tup sr.sub
          exact .inl ⟨a, xs, rfl, hs, by rw [rl.length]; exact hl, σb, ρb, Fb, Hb, F, ρ, ds, sr, ev, rl, q⟩
        · exact q.elim
      | lst ds =>
        dsimp only at q
        split at q
        · rename_i hl
          have rt := r.peek sr hx
          obtain ⟨a, xs, rfl, hs, rl⟩ := rt.lst
          exact .inr ⟨a, xs, rfl, .of hs, by rw [rl.length]; exact hl, σb, ρb, Fb, Hb, F, ρ, ds, sr, ev, rl, q⟩
        · exact q.elim
      | _ => exact q.elim
/-- target = e, any target -/
def sTgt (f : EM) (g : Val → SM) : SM := fun ρ => (f ρ).bindS g
theorem ds_tgt {tg : Expr} {S : List Nat} {g : Val → SM} (he : DE X W e f) (hg : DG X tg S g) (hg2 : ∀ x ρ, (∃ ρ', g x ρ = .nx ρ') ∨ g x ρ = .bad) (hs : swapsWithSole [tg] e pos.line X.env = pure false := by rfl) (hw : swappedStores [tg] e X.env = pure none := by rfl)
    (h1 : (assignEach [tg] X.env).map (·.2) = [assign tg X.env] := by rfl) : DS X W (.Assign [tg] e pos) (sTgt f g) := ps_conseq (ps_asg he hg hs hw h1) fun D σ H hq => by
  obtain ⟨F, ρ, sr, q⟩ := hq
  refine ⟨F, ρ, sr, (Out.bindS (rel := relV X.K σ) q).mono fun v H1 ⟨x, F1, ρ1, e1, s1, ev1, r1, o1⟩ => ?_⟩
  refine ⟨σ, ρ, F, H, F1, ρ1, x, s1, ev1, r1, ?_⟩
  rcases hg2 x ρ1 with ⟨ρ', h⟩ | h
  · rw [h] at o1 ⊢
    exact fun σ' F' H' s e _ => o1 σ' F' H' s e
  · rw [h] at o1; exact o1.elim
/-- only .nx or .bad -/
def NxG (g : Val → SM) : Prop := ∀ x ρ, (∃ ρ', g x ρ = .nx ρ') ∨ g x ρ = .bad
def NxGs (g : List D → SM) : Prop := ∀ x ρ, (∃ ρ', g x ρ = .nx ρ') ∨ g x ρ = .bad
theorem nx_asgV (i : Nat) : NxG (fun x => asgV i x) := fun x ρ => by
  dsimp only
  unfold asgV
  cases x with
  | fr c => exact (put_cases _ _ _).symm
  | d d => exact (put_cases _ _ _).symm
  | sl j =>
    dsimp only
    cases hz : (Val.sl j).fz ρ with
    | bad => exact .inr rfl
    | ex z ρ2 =>
      exfalso
      unfold Val.fz at hz
      dsimp only at hz
      split at hz <;> cases hz
    | ok y ρ1 =>
      cases y with
      | d d => exact (put_cases _ _ _).symm
      | fr c => exact .inr rfl
      | sl j => exact .inr rfl
theorem nx_gsNil : NxGs gsNil := fun ds ρ => by
  cases ds with
  | nil => exact .inl ⟨ρ, rfl⟩
  | cons d ds => exact .inr rfl
theorem nx_gsCons {g : Val → SM} {h : List D → SM} (hg : NxG g) (hh : NxGs h) : NxGs (gsCons g h) := fun ds ρ => by
  cases ds with
  | nil => exact .inr rfl
  | cons d ds =>
    show (∃ ρ', (g (.d d) ρ).thenS (h ds) = .nx ρ') ∨ (g (.d d) ρ).thenS (h ds) = .bad
    rcases hg (.d d) ρ with ⟨ρ', e⟩ | e
    · rw [e]; exact hh ds ρ'
    · rw [e]; exact .inr rfl
theorem nx_tupG {n : Nat} {h : List D → SM} (hh : NxGs h) : NxG (tupG n h) := fun x ρ => by
  unfold tupG
  split
  · split
    · exact hh _ ρ
    · exact .inr rfl
  · split
    · exact hh _ ρ
    · exact .inr rfl
  · exact .inr rfl
/-! ### a, b = e1, e2 -/
/-- a slot's object is frozen, a fresh one stays fresh -/
def nsl (f : EM) : EM := fun ρ => (f ρ).bind fun x ρ1 => match x with
  | .sl i => Val.fz (.sl i) ρ1
  | x => .ok x ρ1
theorem de_nsl (H : DE X W e f) : DE X W e (nsl f) := by
  refine pe_conseq H fun σ H Q hq => ?_
  obtain ⟨F, ρ, sr, q⟩ := hq
  refine ⟨F, ρ, sr, (Out.bind (rel := relV X.K σ) q).mono fun v H1 h1 => ?_⟩
  obtain ⟨x, F1, ρ1, e1, s1, ev1, r1, o1⟩ := h1
  cases x with
  | d x => exact o1 v F1 H1 s1 ev1 r1
  | fr c => exact o1 v F1 H1 s1 ev1 r1
  | sl i =>
    dsimp only at o1
    cases hx : (Val.sl i).fz ρ1 with
    | bad => rw [hx] at o1; exact o1.elim
    | ex z ρ2 =>
      exfalso
      unfold Val.fz at hx
      dsimp only at hx
      split at hx <;> cases hx
    | ok y ρ2 =>
      rw [hx] at o1
      obtain ⟨F2, d, rfl, s2, ev2, r2⟩ := fz_ok s1 ev1 r1 hx
      exact o1 v F2 H1 s2 ev2 r2
def asgs : List Nat → List Val → SM
  | [], [] => .nx
  | i :: is, .d d :: xs => fun ρ => (put i (.d d) ρ).thenS (asgs is xs)
  | i :: is, .fr c :: xs => fun ρ => (put i (.ow c .own) ρ).thenS (asgs is xs)
  | _, _ => fun _ => .bad
def setAll (σ : L2.St) : List Nat → List V → L2.St
  | i :: is, v :: vs => setAll (σ.set i (some v)) is vs
  | _, _ => σ
theorem ow_set {σ : L2.St} {ρ : DEnv} {i : Nat} {v : V} {s : Slot} {a : Addr} (h : Ow (σ.set i (some v)) (ρ.set i s) a) : Ow σ ρ a ∨ ((∃ c m, s = .ow c m) ∧ v = .ref a) := by
  obtain ⟨j, c, m, e1, e2⟩ := h
  by_cases hj : i = j
  · subst hj
    have l1 : i < ρ.length := by
      rcases Nat.lt_or_ge i (ρ.set i s).length with z | z
      · simpa using z
      · rw [List.getElem?_eq_none z] at e1; cases e1
    have l2 : i < σ.length := by
      rcases Nat.lt_or_ge i (σ.set i (some v)).length with z | z
      · simpa using z
      · rw [List.getElem?_eq_none z] at e2; cases e2
    rw [List.getElem?_set_self l1] at e1
    rw [List.getElem?_set_self l2] at e2
    cases e1; cases e2
    exact .inr ⟨⟨c, m, rfl⟩, rfl⟩
  · rw [List.getElem?_set_ne hj] at e1 e2
    exact .inl ⟨j, c, m, e1, e2⟩
theorem asgs_ok {K : PySem.W.Frag} {mg : Str → Option Value} {σb : L2.St} {ρb : DEnv} {Fb Hb F H : Hp} {D : Ends} : ∀ {is : List Nat} {xs : List Val} {vs : List V} {σ : L2.St} {ρ : DEnv}, SR K F H σ ρ → Ev σb ρb Fb Hb σ ρ F H → VRL K σ Hb F H ρ vs xs →
    OutS K mg W σb ρb Fb Hb (asgs is xs ρ) D → ∃ ρ', asgs is xs ρ = .nx ρ' ∧ SR K F H (setAll σ is vs) ρ' ∧ Ev σb ρb Fb Hb (setAll σ is vs) ρ' F H
  | [], [], [], σ, ρ, sr, ev, r, o => ⟨ρ, rfl, sr, ev⟩
  | [], _ :: _, _, σ, ρ, sr, ev, r, o => o.elim
  | _ :: _, [], _, σ, ρ, sr, ev, r, o => o.elim
  | i :: is, x :: xs, v :: vs, σ, ρ, sr, ev, r, o => by
    have rx : VR K σ Hb F H ρ v x := paired_get (i := 0) r.all rfl rfl
    have rest : ∀ {s : Slot} {ρ1 : DEnv}, put i s ρ = .nx ρ1 → (∀ c m, s = .ow c m → x = .fr c) → VRL K (σ.set i (some v)) Hb F H ρ1 vs xs ∨ ∃ j, .sl j ∈ xs := fun {s ρ1} hp hs => by
      obtain ⟨hl, rfl, hm⟩ := put_nx hp
      by_cases hj : ∃ j, Val.sl j ∈ xs
      · exact .inr hj
      · left
        have all : Paired (VR K σ Hb F H ρ) vs xs := by cases r.all; assumption
        have key : ∀ (k : Nat) (c : Cont) (p : Addr), xs[k]? = some (.fr c) → vs[k]? = some (.ref p) → Ow (σ.set i (some v)) (ρ.set i s) p → Ow σ ρ p := fun k c p e1 e2 z => by
          rcases ow_set z with z | ⟨⟨c', m, e3⟩, e4⟩
          · exact z
          · exact absurd (r.frs 0 (k + 1) c' c p (by simp [hs c' m e3]) (by simpa using e1) (by simp [e4]) (by simpa using e2)) (by omega)
        refine ⟨?_, fun j k c c' p h1 h2 h3 h4 => by have := r.frs (j + 1) (k + 1) c c' p (by simpa using h1) (by simpa using h2) (by simpa using h3) (by simpa using h4); omega⟩
        have go : ∀ {vs' : List V} {xs' : List Val}, Paired (VR K σ Hb F H ρ) vs' xs' → (¬ ∃ j, Val.sl j ∈ xs') → (∀ (k : Nat) (c : Cont) (p : Addr), xs'[k]? = some (.fr c) → vs'[k]? = some (.ref p) → Ow (σ.set i (some v)) (ρ.set i s) p → Ow σ ρ p) → Paired (VR K (σ.set i (some v)) Hb F H (ρ.set i s)) vs' xs' := by
          intro vs' xs' h
          induction h with
          | nil => intro _ _; exact .nil
          | @cons a b l m hab t ih =>
            intro nj k
            refine .cons ?_ (ih (fun ⟨j, hj⟩ => nj ⟨j, List.mem_cons_of_mem _ hj⟩) fun n c p e1 e2 => k (n + 1) c p (by simpa using e1) (by simpa using e2))
            cases b with
            | d x => exact hab
            | sl j => exact absurd ⟨j, List.mem_cons_self ..⟩ nj
            | fr c =>
              obtain ⟨p, e, nb, nF, cr, no⟩ := hab
              exact ⟨p, e, nb, nF, cr, fun z => no (k 0 c p rfl (by simp [e]) z)⟩
        exact go all hj key
    have nosl : ∀ {is : List Nat} {xs : List Val} {ρ : DEnv} {D : Ends}, (∃ j, Val.sl j ∈ xs) → ¬ OutS K mg W σb ρb Fb Hb (asgs is xs ρ) D := by
      intro is
      induction is with
      | nil => intro xs ρ D ⟨j, hj⟩ o; cases xs with
        | nil => exact nomatch hj
        | cons x xs => exact o
      | cons i is ih =>
        intro xs ρ D ⟨j, hj⟩ o
        cases xs with
        | nil => exact nomatch hj
        | cons x xs =>
          cases x with
          | sl k => exact o
          | d d =>
            have hj : Val.sl j ∈ xs := by rcases List.mem_cons.mp hj with e | e; cases e; exact e
            dsimp only [asgs] at o
            rcases put_cases (.d d) ρ i with q | ⟨ρ', q⟩
            · rw [q] at o; exact o
            · rw [q] at o; exact ih ⟨j, hj⟩ o
          | fr c =>
            have hj : Val.sl j ∈ xs := by rcases List.mem_cons.mp hj with e | e; cases e; exact e
            dsimp only [asgs] at o
            rcases put_cases (.ow c .own) ρ i with q | ⟨ρ', q⟩
            · rw [q] at o; exact o
            · rw [q] at o; exact ih ⟨j, hj⟩ o
    cases x with
    | sl j => exact o.elim
    | d d =>
      dsimp only [asgs] at o ⊢
      rcases put_cases (.d d) ρ i with q | ⟨ρ1, q⟩
      · rw [q] at o; exact o.elim
      · rw [q] at o ⊢
        obtain ⟨s1, ev1⟩ := put_ok sr ev (s := .d d) rx q
        rcases rest q (fun c m e => by cases e) with r1 | hj
        · exact asgs_ok s1 ev1 r1 o
        · exact absurd o (nosl hj)
    | fr c =>
      dsimp only [asgs] at o ⊢
      rcases put_cases (.ow c .own) ρ i with q | ⟨ρ1, q⟩
      · rw [q] at o; exact o.elim
      · rw [q] at o ⊢
        obtain ⟨p, e, nb, nF, cr, no⟩ := rx
        obtain ⟨s1, ev1⟩ := put_ok sr ev (s := .ow c .own) ⟨rfl, p, e, nb, nF, cr, no⟩ q
        rcases rest q (fun c m e => by cases e; rfl) with r1 | hj
        · exact asgs_ok s1 ev1 r1 o
        · exact absurd o (nosl hj)
def sPar (is : List Nat) (g : M (List Val)) : SM := fun ρ => (g ρ).bindS fun xs ρ1 => asgs is xs ρ1
theorem par_ok {is : List Nat} {D : Ends} {σ : L2.St} {H : Hp} (hq : tS X.K X.mg W (sPar is g) D σ H) : tA X.K X.mg W g σ H fun vs H1 => vs.length = is.length ∧ D.nx (setAll σ is vs) H1 ∧ ∀ p, H1 p = none → ∀ o, D.nx (setAll σ is vs) (upd H1 p o) := by
  obtain ⟨F, ρ, sr, q⟩ := hq
  refine ⟨F, ρ, sr, (Out.bindS (rel := relL X.K σ) q).mono fun vs H1 ⟨xs, F1, ρ1, e1, s1, ev1, r1, o1⟩ => ?_⟩
  obtain ⟨ρ', e2, s2, ev2⟩ := asgs_ok s1 ev1 r1 o1
  have hl : ∀ {is : List Nat} {xs : List Val} {ρ ρ' : DEnv}, asgs is xs ρ = .nx ρ' → is.length = xs.length := by
    intro is
    induction is with
    | nil => intro xs ρ ρ' h; cases xs with
      | nil => rfl
      | cons x xs => cases h
    | cons i is ih =>
      intro xs ρ ρ' h
      cases xs with
      | nil => cases h
      | cons x xs =>
        cases x with
        | sl k => cases h
        | d d =>
          dsimp only [asgs] at h
          rcases put_cases (.d d) ρ i with q | ⟨ρ2, q⟩
          · rw [q] at h; cases h
          · rw [q] at h; exact congrArg (· + 1) (ih h)
        | fr c =>
          dsimp only [asgs] at h
          rcases put_cases (.ow c .own) ρ i with q | ⟨ρ2, q⟩
          · rw [q] at h; cases h
          · rw [q] at h; exact congrArg (· + 1) (ih h)
  rw [e2] at o1
  refine ⟨by rw [hl e2]; exact r1.all.length, o1 _ F1 H1 s2 ev2, fun p n o => ?_⟩
  have g := Gr.fresh (o := o) s2.sub n
  exact o1 _ F1 _ (g.sr s2) (ev2.trans g.ev)
/-- plain local names: stored from the right -/
theorem ds_par2 (i j : Nat) {x y : Str} {a b : Expr} {px py pt : Pos} {kt k2 pt2} (hc : X.calm = true) (hN : X.N.Nodup) (ha : DA X W [a, b] g) (hi : X.N[i]? = some x := by rfl) (hj : X.N[j]? = some y := by rfl) (hij : i ≠ j := by decide)
    (hx : X.env.scope.names.lookup x = some .local := by rfl) (hy : X.env.scope.names.lookup y = some .local := by rfl)
    (hw : swappedStores [.Tuple [.Name x px, .Name y py] kt pt] (.Tuple [a, b] k2 pt2) X.env = pure (some [x, y]) := by rfl)
    (hs : swapsWithSole [.Tuple [.Name x px, .Name y py] kt pt] (.Tuple [a, b] k2 pt2) pos.line X.env = pure false := by rfl) :
    DS X W (.Assign [.Tuple [.Name x px, .Name y py] kt pt] (.Tuple [a, b] k2 pt2) pos) (sPar [i, j] g) :=
  ps_conseq (ps_par hc hN hi hj hij hx hy ha hw hs) fun D σ H hq => by
    obtain ⟨F, ρ, sr, q⟩ := par_ok hq
    refine ⟨F, ρ, sr, q.mono fun vs H1 ⟨hl, n1, n2⟩ => ?_⟩
    match vs, hl, n1 with
    | [v, w], _, n1 => exact ⟨v, w, rfl, n1⟩
theorem ds_par3 (i j l : Nat) {x y z : Str} {a b c : Expr} {px py pz pt : Pos} {kt k2 pt2} (hc : X.calm = true) (hN : X.N.Nodup) (ha : DA X W [a, b, c] g) (hi : X.N[i]? = some x := by rfl) (hj : X.N[j]? = some y := by rfl) (hl : X.N[l]? = some z := by rfl) (hij : i ≠ j := by decide) (hil : i ≠ l := by decide) (hjl : j ≠ l := by decide)
    (hx : X.env.scope.names.lookup x = some .local := by rfl) (hy : X.env.scope.names.lookup y = some .local := by rfl) (hz : X.env.scope.names.lookup z = some .local := by rfl)
    (hw : swappedStores [.Tuple [.Name x px, .Name y py, .Name z pz] kt pt] (.Tuple [a, b, c] k2 pt2) X.env = pure (some [x, y, z]) := by rfl)
    (hs : swapsWithSole [.Tuple [.Name x px, .Name y py, .Name z pz] kt pt] (.Tuple [a, b, c] k2 pt2) pos.line X.env = pure false := by rfl) :
    DS X W (.Assign [.Tuple [.Name x px, .Name y py, .Name z pz] kt pt] (.Tuple [a, b, c] k2 pt2) pos) (sPar [i, j, l] g) :=
  ps_conseq (ps_par3 hc hN hi hj hl hij hil hjl hx hy hz ha hw hs) fun D σ H hq => by
    obtain ⟨F, ρ, sr, q⟩ := par_ok hq
    refine ⟨F, ρ, sr, q.mono fun vs H1 ⟨hl, n1, n2⟩ => ?_⟩
    match vs, hl, n1 with
    | [v, w, u], _, n1 => exact ⟨v, w, u, rfl, n1⟩
/-- through a tuple: some name is a cell, or the values are written constants -/
theorem ds_parT2 (i j : Nat) {x y : Str} {px py pt : Pos} {kt k2 pt2} (hc : X.calm = true) (hN : X.N.Nodup) (ha : DA X W es g) (hi : X.N[i]? = some x := by rfl) (hj : X.N[j]? = some y := by rfl)
    (hx : Loc X.env.scope x := by first | exact .inl rfl | exact .inr rfl) (hy : Loc X.env.scope y := by first | exact .inl rfl | exact .inr rfl) (hf : X.fn x = true ∨ X.env.scope.names.lookup x = some .local := by first | exact .inl rfl | exact .inr rfl) (hf2 : X.fn y = true ∨ X.env.scope.names.lookup y = some .local := by first | exact .inl rfl | exact .inr rfl)
    (hs : swapsWithSole [.Tuple [.Name x px, .Name y py] kt pt] (.Tuple es k2 pt2) pos.line X.env = pure false := by rfl) (hw : swappedStores [.Tuple [.Name x px, .Name y py] kt pt] (.Tuple es k2 pt2) X.env = pure none := by rfl) :
    DS X W (.Assign [.Tuple [.Name x px, .Name y py] kt pt] (.Tuple es k2 pt2) pos) (sPar [i, j] g) :=
  ps_conseq (ps_asg (pe_tup ha) (pg_tup hc (pgs_cons (pg_name hN hi hx hf) (pgs_cons (pg_name hN hj hy hf2) pgs_nil))) hs hw) fun D σ H hq => by
    obtain ⟨F, ρ, sr, q⟩ := par_ok hq
    refine ⟨F, ρ, sr, q.mono fun vs H1 ⟨hl, n1, n2⟩ => ?_⟩
    match vs, hl, n1, n2 with
    | [v, w], _, n1, n2 => exact ⟨by show 2 ≤ sizeLine; decide, fun p n => ⟨p, [v, w], rfl, .of upd_same, rfl, v, [w], rfl, w, [], rfl, rfl, n2 p n _⟩⟩
theorem ds_parT3 (i j l : Nat) {x y z : Str} {px py pz pt : Pos} {kt k2 pt2} (hc : X.calm = true) (hN : X.N.Nodup) (ha : DA X W es g) (hi : X.N[i]? = some x := by rfl) (hj : X.N[j]? = some y := by rfl) (hl : X.N[l]? = some z := by rfl)
    (hx : Loc X.env.scope x := by first | exact .inl rfl | exact .inr rfl) (hy : Loc X.env.scope y := by first | exact .inl rfl | exact .inr rfl) (hz : Loc X.env.scope z := by first | exact .inl rfl | exact .inr rfl) (hf : X.fn x = true ∨ X.env.scope.names.lookup x = some .local := by first | exact .inl rfl | exact .inr rfl) (hf2 : X.fn y = true ∨ X.env.scope.names.lookup y = some .local := by first | exact .inl rfl | exact .inr rfl) (hf3 : X.fn z = true ∨ X.env.scope.names.lookup z = some .local := by first | exact .inl rfl | exact .inr rfl)
    (hs : swapsWithSole [.Tuple [.Name x px, .Name y py, .Name z pz] kt pt] (.Tuple es k2 pt2) pos.line X.env = pure false := by rfl) (hw : swappedStores [.Tuple [.Name x px, .Name y py, .Name z pz] kt pt] (.Tuple es k2 pt2) X.env = pure none := by rfl) :
    DS X W (.Assign [.Tuple [.Name x px, .Name y py, .Name z pz] kt pt] (.Tuple es k2 pt2) pos) (sPar [i, j, l] g) :=
  ps_conseq (ps_asg (pe_tup ha) (pg_tup hc (pgs_cons (pg_name hN hi hx hf) (pgs_cons (pg_name hN hj hy hf2) (pgs_cons (pg_name hN hl hz hf3) pgs_nil)))) hs hw) fun D σ H hq => by
    obtain ⟨F, ρ, sr, q⟩ := par_ok hq
    refine ⟨F, ρ, sr, q.mono fun vs H1 ⟨hl, n1, n2⟩ => ?_⟩
    match vs, hl, n1, n2 with
    | [v, w, u], _, n1, n2 => exact ⟨by show 3 ≤ sizeLine; decide, fun p n => ⟨p, [v, w, u], rfl, .of upd_same, rfl, v, [w, u], rfl, w, [u], rfl, u, [], rfl, rfl, n2 p n _⟩⟩
end
end DL
/-! DL9: what is walked; for, while. -/
namespace DL
open PySem PySem.Spec PyProof.Rows L2
variable [TabT]
/-- what is walked: its items; the slot whose object is walked -/
abbrev Src := List D × Option Nat
structure ItS (K : PySem.W.Frag) (J : It) (ds : List D) (Pre : Hp → Hp → Prop) : Prop where
  go : ∀ i F H, i < ds.length → Same F H → Pre F H → J.go i H
  yld : ∀ i x F H H', i < ds.length → Same F H → Pre F H → J.yld i H x H' → ∃ d F', ds[i]? = some d ∧ Gr F H F' H' ∧ Rep K F' x d
  stop : ∀ i F H, ds.length ≤ i → Same F H → Pre F H → J.stop i H
/-- what was there stays: the frozen part, the locked object -/
def PreI (σ : L2.St) (lk : Option Nat) (F1 H1 F H : Hp) : Prop := Same F1 F ∧ ∀ i, lk = some i → ∀ a o, σ[i]? = some (some (.ref a)) → H1 a = some o → H a = some o
def relI (K : PySem.W.Frag) (σ : L2.St) : RelT It Src := fun _ F H ρ J src => ItS K J src.1 (PreI σ src.2 F H) ∧ ∀ i, src.2 = some i → ∃ c m, ρ[i]? = some (.ow c m)
abbrev IM := M Src
def tI (K : PySem.W.Frag) (mg : Str → Option Value) (W : WX) (f : IM) : TI := fun σ H R => ∃ F ρ, SR K F H σ ρ ∧ Out K mg (fun c d H => W c d σ H) (relI K σ) σ ρ F H (f ρ) R
def DI (X : Cx) (W : WX) (tg iter : Expr) (f : IM) : Prop := PI X tg iter (tI X.K X.mg W f)
theorem pi_conseq {X : Cx} {tg iter : Expr} {t t' : TI} (h : PI X tg iter t) (c : ∀ σ H R, t' σ H R → t σ H R) : PI X tg iter t' := ⟨fun pins s σ H R I q => h.run pins s σ H R I (c _ _ _ q)⟩
theorem pi_or {X : Cx} {tg iter : Expr} {t t' : TI} (h : PI X tg iter t) (h' : PI X tg iter t') : PI X tg iter (fun σ H R => t σ H R ∨ t' σ H R) := ⟨fun pins s σ H R I q => q.elim (h.run pins s σ H R I) (h'.run pins s σ H R I)⟩
section
variable {K : PySem.W.Frag} {F H : Hp}
theorem its_tup {σ : L2.St} {lk : Option Nat} {a : Addr} {xs : List V} {ds : List D} {F1 H1 : Hp} (r : RepL K F1 xs ds) (h : ∀ F H, Same F H → PreI σ lk F1 H1 F H → SqT K H a xs) : ItS K (Itt K a) ds (PreI σ lk F1 H1) where
  go := fun i F H hi s p => by
    have hl : i < xs.length := by rw [r.length]; exact hi
    exact ⟨xs, xs[i], h F H s p, List.getElem?_eq_getElem hl⟩
  yld := fun i x F H H' hi s p ⟨e, hy⟩ => by
    subst e
    have q := hy xs (h F _ s p)
    obtain ⟨d, h1, h2⟩ := r.getV q
    exact ⟨d, F, h1, .refl s, h2.mono (.of p.1)⟩
  stop := fun i F H hi s p => ⟨xs, h F H s p, by rw [r.length]; exact hi⟩
theorem its_range {σ : L2.St} {lk : Option Nat} {lo : Int} {n : Nat} {F1 H1 : Hp} : ItS K (Itr lo n) ((List.range n).map fun i : Nat => D.int (lo + (i : Int))) (PreI σ lk F1 H1) where
  go := fun i F H hi s p => by
    show i < n
    simpa using hi
  yld := fun i x F H H' hi s p ⟨e, hx⟩ => by
    subst e; subst hx
    have hi : i < n := by simpa using hi
    exact ⟨_, F, by rw [List.getElem?_map, List.getElem?_range hi]; rfl, .refl s, .int _⟩
  stop := fun i F H hi s p => by
    show n ≤ i
    simpa using hi
end
/-! ### sources -/
def seqSrc (x : Val) (ρ : DEnv) : R Src := match x with
  | .d (.lst ds) => .ok (ds, none) ρ
  | .d (.tup ds) => .ok (ds, none) ρ
  | .fr (.lst ds) => .ok (ds, none) ρ
  | .sl i => match ρ[i]? with
    | some (.d (.lst ds)) => .ok (ds, none) ρ
    | some (.d (.tup ds)) => .ok (ds, none) ρ
    | some (.ow (.lst ds) _) => .ok (ds, some i) ρ
    | _ => .bad
  | _ => .bad
def iSeq (f : EM) : IM := fun ρ => (f ρ).bind seqSrc
section
variable {X : Cx} {W : WX} {tg e : Expr} {f : EM} {es : List Expr} {g : M (List Val)} {p pos : Pos}
/-- as its_list, whatever else may be read at a: the loop's own look is at the list that stands -/
theorem its_list' {K : PySem.W.Frag} {σ : L2.St} {lk : Option Nat} {a : Addr} {xs : List V} {ds : List D} {F1 H1 : Hp} (r : RepL K F1 xs ds) (h : ∀ F H, Same F H → PreI σ lk F1 H1 F H → SqL K H a xs) : ItS K (Itl K a) ds (PreI σ lk F1 H1) where
  go := fun i F H hi s p => by
    have hl : i < xs.length := by rw [r.length]; exact hi
    exact ⟨xs, xs[i], h F H s p, List.getElem?_eq_getElem hl⟩
  yld := fun i x F H H' hi s p ⟨e, hy⟩ => by
    subst e
    have q := hy xs (h F _ s p)
    obtain ⟨d, h1, h2⟩ := r.getV q
    exact ⟨d, F, h1, .refl s, h2.mono (.of p.1)⟩
  stop := fun i F H hi s p => ⟨xs, h F H s p, by rw [r.length]; exact hi⟩
theorem di_seq (he : DE X W e f) : DI X W tg e (iSeq f) := pi_conseq (pi_or (pi_list he) (pi_tup he)) fun σ H R hq => by
  obtain ⟨F, ρ, sr, q⟩ := hq
  -- a frozen sequence
  have lstD : ∀ {ds : List D} {v : V} {F1 H1 : Hp} {ρ1 : DEnv}, SR X.K F1 H1 σ ρ1 → Rep X.K F1 v (.lst ds) → ∃ a, v = .ref a ∧ (∃ xs, SqL X.K H1 a xs) ∧ relI X.K σ H F1 H1 ρ1 (Itl X.K a) (ds, none) := fun {ds v F1 H1 ρ1} s1 r => by
    cases r with
    | lst e r => exact ⟨_, rfl, ⟨_, .of (s1.sub _ _ e)⟩, its_list' r (fun F' H' s p => .of (s _ _ (p.1 _ _ e))), fun i h => by cases h⟩
  have tupD : ∀ {ds : List D} {v : V} {F1 H1 : Hp} {ρ1 : DEnv}, SR X.K F1 H1 σ ρ1 → Rep X.K F1 v (.tup ds) → ∃ a, v = .ref a ∧ (∃ xs, SqT X.K H1 a xs) ∧ relI X.K σ H F1 H1 ρ1 (Itt X.K a) (ds, none) := fun {ds v F1 H1 ρ1} s1 r => by
    cases r with
    | tup e r => exact ⟨_, rfl, ⟨_, (RdLe.of s1.sub).sqT e⟩, its_tup r (fun F' H' s p => (RdLe.of s).sqT ((RdLe.of p.1).sqT e)), fun i h => by cases h⟩
  unfold iSeq at q
  cases h1 : f ρ with
  | bad => rw [h1] at q; exact q.elim
  | ex x ρ1 => rw [h1] at q; exact .inl ⟨F, ρ, sr, by rw [h1]; exact q⟩
  | ok x ρ1 =>
    rw [h1] at q
    have q : Out X.K X.mg (fun c d H => W c d σ H) (relI X.K σ) σ ρ F H (seqSrc x ρ1) R := q
    cases x with
    | d x =>
      cases x with
      | lst ds =>
        refine .inl ⟨F, ρ, sr, ?_⟩
        rw [h1]
        intro v F1 H1 s1 ev1 r1
        obtain ⟨a, rfl, hx, rel⟩ := lstD s1 r1
        exact ⟨a, rfl, hx, q _ F1 H1 s1 ev1 rel⟩
      | tup ds =>
        refine .inr ⟨F, ρ, sr, ?_⟩
        rw [h1]
        intro v F1 H1 s1 ev1 r1
        obtain ⟨a, rfl, hx, rel⟩ := tupD s1 r1
        exact ⟨a, rfl, hx, q _ F1 H1 s1 ev1 rel⟩
      | _ => exact q.elim
    | fr c =>
      cases c with
      | dic ks vs => exact q.elim
      | lst ds =>
        refine .inl ⟨F, ρ, sr, ?_⟩
        rw [h1]
        intro v F1 H1 s1 ev1 r1
        obtain ⟨F2, d, e2, s2, ev2, r2⟩ := fz_ok s1 ev1 r1 rfl
        cases e2
        obtain ⟨a, rfl, hx, rel⟩ := lstD s2 r2
        exact ⟨a, rfl, hx, q _ F2 H1 s2 ev2 rel⟩
    | sl i =>
      unfold seqSrc at q
      dsimp only at q
      cases hs : ρ1[i]? with
      | none => rw [hs] at q; exact q.elim
      | some sl =>
        rw [hs] at q
        cases sl with
        | un => exact q.elim
        | d x =>
          cases x with
          | lst ds =>
            refine .inl ⟨F, ρ, sr, ?_⟩
            rw [h1]
            intro v F1 H1 s1 ev1 r1
            obtain ⟨ov, g1, u, g2, g3⟩ := s1.slot i _ hs
            have r1 : σ[i]? = some (some v) := r1
            rw [r1] at g1; cases g1; cases g2
            obtain ⟨a, rfl, hx, rel⟩ := lstD s1 g3
            exact ⟨a, rfl, hx, q _ F1 H1 s1 ev1 rel⟩
          | tup ds =>
            refine .inr ⟨F, ρ, sr, ?_⟩
            rw [h1]
            intro v F1 H1 s1 ev1 r1
            obtain ⟨ov, g1, u, g2, g3⟩ := s1.slot i _ hs
            have r1 : σ[i]? = some (some v) := r1
            rw [r1] at g1; cases g1; cases g2
            obtain ⟨a, rfl, hx, rel⟩ := tupD s1 g3
            exact ⟨a, rfl, hx, q _ F1 H1 s1 ev1 rel⟩
          | _ => exact q.elim
        | ow c m =>
          cases c with
          | dic ks vs => exact q.elim
          | lst ds =>
            refine .inl ⟨F, ρ, sr, ?_⟩
            rw [h1]
            intro v F1 H1 s1 ev1 r1
            obtain ⟨ov, g1, a, g2, g3, xs, g4, g5⟩ := s1.slot i _ hs
            have r1 : σ[i]? = some (some v) := r1
            rw [r1] at g1; cases g1; cases g2
            refine ⟨a, rfl, ⟨xs, .of g4⟩, q _ F1 H1 s1 ev1 ⟨its_list' g5 fun F' H' s p => .of (p.2 i rfl a _ r1 g4), fun j h => by cases h; exact ⟨_, _, hs⟩⟩⟩
def iRng (g : M (List Val)) : IM := fun ρ => (g ρ).bind fun xs ρ1 => match xs with
  | [.d (.int j)] => if -(2 ^ 62) ≤ j ∧ j < 2 ^ 62 then .ok ((List.range j.toNat).map fun k : Nat => D.int (0 + (k : Int)), none) ρ1 else .bad
  | [.d (.int i), .d (.int j)] => if -(2 ^ 62) ≤ i ∧ i < 2 ^ 62 ∧ -(2 ^ 62) ≤ j ∧ j < 2 ^ 62 then .ok ((List.range (j - i).toNat).map fun k : Nat => D.int (i + (k : Int)), none) ρ1 else .bad
  | _ => .bad
theorem di_range1 {a : Expr} (hg : Gl X "range") (hm : X.mg "range" = none) (ha : DA X W [a] g) (hs : starEach [a] X.env = [(false, eval a X.env)] := by rfl) (one : ∀ ρ xs ρ', g ρ = .ok xs ρ' → xs.length = 1) : DI X W tg (.Call (.Name "range" p) [a] [] pos) (iRng g) := pi_conseq (pi_range1 hg hm ha hs) fun σ H R hq => by
  obtain ⟨F, ρ, sr, q⟩ := hq
  refine ⟨F, ρ, sr, (Out.bind (rel := relL X.K σ) q).mono fun vs H1 ⟨xs, F1, ρ1, e1, s1, ev1, r1, o1⟩ => ?_⟩
  have hl := one _ _ _ e1
  split at o1
  · rename_i j
    split at o1
    · rename_i hj
      obtain ⟨v, rfl, rv⟩ : ∃ v, vs = [v] ∧ VR X.K σ H F1 H1 ρ1 v (.d (.int j)) := by
        cases r1.all with
        | cons a t => cases t; exact ⟨_, rfl, a⟩
      obtain rfl := vr_int rv
      exact ⟨j, rfl, hj.1, hj.2, o1 _ F1 H1 s1 ev1 ⟨its_range, fun i h => by cases h⟩⟩
    · exact o1.elim
  · simp at hl
  · exact o1.elim
theorem aNil_len {ρ : DEnv} {xs : List Val} {ρ' : DEnv} (h : aNil ρ = .ok xs ρ') : xs.length = 0 := by cases h; rfl
theorem aCons_len {n : Nat} (hg : ∀ ρ xs ρ', g ρ = .ok xs ρ' → xs.length = n) : ∀ ρ xs ρ', aCons f g ρ = .ok xs ρ' → xs.length = n + 1 := fun ρ xs ρ' h => by
  unfold aCons at h
  cases h1 : f ρ with
  | bad => rw [h1] at h; cases h
  | ex x ρ1 => rw [h1] at h; cases h
  | ok x ρ1 =>
    rw [h1] at h
    simp only [R.bind] at h
    cases h2 : g ρ1 with
    | bad => rw [h2] at h; cases h
    | ex x ρ1 => rw [h2] at h; cases h
    | ok ys ρ2 => rw [h2] at h; cases h; rw [List.length_cons, hg _ _ _ h2]
/-! ### locks -/
def lockS (lk : Option Nat) (ρ : DEnv) : DEnv := match lk with
  | none => ρ
  | some i => match ρ[i]? with
    | some (.ow c _) => ρ.set i (.ow c .lck)
    | _ => ρ
def unlk (lk : Option Nat) (ρ0 ρ : DEnv) : DEnv := match lk with
  | none => ρ
  | some i => match ρ0[i]? with
    | some (.ow c m) => ρ.set i (.ow c m)
    | _ => ρ
def unlkS (lk : Option Nat) (ρ0 : DEnv) : RS → RS
  | .nx ρ => .nx (unlk lk ρ0 ρ)
  | .bk ρ => .bk (unlk lk ρ0 ρ)
  | .ct ρ => .ct (unlk lk ρ0 ρ)
  | .rt x ρ => .rt x (unlk lk ρ0 ρ)
  | .ex x ρ => .ex x (unlk lk ρ0 ρ)
  | .bad => .bad
section
variable {K : PySem.W.Frag} {mg : Str → Option Value} {σ σ' : L2.St} {ρ ρ' : DEnv} {F H F' H' : Hp} {lk : Option Nat}
theorem ow_mode {ρ ρ2 : DEnv} {σ : L2.St} (h : ∀ (i : Nat) (c : Cont) (m : Md), ρ[i]? = some (.ow c m) → ∃ m', ρ2[i]? = some (.ow c m')) {a : Addr} (z : Ow σ ρ a) : Ow σ ρ2 a := by
  obtain ⟨i, c, m, e, q⟩ := z
  obtain ⟨m', e'⟩ := h i c m e
  exact ⟨i, c, m', e', q⟩
/-- one slot's mode is another one -/
theorem sr_mode {i : Nat} {c : Cont} {m m' : Md} (sr : SR K F H σ ρ) (e : ρ[i]? = some (.ow c m)) : SR K F H σ (ρ.set i (.ow c m')) := by
  have hl : i < ρ.length := (List.getElem?_eq_some_iff.mp e).1
  have at' : ∀ {j : Nat} {s : Slot}, (ρ.set i (.ow c m'))[j]? = some s → (j = i ∧ s = .ow c m') ∨ (j ≠ i ∧ ρ[j]? = some s) := fun {j s} q => by
    by_cases hj : i = j
    · subst hj
      rw [List.getElem?_set_self hl] at q
      cases q
      exact .inl ⟨rfl, rfl⟩
    · rw [List.getElem?_set_ne hj] at q
      exact .inr ⟨fun z => hj z.symm, q⟩
  refine ⟨by rw [List.length_set]; exact sr.len, sr.sub, fun j s q => ?_, fun j k c1 m1 c2 m2 a q1 q2 q3 q4 => ?_, sr.tab⟩
  · rcases at' q with ⟨rfl, rfl⟩ | ⟨_, q⟩
    · obtain ⟨ov, z1, z2⟩ := sr.slot j _ e
      exact ⟨ov, z1, z2⟩
    · exact sr.slot j s q
  · rcases at' q1 with ⟨h1, z1⟩ | ⟨_, w1⟩ <;> rcases at' q2 with ⟨h2, z2⟩ | ⟨_, w2⟩
    · rw [h1, h2]
    · subst h1; exact sr.dist _ _ _ _ _ _ a e w2 q3 q4
    · subst h2; exact sr.dist _ _ _ _ _ _ a w1 e q3 q4
    · exact sr.dist _ _ _ _ _ _ a w1 w2 q3 q4
theorem lock_sr (sr : SR K F H σ ρ) : SR K F H σ (lockS lk ρ) := by
  unfold lockS
  split
  · exact sr
  · split
    · rename_i e; exact sr_mode sr e
    · exact sr
/-- back from the locked state -/
theorem unlk_ok (sr : SR K F H σ ρ) (s' : SR K F' H' σ' ρ') (ev : Ev σ (lockS lk ρ) F H σ' ρ' F' H') : SR K F' H' σ' (unlk lk ρ ρ') ∧ Ev σ ρ F H σ' (unlk lk ρ ρ') F' H' := by
  cases lk with
  | none => exact ⟨s', ev⟩
  | some i =>
    unfold lockS unlk at *
    dsimp only at *
    split
    · rename_i c m e
      rw [e] at ev
      dsimp only at ev
      have hl : i < ρ.length := (List.getElem?_eq_some_iff.mp e).1
      have eL : (ρ.set i (.ow c .lck))[i]? = some (.ow c .lck) := List.getElem?_set_self hl
      obtain ⟨b1, c', b2, b3⟩ := ev.bor i c .lck eL (by decide)
      obtain rfl := b3 rfl
      have hl' : i < ρ'.length := (List.getElem?_eq_some_iff.mp b2).1
      have owL : ∀ {a : Addr}, Ow σ (ρ.set i (.ow c' .lck)) a → Ow σ ρ a := fun {a} z => ow_mode (fun j c1 m1 q => by
        by_cases hj : i = j
        · subst hj; rw [eL] at q; cases q; exact ⟨m, e⟩
        · rw [List.getElem?_set_ne hj] at q; exact ⟨m1, q⟩) z
      have mtL : ∀ {a : Addr}, Mt σ (ρ.set i (.ow c' .lck)) a → Mt σ ρ a := fun {a} z => by
        obtain ⟨j, c1, m1, q, n, q2⟩ := z
        by_cases hj : i = j
        · subst hj; rw [eL] at q; cases q; exact absurd rfl n
        · rw [List.getElem?_set_ne hj] at q; exact ⟨j, c1, m1, q, n, q2⟩
      have owU : ∀ {a : Addr}, Ow σ' (ρ'.set i (.ow c' m)) a → Ow σ' ρ' a := fun {a} z => ow_mode (fun j c1 m1 q => by
        by_cases hj : i = j
        · subst hj; rw [List.getElem?_set_self hl'] at q; cases q; exact ⟨_, b2⟩
        · rw [List.getElem?_set_ne hj] at q; exact ⟨m1, q⟩) z
      refine ⟨sr_mode s' b2, ⟨ev.ext, fun a o q n nt => ev.keep a o q (fun z => n (mtL z)) nt, fun a q n => (ev.newF a q n).imp id owL, ev.dom, fun j c1 m1 q n => ?_, fun a z => (ev.own' a (owU z)).imp id owL, fun a z => ?_⟩⟩
      · by_cases hj : i = j
        · subst hj
          rw [e] at q; cases q
          exact ⟨b1, c', List.getElem?_set_self hl', fun _ => rfl⟩
        · obtain ⟨z1, c2, z2, z3⟩ := ev.bor j c1 m1 (by rw [List.getElem?_set_ne hj]; exact q) n
          exact ⟨z1, c2, by rw [List.getElem?_set_ne hj]; exact z2, z3⟩
      · obtain ⟨j, c1, m1, q, n, q2⟩ := z
        by_cases hj : i = j
        · subst hj
          rw [List.getElem?_set_self hl'] at q
          cases q
          right
          exact ⟨i, c', m, e, n, by rw [← b1]; exact q2⟩
        · rw [List.getElem?_set_ne hj] at q
          exact (ev.mt' a ⟨j, c1, m1, q, n, q2⟩).imp id mtL
    · rename_i hn
      have : (match ρ[i]? with | some (.ow c m) => ρ.set i (.ow c .lck) | x => ρ) = ρ := by
        split
        · rename_i c m e; exact absurd e (hn c m)
        · rfl
      rw [this] at ev
      exact ⟨s', ev⟩
theorem OutS.lock {W : WX} {r : RS} {D : Ends} (sr : SR K F H σ ρ) (h : OutS K mg W σ ρ F H (unlkS lk ρ r) D) : OutS K mg W σ (lockS lk ρ) F H r D := by
  cases r with
  | nx ρ' => exact fun σ' F' H' s e => let ⟨s2, e2⟩ := unlk_ok sr s e; h σ' F' H' s2 e2
  | bk ρ' => exact fun σ' F' H' s e => let ⟨s2, e2⟩ := unlk_ok sr s e; h σ' F' H' s2 e2
  | ct ρ' => exact fun σ' F' H' s e => let ⟨s2, e2⟩ := unlk_ok sr s e; h σ' F' H' s2 e2
  | ex x ρ' => exact fun c d σ' F' H' s e r => let ⟨s2, e2⟩ := unlk_ok sr s e; h c d σ' F' H' s2 e2 r
  | bad => exact h
  | rt x ρ' =>
    refine fun v σ' F' H' s e r => let ⟨s2, e2⟩ := unlk_ok sr s e; h v σ' F' H' s2 e2 ?_
    cases x with
    | d x => exact r
    | sl i => exact r
    | fr c =>
      obtain ⟨p, e1, nb, nF, cr, no⟩ := r
      refine ⟨p, e1, nb, nF, cr, fun z => no ?_⟩
      unfold unlk at z
      split at z
      · exact z
      · rename_i i
        split at z
        · rename_i c' m q
          have hl : i < ρ.length := (List.getElem?_eq_some_iff.mp q).1
          obtain ⟨b1, c2, b2, b3⟩ := e.bor i c' .lck (by unfold lockS; dsimp only; rw [q]; exact List.getElem?_set_self hl) (by decide)
          obtain rfl := b3 rfl
          exact ow_mode (fun j c1 m1 q' => by
            by_cases hj : i = j
            · subst hj; rw [List.getElem?_set_self (List.getElem?_eq_some_iff.mp b2).1] at q'; cases q'; exact ⟨_, b2⟩
            · rw [List.getElem?_set_ne hj] at q'; exact ⟨m1, q'⟩) z
        · exact z
/-- what is walked stays while it is locked -/
theorem pre_lock {σ1 : L2.St} {F1 H1 F2 H2 : Hp} {ρ1 : DEnv} (sr : SR K F H σ ρ) (hk : ∀ i, lk = some i → ∃ c m, ρ[i]? = some (.ow c m)) (ev : Ev σ (lockS lk ρ) F H σ1 ρ1 F1 H1) : PreI σ lk F H F1 H1 := by
  refine ⟨ev.ext, fun i e a o q1 q2 => ?_⟩
  subst e
  obtain ⟨c, m, q⟩ := hk i rfl
  obtain ⟨ov, w1, a', w2, w3, w4⟩ := sr.slot i _ q
  rw [q1] at w1
  cases w1
  cases w2
  refine ev.keep a o q2 (fun ⟨j, c1, m1, z1, z2, z3⟩ => ?_) (CRep.nt q2 w4)
  have hl : i < ρ.length := (List.getElem?_eq_some_iff.mp q).1
  unfold lockS at z1
  dsimp only at z1
  rw [q] at z1
  dsimp only at z1
  by_cases hj : i = j
  · subst hj; rw [List.getElem?_set_self hl] at z1; cases z1; exact z2 rfl
  · rw [List.getElem?_set_ne hj] at z1
    exact hj (sr.dist i j _ _ _ _ a q z1 q1 z3)
end
/-! ### for -/
def loopD (tg : Val → SM) (body : SM) : List D → SM
  | [], ρ => .nx ρ
  | d :: ds, ρ => match tg (.d d) ρ with
    | .nx ρ1 => match body ρ1 with
      | .nx ρ2 => loopD tg body ds ρ2
      | .ct ρ2 => loopD tg body ds ρ2
      | .bk ρ2 => .nx ρ2
      | r => r
    | _ => .bad
def sFor (f : IM) (tg : Val → SM) (body : SM) : SM := fun ρ => (f ρ).bindS fun src ρ1 => unlkS src.2 ρ1 (loopD tg body src.1 (lockS src.2 ρ1))
theorem ds_for {S : List Nat} {h : Val → SM} {b : SM} {iter : Expr} {body : List Stmt} {fi : IM} (hp : PassesOwn (model X.prog X.w) X.A X.env X.xe) (hc : X.calm = true) (hi : DI X W tg iter fi) (hg : DG X tg S h) (hb : DSs X W body b)
    (hs : ∀ x, foldedSetIterable iter X.env x = pure x := by intro _; rfl) : DS X W (.For tg iter body [] pos) (sFor fi h b) := ps_conseq (ps_for hp hc hi hg hb hs) fun D σ H hq => by
  obtain ⟨F, ρ, sr, q⟩ := hq
  refine ⟨F, ρ, sr, (Out.bindS (rel := relI X.K σ) q).mono fun J H1 ⟨src, F1, ρ1, e1, s1, ev1, ⟨its, hk⟩, o1⟩ => ?_⟩
  obtain ⟨ds, lk⟩ := src
  have o2 := OutS.lock (lk := lk) s1 (o1.from ev1)
  have sL := lock_sr (lk := lk) s1
  refine ⟨fun i m σ' H' => m = ds.length - i ∧ i ≤ ds.length ∧ ∃ F' ρ', SR X.K F' H' σ' ρ' ∧ Ev σ (lockS lk ρ1) F1 H1 σ' ρ' F' H' ∧ OutS X.K X.mg W σ (lockS lk ρ1) F1 H1 (loopD h b (ds.drop i) ρ') D, ⟨ds.length, rfl, Nat.zero_le _, F1, lockS lk ρ1, sL, .refl, o2⟩, ?_⟩
  rintro i m σ' H' ⟨rfl, hi', F', ρ', s', ev', o'⟩
  have pre : PreI σ lk F1 H1 F' H' := pre_lock (F2 := F1) (H2 := H1) s1 hk ev'
  by_cases hlt : i < ds.length
  · refine .inr ⟨its.go i F' H' hlt s'.sub pre, fun σ2 H2 => ∃ F2 ρ2, SR X.K F2 H2 σ2 ρ2 ∧ Ev σ (lockS lk ρ1) F1 H1 σ2 ρ2 F2 H2 ∧ OutS X.K X.mg W σ (lockS lk ρ1) F1 H1 (loopD h b (ds.drop (i + 1)) ρ2) D, fun σ2 H2 hN => ⟨ds.length - (i + 1), by omega, rfl, hlt, hN⟩, fun x H3 hy => ?_⟩
    obtain ⟨d, F3, hd, gr, rx⟩ := its.yld i x F' H' H3 hlt s'.sub pre hy
    have s3 := gr.sr s'
    have ev3 := ev'.trans gr.ev
    have e3 : ds.drop i = d :: ds.drop (i + 1) := by
      have e4 : ds[i] = d := by rw [List.getElem?_eq_getElem hlt] at hd; exact Option.some.inj hd
      rw [List.drop_eq_getElem_cons hlt, e4]
    rw [e3] at o'
    refine ⟨σ', ρ', F3, H3, F3, ρ', .d d, s3, .refl, rx, ?_⟩
    dsimp only [loopD] at o'
    cases ht : h (.d d) ρ' with
    | nx ρ4 =>
      rw [ht] at o'
      dsimp only at o'
      refine fun σ4 F4 H4 s4 ev4 _ => ⟨F4, ρ4, s4, ?_⟩
      have ev5 := ev3.trans ev4
      cases hbody : b ρ4 with
      | nx ρ5 => rw [hbody] at o'; exact fun σ5 F5 H5 s5 ev6 => ⟨F5, ρ5, s5, ev5.trans ev6, o'⟩
      | ct ρ5 => rw [hbody] at o'; exact fun σ5 F5 H5 s5 ev6 => ⟨F5, ρ5, s5, ev5.trans ev6, o'⟩
      | bk ρ5 => rw [hbody] at o'; exact fun σ5 F5 H5 s5 ev6 => o' σ5 F5 H5 s5 (ev5.trans ev6)
      | rt x ρ5 => rw [hbody] at o'; exact OutS.from (r := .rt x ρ5) o' ev5
      | ex x ρ5 => rw [hbody] at o'; exact OutS.from (r := .ex x ρ5) o' ev5
      | bad => rw [hbody] at o'; exact o'.elim
    | rt x ρ4 => rw [ht] at o'; exact o'.elim
    | bk ρ4 => rw [ht] at o'; exact o'.elim
    | ct ρ4 => rw [ht] at o'; exact o'.elim
    | ex x ρ4 => rw [ht] at o'; exact o'.elim
    | bad => rw [ht] at o'; exact o'.elim
  · have e : i = ds.length := by omega
    subst e
    refine .inl ⟨its.stop _ F' H' (Nat.le_refl _) s'.sub pre, ?_⟩
    rw [List.drop_length] at o'
    exact o' σ' F' H' s' ev'
/-! ### while: n turns at most -/
def whileD (t : M Bool) (body : SM) : Nat → SM
  | 0, _ => .bad
  | n + 1, ρ => (t ρ).bindS fun b ρ1 => if b = true then (match body ρ1 with
      | .nx ρ2 => whileD t body n ρ2
      | .ct ρ2 => whileD t body n ρ2
      | .bk ρ2 => .nx ρ2
      | r => r) else .nx ρ1
theorem ds_while (n : Nat) {c : Expr} {body : List Stmt} {t : M Bool} {b : SM} (hp : PassesOwn (model X.prog X.w) X.A X.env X.xe) (hc : DT X W c t) (hb : DSs X W body b) : DS X W (.While c body [] pos) (whileD t b n) := ps_conseq (ps_while hp hc hb) fun D σ H hq => by
  obtain ⟨F, ρ, sr, q⟩ := hq
  refine ⟨fun m σ' H' => ∃ F' ρ', SR X.K F' H' σ' ρ' ∧ Ev σ ρ F H σ' ρ' F' H' ∧ OutS X.K X.mg W σ ρ F H (whileD t b m ρ') D, ⟨n, F, ρ, sr, .refl, q⟩, ?_⟩
  rintro m σ' H' ⟨F', ρ', s', ev', o'⟩
  cases m with
  | zero => exact o'.elim
  | succ m =>
    refine ⟨F', ρ', s', (Out.bindS (rel := relB) (o'.from ev')).mono fun v H1 ⟨x, F1, ρ1, e1, s1, ev1, r1, o1⟩ => ?_⟩
    have r1 : v = x := r1
    subst r1
    cases v with
    | false => exact o1 σ' F1 H1 s1 ev1
    | true =>
      rw [if_pos rfl]
      refine ⟨fun σ2 H2 => ∃ F2 ρ2, SR X.K F2 H2 σ2 ρ2 ∧ Ev σ ρ F H σ2 ρ2 F2 H2 ∧ OutS X.K X.mg W σ ρ F H (whileD t b m ρ2) D, fun σ2 H2 h => ⟨m, Nat.lt_succ_self _, h⟩, F1, ρ1, s1, ?_⟩
      have ev2 := ev'.trans ev1
      dsimp only [whileD] at o'
      rw [e1] at o'
      dsimp only [R.bindS] at o'
      rw [if_pos rfl] at o'
      cases hbody : b ρ1 with
      | nx ρ5 => rw [hbody] at o'; exact fun σ5 F5 H5 s5 ev6 => ⟨F5, ρ5, s5, ev2.trans ev6, o'⟩
      | ct ρ5 => rw [hbody] at o'; exact fun σ5 F5 H5 s5 ev6 => ⟨F5, ρ5, s5, ev2.trans ev6, o'⟩
      | bk ρ5 => rw [hbody] at o'; exact fun σ5 F5 H5 s5 ev6 => o' σ5 F5 H5 s5 (ev2.trans ev6)
      | rt x ρ5 => rw [hbody] at o'; exact OutS.from (r := .rt x ρ5) o' ev2
      | ex x ρ5 => rw [hbody] at o'; exact OutS.from (r := .ex x ρ5) o' ev2
      | bad => rw [hbody] at o'; exact o'.elim
end
end DL
/-! DL10: list comprehensions. -/
namespace DL
open PySem PySem.Spec PyProof.Rows L2
variable [TabT]
def wipeD (ρ : DEnv) : List Nat → DEnv
  | [] => ρ
  | v :: vs => (wipeD ρ vs).set v .un
/-- the block's own slots as they were -/
def backD (ρ0 ρ : DEnv) : List Nat → DEnv
  | [] => ρ
  | v :: vs => match ρ0[v]? with
    | some s => (backD ρ0 ρ vs).set v s
    | none => backD ρ0 ρ vs
theorem wipeD_len (ρ : DEnv) : ∀ vs : List Nat, (wipeD ρ vs).length = ρ.length
  | [] => rfl
  | v :: vs => by unfold wipeD; rw [List.length_set, wipeD_len ρ vs]
theorem backD_len (ρ0 ρ : DEnv) : ∀ vs : List Nat, (backD ρ0 ρ vs).length = ρ.length
  | [] => rfl
  | v :: vs => by
    unfold backD
    split
    · rw [List.length_set, backD_len ρ0 ρ vs]
    · exact backD_len ρ0 ρ vs
theorem wipeD_get {ρ : DEnv} {i : Nat} {s : Slot} : ∀ {vs : List Nat}, (wipeD ρ vs)[i]? = some s → (s = .un ∧ i ∈ vs) ∨ (ρ[i]? = some s ∧ i ∉ vs)
  | [], h => .inr ⟨h, by simp⟩
  | v :: vs, h => by
    unfold wipeD at h
    by_cases hv : v = i
    · subst hv
      by_cases hl : v < (wipeD ρ vs).length
      · rw [List.getElem?_set_self hl] at h; cases h; exact .inl ⟨rfl, List.mem_cons_self ..⟩
      · rw [List.getElem?_eq_none (by simpa using hl)] at h; cases h
    · rw [List.getElem?_set_ne hv] at h
      rcases wipeD_get h with ⟨h1, h2⟩ | ⟨h1, h2⟩
      · exact .inl ⟨h1, List.mem_cons_of_mem _ h2⟩
      · exact .inr ⟨h1, by simp only [List.mem_cons, not_or]; exact ⟨fun z => hv z.symm, h2⟩⟩
theorem wipeD_keep {ρ : DEnv} {i : Nat} : ∀ {vs : List Nat}, i ∉ vs → (wipeD ρ vs)[i]? = ρ[i]?
  | [], h => rfl
  | v :: vs, h => by
    simp only [List.mem_cons, not_or] at h
    unfold wipeD
    rw [List.getElem?_set_ne (fun z => h.1 z.symm)]
    exact wipeD_keep h.2
theorem wipeS_get {σ : L2.St} {i : Nat} : ∀ {vs : List Nat}, i ∈ vs → i < σ.length → (wipe σ vs)[i]? = some none
  | v :: vs, h, hl => by
    unfold wipe
    by_cases hv : v = i
    · subst hv
      exact List.getElem?_set_self (by rw [wipe_length]; exact hl)
    · rw [List.getElem?_set_ne hv]
      rcases List.mem_cons.mp h with e | h
      · exact absurd e.symm hv
      · exact wipeS_get h hl
theorem wipeS_keep {σ : L2.St} {i : Nat} : ∀ {vs : List Nat}, i ∉ vs → (wipe σ vs)[i]? = σ[i]?
  | [], h => rfl
  | v :: vs, h => by
    simp only [List.mem_cons, not_or] at h
    unfold wipe
    rw [List.getElem?_set_ne (fun z => h.1 z.symm)]
    exact wipeS_keep h.2
theorem wipe_off {S vs : List Nat} {σ σ' : L2.St} (h : Off S (wipe σ vs) σ') (hS : ∀ i ∈ S, i ∈ vs) : wipe σ' vs = wipe σ vs := by
  obtain ⟨hl, ho⟩ := h
  rw [wipe_length] at hl
  refine List.ext_getElem? fun i => ?_
  by_cases hi : i ∈ vs
  · by_cases hlt : i < σ.length
    · rw [wipeS_get hi hlt, wipeS_get hi (by rw [hl]; exact hlt)]
    · rw [List.getElem?_eq_none (by rw [wipe_length]; omega), List.getElem?_eq_none (by rw [wipe_length]; omega)]
  · rw [wipeS_keep hi, wipeS_keep hi]
    have := ho i fun z => hi (hS i z)
    rw [wipeS_keep hi] at this
    exact this
section
variable {K : PySem.W.Frag} {mg : Str → Option Value} {σ σ' : L2.St} {ρ ρ' : DEnv} {F H F' H' : Hp} {vs : List Nat}
theorem ow_wipe {a : Addr} (h : Ow (wipe σ vs) (wipeD ρ vs) a) : Ow σ ρ a := by
  obtain ⟨i, c, m, e1, e2⟩ := h
  rcases wipeD_get e1 with ⟨z, _⟩ | ⟨z, n⟩
  · cases z
  · rw [wipeS_keep n] at e2
    exact ⟨i, c, m, z, e2⟩
theorem mt_wipe {a : Addr} (h : Mt (wipe σ vs) (wipeD ρ vs) a) : Mt σ ρ a := by
  obtain ⟨i, c, m, e1, n1, e2⟩ := h
  rcases wipeD_get e1 with ⟨z, _⟩ | ⟨z, n⟩
  · cases z
  · rw [wipeS_keep n] at e2
    exact ⟨i, c, m, z, n1, e2⟩
theorem sr_wipe (sr : SR K F H σ ρ) : SR K F H (wipe σ vs) (wipeD ρ vs) := by
  refine ⟨by rw [wipe_length, wipeD_len]; exact sr.len, sr.sub, fun i s e => ?_, fun i j c m c' m' a e1 e2 e3 e4 => ?_, sr.tab⟩
  · rcases wipeD_get e with ⟨rfl, hi⟩ | ⟨z, n⟩
    · have hl : i < σ.length := by
        have := (List.getElem?_eq_some_iff.mp e).1
        rw [wipeD_len] at this
        rw [sr.len]; exact this
      exact ⟨none, wipeS_get hi hl, trivial⟩
    · rw [wipeS_keep n]
      exact sr.slot i s z
  · rcases wipeD_get e1 with ⟨z, _⟩ | ⟨z1, n1⟩
    · cases z
    · rcases wipeD_get e2 with ⟨z, _⟩ | ⟨z2, n2⟩
      · cases z
      · rw [wipeS_keep n1] at e3
        rw [wipeS_keep n2] at e4
        exact sr.dist i j c m c' m' a z1 z2 e3 e4
/-- within the block: the own slots wiped again -/
theorem in_wipe {ρ2 : DEnv} {σ2 : L2.St} {F2 H2 : Hp} (e : wipe σ2 vs = wipe σ vs) (s2 : SR K F2 H2 σ2 ρ2) (ev : Ev (wipe σ vs) ρ F H σ2 ρ2 F2 H2) (hb : ∀ i c m, ρ[i]? = some (.ow c m) → i ∉ vs) : SR K F2 H2 (wipe σ vs) (wipeD ρ2 vs) ∧ Ev (wipe σ vs) ρ F H (wipe σ vs) (wipeD ρ2 vs) F2 H2 := by
  have s3 : SR K F2 H2 (wipe σ vs) (wipeD ρ2 vs) := e ▸ sr_wipe (vs := vs) s2
  refine ⟨s3, ⟨ev.ext, ev.keep, ev.newF, ev.dom, fun i c m q n => ?_, fun a z => ev.own' a (ow_wipe (vs := vs) (σ := σ2) (by rw [e]; exact z)), fun a z => ev.mt' a (mt_wipe (vs := vs) (σ := σ2) (by rw [e]; exact z))⟩⟩
  obtain ⟨b1, c', b2, b3⟩ := ev.bor i c m q n
  have hi := hb i c m q
  exact ⟨rfl, c', by rw [wipeD_keep hi]; exact b2, b3⟩
theorem backD_get {ρ0 ρ : DEnv} {i : Nat} {s : Slot} : ∀ {vs : List Nat}, (backD ρ0 ρ vs)[i]? = some s → (∀ v ∈ vs, v < ρ0.length) → (ρ0[i]? = some s ∧ i ∈ vs) ∨ (ρ[i]? = some s ∧ i ∉ vs)
  | [], h, _ => .inr ⟨h, by simp⟩
  | v :: vs, h, hv => by
    have hv' : v < ρ0.length := hv v (List.mem_cons_self ..)
    have hvs : ∀ u ∈ vs, u < ρ0.length := fun u hu => hv u (List.mem_cons_of_mem _ hu)
    unfold backD at h
    rw [List.getElem?_eq_getElem hv'] at h
    dsimp only at h
    by_cases e : v = i
    · subst e
      by_cases hl : v < (backD ρ0 ρ vs).length
      · rw [List.getElem?_set_self hl] at h; cases h
        exact .inl ⟨List.getElem?_eq_getElem hv', List.mem_cons_self ..⟩
      · rw [List.getElem?_eq_none (by simpa using hl)] at h; cases h
    · rw [List.getElem?_set_ne e] at h
      rcases backD_get h hvs with ⟨h1, h2⟩ | ⟨h1, h2⟩
      · exact .inl ⟨h1, List.mem_cons_of_mem _ h2⟩
      · exact .inr ⟨h1, by simp only [List.mem_cons, not_or]; exact ⟨fun z => e z.symm, h2⟩⟩
theorem backD_keep {ρ0 ρ : DEnv} {i : Nat} : ∀ {vs : List Nat}, i ∉ vs → (backD ρ0 ρ vs)[i]? = ρ[i]?
  | [], h => rfl
  | v :: vs, h => by
    simp only [List.mem_cons, not_or] at h
    unfold backD
    split
    · rw [List.getElem?_set_ne (fun z => h.1 z.symm)]
      exact backD_keep h.2
    · exact backD_keep h.2
theorem backD_at {ρ0 ρ : DEnv} {i : Nat} {s : Slot} (e : ρ0[i]? = some s) (hl : i < ρ.length) : ∀ {vs : List Nat}, i ∈ vs → (backD ρ0 ρ vs)[i]? = some s
  | v :: vs, h => by
    unfold backD
    by_cases hv : v = i
    · subst hv
      rw [e]
      exact List.getElem?_set_self (by rw [backD_len]; exact hl)
    · have h' : i ∈ vs := by
        rcases List.mem_cons.mp h with z | z
        · exact absurd z.symm hv
        · exact z
      split
      · rw [List.getElem?_set_ne hv]; exact backD_at e hl h'
      · exact backD_at e hl h'
/-- out of the block: the own slots as they were ahead of it -/
theorem out_wipe {ρ2 : DEnv} {F2 H2 : Hp} (sr : SR K F H σ ρ) (hvs : ∀ v ∈ vs, v < ρ.length) (s2 : SR K F2 H2 (wipe σ vs) ρ2) (ev : Ev (wipe σ vs) (wipeD ρ vs) F H (wipe σ vs) ρ2 F2 H2) (hu : ∀ i ∈ vs, ∀ c m, ρ2[i]? ≠ some (.ow c m)) :
    SR K F2 H2 σ (backD ρ ρ2 vs) ∧ Ev σ ρ F H σ (backD ρ ρ2 vs) F2 H2 := by
  have l2 : ρ2.length = ρ.length := by rw [← s2.len, wipe_length, sr.len]
  -- what an own slot owned ahead of the block is untouched within
  have keepO : ∀ {i : Nat} {c : Cont} {m : Md} {a : Addr}, i ∈ vs → ρ[i]? = some (.ow c m) → σ[i]? = some (some (.ref a)) → ¬ Ow (wipe σ vs) (wipeD ρ vs) a := fun {i c m a} hi e1 e2 ⟨j, c', m', z1, z2⟩ => by
    rcases wipeD_get z1 with ⟨z, _⟩ | ⟨z, n⟩
    · cases z
    · rw [wipeS_keep n] at z2
      have := sr.dist i j c m c' m' a e1 z e2 z2
      subst this
      exact n hi
  have owned : ∀ {i : Nat} {c : Cont} {m : Md}, i ∈ vs → ρ[i]? = some (.ow c m) → ∃ a, σ[i]? = some (some (.ref a)) ∧ F2 a = none ∧ CRep K F2 H2 a c ∧ ∃ o, H a = some o := fun {i c m} hi e => by
    obtain ⟨ov, g1, a, g2, g3, g4⟩ := sr.slot i _ e
    subst g2
    have no := keepO hi e g1
    obtain ⟨o, ho⟩ := g4.some
    refine ⟨a, g1, ?_, g4.mono (.of ev.ext) ((ev.keep a o ho (fun m => no m.ow) (CRep.nt ho g4)).trans ho.symm), o, ho⟩
    cases hF : F2 a with
    | none => rfl
    | some u =>
      rcases ev.newF a g3 (by rw [hF]; simp) with z | z
      · rw [ho] at z; cases z
      · exact absurd z no
  have low : ∀ {a : Addr}, Ow σ (backD ρ ρ2 vs) a → H a = none ∨ Ow σ ρ a := fun {a} ⟨i, c, m, e1, e2⟩ => by
    rcases backD_get e1 hvs with ⟨z, _⟩ | ⟨z, n⟩
    · exact .inr ⟨i, c, m, z, e2⟩
    · exact (ev.own' a ⟨i, c, m, z, by rw [wipeS_keep n]; exact e2⟩).imp id ow_wipe
  refine ⟨⟨by rw [backD_len, l2]; exact sr.len, s2.sub, fun i s e => ?_, fun i j c m c' m' a e1 e2 e3 e4 => ?_, s2.tab⟩, ⟨ev.ext, fun a o q n nt => ev.keep a o q (fun z => n (mt_wipe z)) nt, fun a q n => (ev.newF a q n).imp id ow_wipe, ev.dom, fun i c m q n => ?_, fun a z => low z, fun a ⟨i, c, m, e1, n1, e2⟩ => ?_⟩⟩
  · rcases backD_get e hvs with ⟨z, hi⟩ | ⟨z, n⟩
    · obtain ⟨ov, g1, g2⟩ := sr.slot i s z
      refine ⟨ov, g1, ?_⟩
      cases s with
      | un => trivial
      | d x => obtain ⟨v, q, r⟩ := g2; exact ⟨v, q, r.mono (.of ev.ext)⟩
      | ow c m =>
        obtain ⟨a, q1, q2, q3, _⟩ := owned hi z
        rw [q1] at g1; cases g1
        exact ⟨a, rfl, q2, q3⟩
    · obtain ⟨ov, g1, g2⟩ := s2.slot i s z
      rw [wipeS_keep n] at g1
      exact ⟨ov, g1, g2⟩
  · have mixed : ∀ {i j : Nat} {c c' : Cont} {m m' : Md}, i ∈ vs → ρ[i]? = some (.ow c m) → ρ2[j]? = some (.ow c' m') → j ∉ vs → σ[i]? = some (some (.ref a)) → σ[j]? = some (some (.ref a)) → False := fun {i j c c' m m'} hi q1 q2 nj q3 q4 => by
      obtain ⟨a', z1, _, _, o, ho⟩ := owned hi q1
      rw [q3] at z1; cases z1
      rcases ev.own' a ⟨j, c', m', q2, by rw [wipeS_keep nj]; exact q4⟩ with z | z
      · rw [ho] at z; cases z
      · exact keepO hi q1 q3 z
    rcases backD_get e1 hvs with ⟨z1, i1⟩ | ⟨z1, n1⟩ <;> rcases backD_get e2 hvs with ⟨z2, i2⟩ | ⟨z2, n2⟩
    · exact sr.dist i j c m c' m' a z1 z2 e3 e4
    · exact (mixed i1 z1 z2 n2 e3 e4).elim
    · exact (mixed i2 z2 z1 n1 e4 e3).elim
    · exact s2.dist i j c m c' m' a z1 z2 (by rw [wipeS_keep n1]; exact e3) (by rw [wipeS_keep n2]; exact e4)
  · by_cases hi : i ∈ vs
    · have hl : i < ρ2.length := by rw [l2]; exact hvs i hi
      exact ⟨rfl, c, backD_at q hl hi, fun _ => rfl⟩
    · obtain ⟨b1, c', b2, b3⟩ := ev.bor i c m (by rw [wipeD_keep hi]; exact q) n
      exact ⟨rfl, c', by rw [backD_keep hi]; exact b2, b3⟩
  · rcases backD_get e1 hvs with ⟨z, _⟩ | ⟨z, n⟩
    · exact .inr ⟨i, c, m, z, n1, e2⟩
    · exact (ev.mt' a ⟨i, c, m, z, n1, by rw [wipeS_keep n]; exact e2⟩).imp id mt_wipe
theorem nk_none {H : Hp} {p : Addr} (h : H p = none) : ∀ u, H p = some u → ¬ KT p u := fun u e => by rw [h] at e; cases e
theorem nk_lst {H : Hp} {p : Addr} {xs : List V} (h : H p = some (.lst xs)) : ∀ u, H p = some u → ¬ KT p u := fun u e z => by
  rw [h] at e
  cases e
  rcases z with ⟨ps, z⟩ | ⟨g, z⟩
  · cases z
  · unfold LamX.CodeO at z; cases z
/-- an object that no slot has, changed -/
theorem sr_other {p : Addr} {o : HO} (sr : SR K F H σ ρ) (nF : F p = none) (no : ¬ Ow σ ρ p) (nk : ∀ u, H p = some u → ¬ KT p u) : SR K F (upd H p o) σ ρ := by
  refine ⟨sr.len, fun b u e => by rw [upd_ne (ne_of_none e nF)]; exact sr.sub _ _ e, fun i s e => ?_, sr.dist, sr.tab.step (Same.refl _) (fun b u k e => ?_) fun b _ e => e⟩
  case refine_2 =>
    by_cases z : b = p
    · subst z; exact absurd k (nk _ e)
    · rw [upd_ne z]; exact e
  obtain ⟨ov, g1, g2⟩ := sr.slot i s e
  refine ⟨ov, g1, ?_⟩
  cases s with
  | un => trivial
  | d x => exact g2
  | ow c m =>
    obtain ⟨a, q, fa, cr⟩ := g2
    subst q
    exact ⟨a, rfl, fa, cr.mono (.of (Same.refl _)) (upd_ne fun z => no ⟨i, c, m, e, by rw [g1, z]⟩)⟩
theorem ev_other {p : Addr} {o : HO} (ev : Ev σ ρ F H σ' ρ' F' H') (n : H p = none) : Ev σ ρ F H σ' ρ' F' (upd H' p o) :=
  ⟨ev.ext, fun a u e m nt => by rw [upd_ne (ne_of_none e n)]; exact ev.keep a u e m nt, ev.newF, fun a h => by
    by_cases z : a = p
    · subst z; rw [upd_same]; simp
    · rw [upd_ne z]; exact ev.dom a h, ev.bor, ev.own', ev.mt'⟩
end
/-! ### [el for tg in it if tt] -/
def compD (own : List Nat) (tg : Val → SM) (tt : M Bool) (el : EM) : List D → List D → DEnv → R (List D)
  | [], acc, ρ => .ok acc ρ
  | d :: ds, acc, ρ => match tg (.d d) ρ with
    | .nx ρ1 => match tt ρ1 with
      | .ok b ρ2 => if b = true then (match el ρ2 with
        | .ok (.d y) ρ3 => compD own tg tt el ds (acc ++ [y]) (wipeD ρ3 own)
        | _ => .bad) else compD own tg tt el ds acc (wipeD ρ2 own)
      | _ => .bad
    | _ => .bad
def inB (own : List Nat) (ρ : DEnv) : Bool := own.all fun v => decide (v < ρ.length)
def eLc (own : List Nat) (f : IM) (tg : Val → SM) (tt : M Bool) (el : EM) : EM := fun ρ => (f ρ).bind fun src ρ1 =>
  if inB own ρ1 = true ∧ src.1.length < 16777216 then
    (match compD own tg tt el src.1 [] (wipeD (lockS src.2 ρ1) own) with
    | .ok ys ρ2 => .ok (.fr (.lst ys)) (unlk src.2 ρ1 (backD (lockS src.2 ρ1) ρ2 own))
    | _ => .bad)
  else .bad
section
variable {X : Cx} {W : WX} {tg iter elt : Expr} {ifs : List Expr} {fi : IM} {h : Val → SM} {tt : M Bool} {el : EM} {S : List Nat} {own : List (Str × Nat)} {scope : Scope} {pos : Pos}
def W0 : WX := fun _ _ _ _ => False
def DTs (X : Cx) (W : WX) (ifs : List Expr) (t : M Bool) : Prop := PTs X ifs (tT X.K X.mg W t)
def tYesD : M Bool := fun ρ => .ok true ρ
theorem pts_conseq {ifs : List Expr} {t t' : TT} (h : PTs X ifs t) (c : ∀ σ H Q, t' σ H Q → t σ H Q) : PTs X ifs t' := ⟨fun pins s σ H Q I q => h.run pins s σ H Q I (c _ _ _ q)⟩
theorem dts_nil : DTs X W [] tYesD := pts_conseq pts_nil fun σ H Q ⟨F, ρ, sr, q⟩ => q true F H sr .refl rfl
theorem dts_one {c : Expr} {t : M Bool} (h : DT X W c t) : DTs X W [c] t := pts_one h
/-- the reading of a comprehension, whatever takes the list -/
theorem lc_ok {σ : L2.St} {H : Hp} {Q : VK} (hS : ∀ i ∈ S, i ∈ own.map (·.2)) (hq : tD X.K X.mg W (eLc (own.map (·.2)) fi h tt el) σ H Q) :
    tLc (tI X.K X.mg W fi) (tG X.K S h) (tT X.K X.mg W0 tt) (tD X.K X.mg W0 el) (own.map (·.2)) σ H Q := by
  generalize own.map (·.2) = vs at *
  obtain ⟨F, ρ, sr, q⟩ := hq
  refine ⟨F, ρ, sr, (Out.bind (rel := relI X.K σ) q).mono fun J H1 ⟨src, F1, ρ1, e1, s1, ev1, ⟨its, hk⟩, o1⟩ => ?_⟩
  obtain ⟨ds, lk⟩ := src
  have o2 := o1.from ev1 (relV_from ev1)
  dsimp only at o2 its hk
  split at o2
  rotate_left
  · exact o2.elim
  rename_i hcond
  obtain ⟨hin, hlen⟩ := hcond
  have sL := lock_sr (lk := lk) s1
  have hvs : ∀ v ∈ vs, v < (lockS lk ρ1).length := fun v hv => by
    have := List.all_eq_true.mp hin v hv
    have := of_decide_eq_true this
    rw [← sL.len, s1.len]; exact this
  have sW := sr_wipe (vs := vs) sL
  -- what is to be shown of the list that comes out
  have fin : ∀ {ys : List D} {ρ2 : DEnv} {F2 H2 : Hp} {D : Addr} {yv : List V}, compD vs h tt el ds [] (wipeD (lockS lk ρ1) vs) = .ok ys ρ2 → SR X.K F2 H2 (wipe σ vs) ρ2 → Ev (wipe σ vs) (wipeD (lockS lk ρ1) vs) F1 H1 (wipe σ vs) ρ2 F2 H2 → (∀ i ∈ vs, ∀ c m, ρ2[i]? ≠ some (.ow c m)) →
      H1 D = none → F2 D = none → H2 D = some (.lst yv) → RepL X.K F2 yv ys → ¬ Ow (wipe σ vs) ρ2 D → Q (.ref D) H2 := fun {ys ρ2 F2 H2 D yv} e s ev hu nD nF hD ry no => by
    rw [e] at o2
    obtain ⟨s3, ev3⟩ := out_wipe sL hvs s ev hu
    obtain ⟨s4, ev4⟩ := unlk_ok s1 s3 ev3
    refine o2 (.ref D) F2 H2 s4 ev4 ⟨D, rfl, nD, nF, ⟨yv, hD, ry⟩, fun z => ?_⟩
    rcases ev4.own' D z with z1 | ⟨i, c, m, z1, z2⟩
    · obtain ⟨i, c, m, q1, q2⟩ := z
      -- an owner of D in the end: it is one of the block's end or one ahead of it
      have g : Ow σ (backD (lockS lk ρ1) ρ2 vs) D := by
        refine ow_mode (ρ := unlk lk ρ1 (backD (lockS lk ρ1) ρ2 vs)) (fun j c1 m1 q' => ?_) ⟨i, c, m, q1, q2⟩
        unfold unlk at q'
        split at q'
        · exact ⟨_, q'⟩
        · rename_i k
          split at q'
          · rename_i c' m' hk'
            by_cases hj : k = j
            · subst hj
              have hkl : k < ρ1.length := (List.getElem?_eq_some_iff.mp hk').1
              obtain ⟨b1, c2, b2, b3⟩ := ev3.bor k c' .lck (by unfold lockS; dsimp only; rw [hk']; exact List.getElem?_set_self hkl) (by decide)
              rw [List.getElem?_set_self (List.getElem?_eq_some_iff.mp b2).1] at q'
              cases q'
              exact ⟨_, by rw [b2, b3 rfl]⟩
            · rw [List.getElem?_set_ne hj] at q'; exact ⟨_, q'⟩
          · exact ⟨_, q'⟩
      obtain ⟨i, c, m, q1, q2⟩ := g
      rcases backD_get q1 hvs with ⟨w, _⟩ | ⟨w, n⟩
      · obtain ⟨ov, g1, a, g2, _, g4⟩ := sL.slot i _ w
        rw [q2] at g1; cases g1; cases g2
        obtain ⟨o, ho⟩ := g4.some
        rw [nD] at ho; cases ho
      · exact no ⟨i, c, m, w, by rw [wipeS_keep n]; exact q2⟩
    · obtain ⟨ov, g1, a, g2, _, g4⟩ := s1.slot i _ z1
      rw [z2] at g1; cases g1; cases g2
      obtain ⟨o, ho⟩ := g4.some
      rw [nD] at ho; cases ho
  have noD : ∀ {D : Addr}, H1 D = none → ¬ Ow (wipe σ vs) (wipeD (lockS lk ρ1) vs) D := fun {D} nD ⟨i, c, m, z1, z2⟩ => by
    obtain ⟨ov, g1, a, g2, _, g4⟩ := sW.slot i _ z1
    rw [z2] at g1; cases g1; cases g2
    obtain ⟨o, ho⟩ := g4.some
    rw [nD] at ho; cases ho
  have unW : ∀ i ∈ vs, ∀ c m, (wipeD (lockS lk ρ1) vs)[i]? ≠ some (.ow c m) := fun i hi c m z => by
    rcases wipeD_get z with ⟨w, _⟩ | ⟨_, n⟩
    · cases w
    · exact n hi
  intro D nD
  refine ⟨fun i m H' => m = ds.length - i ∧ i ≤ ds.length ∧ ∃ F' ρ' yv ys, SR X.K F' H' (wipe σ vs) ρ' ∧ Ev (wipe σ vs) (wipeD (lockS lk ρ1) vs) F1 H1 (wipe σ vs) ρ' F' H' ∧ H' D = some (.lst yv) ∧ RepL X.K F' yv ys ∧ F' D = none ∧ ¬ Ow (wipe σ vs) ρ' D ∧ ys.length ≤ i ∧ (∀ i ∈ vs, ∀ c m, ρ'[i]? ≠ some (.ow c m)) ∧
    compD vs h tt el (ds.drop i) ys ρ' = compD vs h tt el ds [] (wipeD (lockS lk ρ1) vs), ⟨ds.length, rfl, Nat.zero_le _, F1, wipeD (lockS lk ρ1) vs, [], [], sr_other sW (Same.free sW.sub nD) (noD nD) (nk_none nD), ev_other .refl nD, upd_same, .nil, Same.free sW.sub nD, noD nD, Nat.zero_le _, unW, rfl⟩, ?_⟩
  rintro i m H' ⟨rfl, hi', F', ρ', yv, ys, s', ev', hD, ry, nF, no, hyl, hu, eq'⟩
  have pre : PreI σ lk F1 H1 F' H' := by
    refine ⟨ev'.ext, fun i e a o q1 q2 => ?_⟩
    subst e
    obtain ⟨cK, mK, qK⟩ := hk i rfl
    obtain ⟨ov, w1, a', w2, w3, w4⟩ := s1.slot i _ qK
    rw [q1] at w1
    cases w1
    cases w2
    refine ev'.keep a o q2 (fun ⟨j, c1, m1, z1, z2, z3⟩ => ?_) (CRep.nt q2 w4)
    rcases wipeD_get z1 with ⟨w, _⟩ | ⟨z1, nj⟩
    · cases w
    · rw [wipeS_keep nj] at z3
      obtain ⟨c, m, qk⟩ := hk i rfl
      have hl : i < ρ1.length := (List.getElem?_eq_some_iff.mp qk).1
      unfold lockS at z1
      dsimp only at z1
      rw [qk] at z1
      dsimp only at z1
      by_cases hj : i = j
      · subst hj; rw [List.getElem?_set_self hl] at z1; cases z1; exact z2 rfl
      · rw [List.getElem?_set_ne hj] at z1
        exact hj (s1.dist i j _ _ _ _ a qk z1 q1 z3)
  by_cases hlt : i < ds.length
  · refine .inr ⟨its.go i F' H' hlt s'.sub pre, fun H2 => ∃ F2 ρ2 yv2 ys2, SR X.K F2 H2 (wipe σ vs) ρ2 ∧ Ev (wipe σ vs) (wipeD (lockS lk ρ1) vs) F1 H1 (wipe σ vs) ρ2 F2 H2 ∧ H2 D = some (.lst yv2) ∧ RepL X.K F2 yv2 ys2 ∧ F2 D = none ∧ ¬ Ow (wipe σ vs) ρ2 D ∧ ys2.length ≤ i + 1 ∧ (∀ i ∈ vs, ∀ c m, ρ2[i]? ≠ some (.ow c m)) ∧
      compD vs h tt el (ds.drop (i + 1)) ys2 ρ2 = compD vs h tt el ds [] (wipeD (lockS lk ρ1) vs), fun H2 hN => ⟨ds.length - (i + 1), by omega, rfl, hlt, hN⟩, fun x H3 hy => ?_⟩
    obtain ⟨d, F3, hd, gr, rx⟩ := its.yld i x F' H' H3 hlt s'.sub pre hy
    have s3 := gr.sr s'
    have ev3 := ev'.trans gr.ev
    have e3 : ds.drop i = d :: ds.drop (i + 1) := by
      have e4 : ds[i] = d := by rw [List.getElem?_eq_getElem hlt] at hd; exact Option.some.inj hd
      rw [List.drop_eq_getElem_cons hlt, e4]
    -- the list so far through each step
    have keepD : ∀ {σ2 : L2.St} {ρ2 : DEnv} {F2 H2 : Hp}, Ev (wipe σ vs) ρ' F3 H3 σ2 ρ2 F2 H2 → H2 D = some (.lst yv) ∧ RepL X.K F2 yv ys ∧ F2 D = none ∧ ¬ Ow σ2 ρ2 D := fun {σ2 ρ2 F2 H2} ev => by
      have hD3 : H3 D = some (.lst yv) := gr.all _ _ hD
      have nF3 : F3 D = none := by
        cases hF : F3 D with
        | none => rfl
        | some u =>
          have := gr.newF D nF (by rw [hF]; simp)
          rw [hD] at this; cases this
      refine ⟨ev.keep D _ hD3 (fun z => no z.ow) (fun ps z => by cases z), ry.mono (.of (gr.ext.trans ev.ext)), ?_, fun z => ?_⟩
      · cases hF : F2 D with
        | none => rfl
        | some u =>
          rcases ev.newF D nF3 (by rw [hF]; simp) with z | z
          · rw [hD3] at z; cases z
          · exact absurd z no
      · rcases ev.own' D z with z | z
        · rw [hD3] at z; cases z
        · exact no z
    -- the block's outcome is no failure
    have good : ∃ zs ρz, compD vs h tt el (ds.drop i) ys ρ' = .ok zs ρz := by
      rw [eq']
      cases hcd : compD vs h tt el ds [] (wipeD (lockS lk ρ1) vs) with
      | ok zs ρz => exact ⟨zs, ρz, rfl⟩
      | ex x ρz => rw [hcd] at o2; exact o2.elim
      | bad => rw [hcd] at o2; exact o2.elim
    rw [e3] at eq' good
    dsimp only [compD] at eq' good
    cases ht : h (.d d) ρ' with
    | nx ρ4 =>
      rw [ht] at eq' good
      dsimp only at eq' good
      refine ⟨wipe σ vs, ρ', F3, H3, F3, ρ', .d d, s3, .refl, rx, ?_⟩
      rw [ht]
      refine fun σ4 F4 H4 s4 ev4 of4 => ⟨wipe_off of4 hS, F4, ρ4, s4, ?_⟩
      cases htt : tt ρ4 with
      | bad => rw [htt] at good; obtain ⟨_, _, z⟩ := good; cases z
      | ex x ρ5 => rw [htt] at good; obtain ⟨_, _, z⟩ := good; cases z
      | ok b ρ5 =>
        rw [htt] at eq' good
        dsimp only at eq' good
        refine fun b' F5 H5 s5 ev5 eb => ?_
        have eb : b' = b := eb
        subst eb
        have ev45 := ev4.trans ev5
        have e4 := wipe_off of4 hS
        have sl : ∀ {σx : L2.St} {ρx : DEnv} {Fx Hx : Hp}, σx = σ4 → SR X.K Fx Hx σx ρx → Ev (wipe σ vs) ρ' F3 H3 σx ρx Fx Hx → SR X.K Fx Hx (wipe σ vs) (wipeD ρx vs) ∧ Ev (wipe σ vs) (wipeD (lockS lk ρ1) vs) F1 H1 (wipe σ vs) (wipeD ρx vs) Fx Hx ∧ ∀ i ∈ vs, ∀ c m, (wipeD ρx vs)[i]? ≠ some (.ow c m) := fun {σx ρx Fx Hx} ex sx evx => by
          subst ex
          obtain ⟨w1, w2⟩ := in_wipe e4 sx evx (fun i c m q hi => hu i hi c m q)
          refine ⟨w1, ev3.trans w2, fun i hi c m z => ?_⟩
          rcases wipeD_get z with ⟨w, _⟩ | ⟨_, n⟩
          · cases w
          · exact n hi
        cases b' with
        | false =>
          refine iteF ?_
          rw [if_neg Bool.false_ne_true] at eq'
          obtain ⟨k1, k2, k3, k4⟩ := keepD ev45
          obtain ⟨w1, w2, w3⟩ := sl rfl s5 ev45
          exact ⟨F5, wipeD ρ5 vs, yv, ys, w1, w2, k1, k2, k3, fun z => k4 (by rw [← e4] at z; exact ow_wipe z), by omega, w3, eq'⟩
        | true =>
          refine iteT ?_
          rw [if_pos rfl] at eq' good
          refine ⟨F5, ρ5, s5, ?_⟩
          cases he : el ρ5 with
          | bad => rw [he] at good; obtain ⟨_, _, z⟩ := good; cases z
          | ex x ρ6 => rw [he] at good; obtain ⟨_, _, z⟩ := good; cases z
          | ok y ρ6 =>
            cases y with
            | fr c => rw [he] at good; obtain ⟨_, _, z⟩ := good; cases z
            | sl i => rw [he] at good; obtain ⟨_, _, z⟩ := good; cases z
            | d y =>
              rw [he] at eq'
              dsimp only at eq'
              refine fun v F6 H6 s6 ev6 r6 => ?_
              have ev46 := ev45.trans ev6
              obtain ⟨k1, k2, k3, k4⟩ := keepD ev46
              have hl : yv.length = ys.length := ry.length
              refine ⟨yv, k1, by rw [hl, sizeLine_eq]; omega, ?_⟩
              obtain ⟨w1, w2, w3⟩ := sl rfl s6 ev46
              have k4' : ¬ Ow (wipe σ vs) (wipeD ρ6 vs) D := fun z => k4 (by rw [← e4] at z; exact ow_wipe z)
              exact ⟨F6, wipeD ρ6 vs, yv ++ [v], ys ++ [y], sr_other w1 k3 k4' (nk_lst k1), ev_other w2 nD, upd_same, k2.app (.one r6), k3, k4', by rw [List.length_append]; show ys.length + 1 ≤ i + 1; omega, w3, eq'⟩
    | rt x ρ4 => rw [ht] at good; obtain ⟨_, _, z⟩ := good; cases z
    | bk ρ4 => rw [ht] at good; obtain ⟨_, _, z⟩ := good; cases z
    | ct ρ4 => rw [ht] at good; obtain ⟨_, _, z⟩ := good; cases z
    | ex x ρ4 => rw [ht] at good; obtain ⟨_, _, z⟩ := good; cases z
    | bad => rw [ht] at good; obtain ⟨_, _, z⟩ := good; cases z
  · have e : i = ds.length := by omega
    subst e
    refine .inl ⟨its.stop _ F' H' (Nat.le_refl _) s'.sub pre, ?_⟩
    rw [List.drop_length] at eq'
    exact fin eq'.symm s' ev' hu nD nF hD ry no
theorem de_lc (hc : X.calm = true) (hN : X.N.Nodup) (hi : DI X W tg iter fi) (ok : BlkOk X.N X.env.scope scope own) (hS : ∀ i ∈ S, i ∈ own.map (·.2))
    (hg : ∀ (s : Shared) (H : Hp) (C : Addr) (cl : List (Str × Addr)) (fp : List Addr), DG (X.blk s H scope (compEnvC scope cl C X.env) fp) tg S h) (ht : ∀ (s : Shared) (H : Hp) (C : Addr) (cl : List (Str × Addr)) (fp : List Addr), DTs (X.blk s H scope (compEnvC scope cl C X.env) fp) W0 ifs tt)
    (he : ∀ (s : Shared) (H : Hp) (C : Addr) (cl : List (Str × Addr)) (fp : List Addr), DE (X.blk s H scope (compEnvC scope cl C X.env) fp) W0 elt el) (hs : ∀ x, foldedSetIterable iter X.env x = pure x := by intro _; rfl) :
    DE X W (.ListComp elt [⟨tg, iter, ifs, 0⟩] scope pos) (eLc (own.map (·.2)) fi h tt el) :=
  pe_conseq (pe_lc (g := tG X.K S h) (tt := tT X.K X.mg W0 tt) (te := tD X.K X.mg W0 el) hc hN hi ok hg ht he hs) fun _ _ _ => lc_ok hS
theorem ds_setLc (i : Nat) {y : Str} {py : Pos} {spos : Pos} (hc : X.calm = true) (hN : X.N.Nodup) (hi : DI X W tg iter fi) (ok : BlkOk X.N X.env.scope scope own) (hS : ∀ i ∈ S, i ∈ own.map (·.2))
    (hg : ∀ (s : Shared) (H : Hp) (C : Addr) (cl : List (Str × Addr)) (fp : List Addr), DG (X.blk s H scope (compEnvC scope cl C X.env) fp) tg S h) (ht : ∀ (s : Shared) (H : Hp) (C : Addr) (cl : List (Str × Addr)) (fp : List Addr), DTs (X.blk s H scope (compEnvC scope cl C X.env) fp) W0 ifs tt)
    (he : ∀ (s : Shared) (H : Hp) (C : Addr) (cl : List (Str × Addr)) (fp : List Addr), DE (X.blk s H scope (compEnvC scope cl C X.env) fp) W0 elt el)
    (hsw : swapsWith (.ListComp elt [⟨tg, iter, ifs, 0⟩] scope pos) (some (.Name y py)) spos.line X.env = pure true) (hy : X.N[i]? = some y := by rfl) (hyl : X.env.scope.names.lookup y = some .local := by rfl) (hs : ∀ x, foldedSetIterable iter X.env x = pure x := by intro _; rfl) :
    DS X W (.Assign [.Name y py] (.ListComp elt [⟨tg, iter, ifs, 0⟩] scope pos) spos) (sAsg i (eLc (own.map (·.2)) fi h tt el)) :=
  ps_conseq (ps_setLc (g := tG X.K S h) (tt := tT X.K X.mg W0 tt) (te := tD X.K X.mg W0 el) hc hN hy hyl hsw hi ok hg ht he hs) fun D σ H hq => by
    obtain ⟨F, ρ, sr, q⟩ := hq
    refine lc_ok hS ⟨F, ρ, sr, (Out.bindS (rel := relV X.K σ) q).mono fun v H1 ⟨x, F1, ρ1, e1, s1, ev1, r1, o1⟩ => ?_⟩
    obtain ⟨ρ', e2, F2, s2, ev2⟩ := asg_ok s1 ev1 r1 o1
    rw [e2] at o1
    exact o1 _ F2 H1 s2 ev2
end
end DL
/-! DL11: what changes an owned object. -/
namespace DL
open PySem PySem.Spec PyProof.Rows L2
variable [TabT]
def mutS (i : Nat) (c' : Cont) (ρ : DEnv) : R Unit := match ρ[i]? with
  | some (.ow _ .own) => .ok () (ρ.set i (.ow c' .own))
  | some (.ow _ .bor) => .ok () (ρ.set i (.ow c' .bor))
  | _ => .bad
section
variable {K : PySem.W.Frag} {σ : L2.St} {ρ ρ' : DEnv} {F H : Hp}
theorem mutS_ok {i : Nat} {c c' : Cont} {m : Md} {a : Addr} {o : HO} (sr : SR K F H σ ρ) (e : ρ[i]? = some (.ow c m)) (hm : m ≠ .lck) (ea : σ[i]? = some (some (.ref a))) (cr : CRep K F (upd H a o) a c') :
    SR K F (upd H a o) σ (ρ.set i (.ow c' m)) ∧ Ev σ ρ F H σ (ρ.set i (.ow c' m)) F (upd H a o) := by
  have hl : i < ρ.length := (List.getElem?_eq_some_iff.mp e).1
  obtain ⟨ov, g1, a', g2, nF, cr0⟩ := sr.slot i _ e
  rw [ea] at g1; cases g1; cases g2
  have at' : ∀ {j : Nat} {s : Slot}, (ρ.set i (.ow c' m))[j]? = some s → (j = i ∧ s = .ow c' m) ∨ (j ≠ i ∧ ρ[j]? = some s) := fun {j s} q => by
    by_cases hj : i = j
    · subst hj
      rw [List.getElem?_set_self hl] at q
      cases q
      exact .inl ⟨rfl, rfl⟩
    · rw [List.getElem?_set_ne hj] at q
      exact .inr ⟨fun z => hj z.symm, q⟩
  have ow2 : ∀ {b : Addr}, Ow σ (ρ.set i (.ow c' m)) b → Ow σ ρ b := fun {b} ⟨j, c1, m1, q1, q2⟩ => by
    rcases at' q1 with ⟨rfl, z⟩ | ⟨_, q1⟩
    · exact ⟨j, c, m, e, q2⟩
    · exact ⟨j, c1, m1, q1, q2⟩
  obtain ⟨ov0, x1, a0, x2, x3, x4⟩ := sr.slot i _ e
  rw [ea] at x1
  cases x1
  cases x2
  obtain ⟨o0, ho0⟩ := x4.some
  refine ⟨⟨by rw [List.length_set]; exact sr.len, fun b u q => by rw [upd_ne (ne_of_none q nF)]; exact sr.sub _ _ q, fun j s q => ?_, fun j k c1 m1 c2 m2 b q1 q2 q3 q4 => ?_, sr.tab.own ho0 (CRep.kt ho0 x4)⟩, ⟨Same.refl _, fun b u q n _ => ?_, fun b q n => absurd q n, fun b h => ?_, fun j c1 m1 q n => ?_, fun b z => .inr (ow2 z), fun b z => .inr ?_⟩⟩
  · rcases at' q with ⟨rfl, rfl⟩ | ⟨hj, q⟩
    · exact ⟨_, ea, a, rfl, nF, cr⟩
    · obtain ⟨ov, z1, z2⟩ := sr.slot j s q
      refine ⟨ov, z1, ?_⟩
      cases s with
      | un => trivial
      | d x => exact z2
      | ow c1 m1 =>
        obtain ⟨b, w1, w2, w3⟩ := z2
        subst w1
        exact ⟨b, rfl, w2, w3.mono (.of (Same.refl _)) (upd_ne fun z => hj (sr.dist j i _ _ _ _ a q e (by rw [z1, z]) ea))⟩
  · rcases at' q1 with ⟨h1, z1⟩ | ⟨_, w1⟩ <;> rcases at' q2 with ⟨h2, z2⟩ | ⟨_, w2⟩
    · rw [h1, h2]
    · subst h1; exact sr.dist _ _ _ _ _ _ b e w2 q3 q4
    · subst h2; exact sr.dist _ _ _ _ _ _ b w1 e q3 q4
    · exact sr.dist _ _ _ _ _ _ b w1 w2 q3 q4
  · rw [upd_ne fun z => n ⟨i, c, m, e, hm, by rw [z]; exact ea⟩]
    exact q
  · by_cases z : b = a
    · subst z; rw [upd_same]; simp
    · rw [upd_ne z]; exact h
  · by_cases hj : i = j
    · subst hj
      rw [e] at q; cases q
      exact ⟨rfl, c', List.getElem?_set_self hl, fun z => absurd z hm⟩
    · exact ⟨rfl, c1, by rw [List.getElem?_set_ne hj]; exact q, fun _ => rfl⟩
  · obtain ⟨j, c1, m1, q1, n1, q2⟩ := z
    rcases at' q1 with ⟨rfl, z⟩ | ⟨_, q1⟩
    · exact ⟨j, c, m, e, hm, q2⟩
    · exact ⟨j, c1, m1, q1, n1, q2⟩
theorem mutS_inv {i : Nat} {c' : Cont} (h : mutS i c' ρ = .ok () ρ') : ∃ c m, ρ[i]? = some (.ow c m) ∧ m ≠ .lck ∧ ρ' = ρ.set i (.ow c' m) := by
  unfold mutS at h
  split at h
  · rename_i c e; cases h; exact ⟨c, _, e, by decide, rfl⟩
  · rename_i c e; cases h; exact ⟨c, _, e, by decide, rfl⟩
  · cases h
end
/-- a method of the owned object at slot i: what it holds and gives -/
def methV (i : Nat) (op : Cont → List D → Option (Cont × D)) (xs : List Val) : EM := fun ρ => match ρ[i]?, dsL xs with
  | some (.ow c _), some ds => match op c ds with
    | some (c', r) => (mutS i c' ρ).bind fun _ ρ' => .ok (.d r) ρ'
    | none => .bad
  | _, _ => .bad
/-- what a method's rule asks, met by op -/
def MethS (K : PySem.W.Frag) (r : V → List V → Hp → VK → Prop) (op : Cont → List D → Option (Cont × D)) : Prop :=
  ∀ F H a vs c ds c' d Q, Same F H → CRep K F H a c → RepL K F vs ds → op c ds = some (c', d) → (∀ o v, CRep K F (upd H a o) a c' → Rep K F v d → Q v (upd H a o)) → r (.ref a) vs H Q
section
variable {X : Cx} {W : WX} {e : Expr} {es : List Expr} {f : EM} {g : M (List Val)} {pos p apos cpos : Pos} {name x : Str} {T id : String}
theorem meth_ok {K : PySem.W.Frag} {mg : Str → Option Value} {xk : XK} {σ : L2.St} {ρ : DEnv} {F H Hb : Hp} {i : Nat} {op : Cont → List D → Option (Cont × D)} {r : V → List V → Hp → VK → Prop} {vs : List V} {xs : List Val} {Q : VK} (s : MethS K r op) (sr : SR K F H σ ρ) (rl : VRL K σ Hb F H ρ vs xs)
    (h : Out K mg xk (relV K σ) σ ρ F H (methV i op xs ρ) Q) : ∃ a, σ[i]? = some (some (.ref a)) ∧ r (.ref a) vs H Q := by
  unfold methV at h
  cases hs : ρ[i]? with
  | none => rw [hs] at h; exact h.elim
  | some sl =>
    cases sl with
    | un => rw [hs] at h; exact h.elim
    | d x => rw [hs] at h; exact h.elim
    | ow c m =>
      cases hd : dsL xs with
      | none => rw [hs, hd] at h; exact h.elim
      | some ds =>
        rw [hs, hd] at h
        dsimp only at h
        cases ho : op c ds with
        | none => rw [ho] at h; exact h.elim
        | some cd =>
          obtain ⟨c', d⟩ := cd
          rw [ho] at h
          dsimp only at h
          obtain ⟨ov, g1, a, g2, nF, cr⟩ := sr.slot i _ hs
          subst g2
          refine ⟨a, g1, s F H a vs c ds c' d Q sr.sub cr (dsL_ok rl.all hd) ho fun o v cr' rv => ?_⟩
          cases hm : mutS i c' ρ with
          | bad => rw [hm] at h; exact h.elim
          | ex z ρ' =>
            exfalso
            unfold mutS at hm
            split at hm <;> cases hm
          | ok u ρ' =>
            obtain ⟨c2, m2, e2, n2, rfl⟩ := mutS_inv hm
            rw [hm] at h
            obtain ⟨s3, ev3⟩ := mutS_ok sr e2 n2 g1 cr'
            exact h v F _ s3 ev3 rv
def eMethL (i : Nat) (op : Cont → List D → Option (Cont × D)) (g : M (List Val)) : EM := fun ρ => match ρ[i]? with
  | some (.ow (.lst _) _) => (g ρ).bind fun xs ρ1 => methV i op xs ρ1
  | _ => .bad
theorem lst_ty {K : PySem.W.Frag} {σ : L2.St} {ρ : DEnv} {F H : Hp} {i : Nat} {ds : List D} {m : Md} (sr : SR K F H σ ρ) (e : ρ[i]? = some (.ow (.lst ds) m)) : ∃ a, σ[i]? = some (some (.ref a)) ∧ tyV K "list" (.ref a) H := by
  obtain ⟨ov, g1, a, g2, nF, vs, g3, g4⟩ := sr.slot i _ e
  subst g2
  exact ⟨a, g1, .inl ⟨rfl, vs, .of g3⟩⟩
/-- x.m(e, ..), x a name whose list the slot owns -/
theorem de_methL (i : Nat) {op : Cont → List D → Option (Cont × D)} {r : V → List V → Hp → VK → Prop} (pa : PlainAttrs "list") (slot : PySem.Slot "list" name id) (hty : typeOf (.builtin id) = pure (.type "method_descriptor")) (hm : MtR X id r) (s : MethS X.K r op) (ha : DA X W (e :: es) g)
    (hN : X.N[i]? = some x := by rfl) (hv : Vis X.env.scope x := by first | exact Or.inl rfl | exact Or.inr (Or.inl rfl) | exact Or.inr (Or.inr rfl)) (hd : (x == ("__debug__" : Str)) = false := by decide) (hcd : (x == ("__classdict__" : Str)) = false := by decide) (hbase : attributeBase (.Name x p) name X.env (eval (.Name x p) X.env) = eval (.Name x p) X.env := by rfl)
    (hfew : ((backTo cpos (starEach (e :: es) X.env)).all (fun x => !x.1) && (backToKw cpos (keywordEach [] X.env)).all (fun x => x.1.isSome)
      && decide ((e :: es).length + ([] : List Keyword).length + (if ([] : List Keyword).isEmpty then 0 else 1) < 30)) = true := by rfl)
    (hline : (apos.endLine == cpos.line) = true := by rfl) (hs : starEach (e :: es) X.env = (false, eval e X.env) :: starEach es X.env := by rfl) (hplain : (backTo cpos (starEach es X.env)).any (·.1) = false := by rfl) :
    DE X W (.Call (.Attribute (.Name x p) name apos) (e :: es) [] cpos) (eMethL i op g) := pe_conseq (pe_bm pa slot hty hm (pe_var hN hv hd hcd) ha hbase hfew hline hs hplain) fun σ H Q hq => by
  obtain ⟨F, ρ, sr, q⟩ := hq
  unfold eMethL at q
  split at q
  · rename_i ds m e
    obtain ⟨a, ea, ty⟩ := lst_ty sr e
    refine ⟨.ref a, ea, ty, F, ρ, sr, (Out.bind (rel := relL X.K σ) q).mono fun vs H1 ⟨xs, F1, ρ1, e1, s1, ev1, r1, o1⟩ => ?_⟩
    obtain ⟨a', ea', h⟩ := meth_ok s s1 r1 (o1.from ev1 (relV_from ev1))
    rw [ea] at ea'
    cases ea'
    exact h
  · exact q.elim
def appendO : Cont → List D → Option (Cont × D)
  | .lst xs, [d] => if xs.length < 16777216 then some (.lst (xs ++ [d]), .non) else none
  | _, _ => none
theorem ms_append {K : PySem.W.Frag} : MethS K rAppend appendO := by
  intro F H a vs c ds c' d Q s cr rl e q
  unfold appendO at e
  split at e
  · split at e
    · rename_i xs x hl
      cases e
      obtain ⟨xv, hx, rx⟩ := cr
      cases rl with
      | cons r t =>
        cases t
        exact ⟨a, xv, _, rfl, rfl, hx, by rw [rx.length, sizeLine_eq]; exact hl, q _ .non ⟨_, upd_same, rx.app (.one r)⟩ .non⟩
    · cases e
  · cases e
theorem de_append (i : Nat) (ha : DE X W e f) (hN : X.N[i]? = some x := by rfl) (hv : Vis X.env.scope x := by first | exact Or.inl rfl | exact Or.inr (Or.inl rfl) | exact Or.inr (Or.inr rfl)) (hd : (x == ("__debug__" : Str)) = false := by decide) (hcd : (x == ("__classdict__" : Str)) = false := by decide) (hbase : attributeBase (.Name x p) "append" X.env (eval (.Name x p) X.env) = eval (.Name x p) X.env := by rfl)
    (hfew : ((backTo cpos (starEach [e] X.env)).all (fun x => !x.1) && (backToKw cpos (keywordEach [] X.env)).all (fun x => x.1.isSome)
      && decide ([e].length + ([] : List Keyword).length + (if ([] : List Keyword).isEmpty then 0 else 1) < 30)) = true := by rfl)
    (hline : (apos.endLine == cpos.line) = true := by rfl) (hs : starEach [e] X.env = (false, eval e X.env) :: starEach [] X.env := by rfl) : DE X W (.Call (.Attribute (.Name x p) "append" apos) [e] [] cpos) (eMethL i appendO (aCons (fz f) aNil)) :=
  de_methL i PySem.F.plainAttrs_list PySem.F.slot_list_append PySem.F.type_list_append mt_append ms_append (da_cons (de_fz ha) da_nil hs) hN hv hd hcd hbase hfew hline hs
def popAtO : Cont → List D → Option (Cont × D)
  | .lst xs, [.int i] => if 0 ≤ i ∧ i < xs.length ∧ i < 2 ^ 63 then (match xs[i.toNat]? with | some y => some (.lst (xs.eraseIdx i.toNat), y) | none => none) else none
  | _, _ => none
theorem ms_popAt {K : PySem.W.Frag} : MethS K rPopAt popAtO := by
  intro F H a vs c ds c' d Q s cr rl e q
  unfold popAtO at e
  split at e
  · rename_i xs i
    split at e
    · rename_i hl
      split at e
      · rename_i y hy
        cases e
        obtain ⟨xv, hx, rx⟩ := cr
        cases rl with
        | cons r t =>
          cases t
          cases r
          obtain ⟨v, hv, rv⟩ := rx.get hy
          exact ⟨a, xv, i, i.toNat, v, rfl, rfl, hx, by omega, hl.2.2, by rw [rx.length]; exact seqIndex_of hl.1 hl.2.1, hv, q _ v ⟨_, upd_same, rx.eraseIdx _⟩ rv⟩
      · cases e
    · cases e
  · cases e
theorem de_popAt (i : Nat) (ha : DE X W e f) (hN : X.N[i]? = some x := by rfl) (hv : Vis X.env.scope x := by first | exact Or.inl rfl | exact Or.inr (Or.inl rfl) | exact Or.inr (Or.inr rfl)) (hd : (x == ("__debug__" : Str)) = false := by decide) (hcd : (x == ("__classdict__" : Str)) = false := by decide) (hbase : attributeBase (.Name x p) "pop" X.env (eval (.Name x p) X.env) = eval (.Name x p) X.env := by rfl)
    (hfew : ((backTo cpos (starEach [e] X.env)).all (fun x => !x.1) && (backToKw cpos (keywordEach [] X.env)).all (fun x => x.1.isSome)
      && decide ([e].length + ([] : List Keyword).length + (if ([] : List Keyword).isEmpty then 0 else 1) < 30)) = true := by rfl)
    (hline : (apos.endLine == cpos.line) = true := by rfl) (hs : starEach [e] X.env = (false, eval e X.env) :: starEach [] X.env := by rfl) : DE X W (.Call (.Attribute (.Name x p) "pop" apos) [e] [] cpos) (eMethL i popAtO (aCons (fz f) aNil)) :=
  de_methL i PySem.F.plainAttrs_list PySem.F.slot_list_pop PySem.F.type_list_pop mt_popAt ms_popAt (da_cons (de_fz ha) da_nil hs) hN hv hd hcd hbase hfew hline hs
/-! ### x[k] = e -/
def dSet : List Key → List D → Key → D → List D
  | k :: ks, v :: vs, j, d => (if k = j then d else v) :: dSet ks vs j d
  | _, vs, _, _ => vs
def dPut (ks : List Key) (vs : List D) (k : Key) (d : D) : Cont := if (ks.any fun j => decide (j = k)) = true then .dic ks (dSet ks vs k d) else .dic (ks ++ [k]) (vs ++ [d])
def storeO : Cont → D → D → Option Cont
  | .lst xs, .int k, d => match ixN xs.length k with
    | some j => some (.lst (xs.set j d))
    | none => none
  | .dic ks vs, y, d => match keyD y with
    | some k => if ks.length < 16777216 then some (dPut ks vs k d) else none
    | none => none
  | _, _, _ => none
def storeV (i : Nat) (x k : Val) : SM := fun ρ => match x, k.peek ρ, ρ[i]? with
  | .d d, some y, some (.ow c _) => match storeO c y d with
    | some c' => (mutS i c' ρ).bindS fun _ ρ' => .nx ρ'
    | none => .bad
  | _, _, _ => .bad
def sStore (i : Nat) (g f : EM) : SM := fun ρ => (f ρ).bindS fun x ρ1 => match ρ1[i]? with
  | some (.ow _ _) => (g ρ1).bindS fun k ρ2 => storeV i x k ρ2
  | _ => .bad
theorem dSet_zip {K : PySem.W.Frag} {F : Hp} {k : Key} {v : V} {d : D} (r : Rep K F v d) : ∀ {ks : List Key} {vs : List V} {ds : List D}, ks.length = vs.length → RepL K F vs ds → ∃ us, (ks.zip vs).map (fun kv => if kv.1 = k then (kv.1, v) else kv) = ks.zip us ∧ ks.length = us.length ∧ RepL K F us (dSet ks ds k d)
  | [], [], ds, l, rl => ⟨[], rfl, rfl, by cases rl; exact .nil⟩
  | k' :: ks, u :: vs, _, l, .cons a b => by
    obtain ⟨us, h1, h2, h3⟩ := dSet_zip r (ks := ks) (vs := vs) (by simpa using l) b
    by_cases hk : k' = k
    · refine ⟨v :: us, ?_, by simp [h2], ?_⟩
      · rw [List.zip_cons_cons, List.map_cons, h1, if_pos hk]; rfl
      · unfold dSet; rw [if_pos hk]; exact .cons r h3
    · refine ⟨u :: us, ?_, by simp [h2], ?_⟩
      · rw [List.zip_cons_cons, List.map_cons, h1, if_neg hk]; rfl
      · unfold dSet; rw [if_neg hk]; exact .cons a h3
theorem dPut_ok {K : PySem.W.Frag} {F H : Hp} {a : Addr} {ks : List Key} {vs : List V} {ds : List D} {k : Key} {v : V} {d : D} (l : ks.length = vs.length) (rl : RepL K F vs ds) (r : Rep K F v d) : CRep K F (upd H a (.dK (putK (ks.zip vs) k v))) a (dPut ks ds k d) := by
  have hany : ∀ {ks : List Key} {vs : List V}, ks.length = vs.length → ((ks.zip vs).any fun kv => decide (kv.1 = k)) = ks.any fun j => decide (j = k) := by
    intro ks
    induction ks with
    | nil => intro vs l; simp
    | cons k' ks ih =>
      intro vs l
      cases vs with
      | nil => simp at l
      | cons u vs => rw [List.zip_cons_cons, List.any_cons, List.any_cons, ih (by simpa using l)]
  unfold putK dPut
  rw [hany l]
  by_cases hk : (ks.any fun j => decide (j = k)) = true
  · rw [if_pos hk, if_pos hk]
    obtain ⟨us, h1, h2, h3⟩ := dSet_zip (k := k) r l rl
    exact ⟨us, by rw [h1]; exact upd_same, h2, h3⟩
  · rw [if_neg hk, if_neg hk]
    refine ⟨vs ++ [v], ?_, by simp [l], rl.app (.one r)⟩
    rw [List.zip_append l]
    exact upd_same
theorem ps_or {st : Stmt} {t t' : TS} (h : PS X st t) (h' : PS X st t') : PS X st (fun D σ H => t D σ H ∨ t' D σ H) := ⟨fun pins s σ H D I q => q.elim (h.run pins s σ H D I) (h'.run pins s σ H D I)⟩
/-- what is stored, by the value's slot: the list's, the dict's own way -/
theorem store_ok {K : PySem.W.Frag} {mg : Str → Option Value} {σ : L2.St} {ρ : DEnv} {F H Hb Hb' : Hp} {i : Nat} {x k : Val} {v w : V} {D : Ends} (sr : SR K F H σ ρ) (rx : VR K σ Hb F H ρ v x) (rk : VR K σ Hb' F H ρ w k) (h : OutS K mg W σ ρ F H (storeV i x k ρ) D) :
    ∃ a c m, ρ[i]? = some (.ow c m) ∧ σ[i]? = some (some (.ref a)) ∧ ((∃ xs n j, (∃ ds, c = .lst ds) ∧ H a = some (.lst xs) ∧ w = .int n ∧ ixN xs.length n = some j ∧ D.nx σ (upd H a (.lst (xs.set j v)))) ∨ ((∃ ks ds, c = .dic ks ds) ∧ ∃ H', DPut H a w v H' ∧ D.nx σ H')) := by
  unfold storeV at h
  cases x with
  | fr c => exact h.elim
  | sl j => exact h.elim
  | d d =>
    cases hk : k.peek ρ with
    | none => rw [hk] at h; exact h.elim
    | some y =>
      cases hs : ρ[i]? with
      | none => rw [hk, hs] at h; exact h.elim
      | some sl =>
        cases sl with
        | un => rw [hk, hs] at h; exact h.elim
        | d z => rw [hk, hs] at h; exact h.elim
        | ow c m =>
          rw [hk, hs] at h
          dsimp only at h
          obtain ⟨ov, g1, a, g2, nF, cr⟩ := sr.slot i _ hs
          subst g2
          refine ⟨a, c, m, rfl, g1, ?_⟩
          have ry := rk.peek sr hk
          cases hc : storeO c y d with
          | none => rw [hc] at h; exact h.elim
          | some c' =>
            rw [hc] at h
            dsimp only at h
            have fin : ∀ {o : HO}, CRep K F (upd H a o) a c' → D.nx σ (upd H a o) := fun {o} cr' => by
              cases hm : mutS i c' ρ with
              | bad => rw [hm] at h; exact h.elim
              | ex z ρ' =>
                exfalso
                unfold mutS at hm
                split at hm <;> cases hm
              | ok u ρ' =>
                obtain ⟨c2, m2, e2, n2, rfl⟩ := mutS_inv hm
                rw [hm] at h
                obtain ⟨s3, ev3⟩ := mutS_ok sr e2 n2 g1 cr'
                exact h σ F _ s3 ev3
            cases c with
            | lst xs =>
              cases y with
              | int n =>
                dsimp only [storeO] at hc
                obtain rfl := ry.int
                split at hc
                · rename_i j hj
                  cases hc
                  obtain ⟨xv, hx, rl⟩ := cr
                  exact .inl ⟨xv, n, j, ⟨_, rfl⟩, hx, rfl, by rw [rl.length]; exact hj, fin ⟨_, upd_same, rl.set rx j⟩⟩
                · cases hc
              | _ => cases hc
            | dic ks vs =>
              dsimp only [storeO] at hc
              split at hc
              · rename_i k' hk'
                split at hc
                · rename_i hl
                  cases hc
                  obtain ⟨xv, hx, l, rl⟩ := cr
                  obtain rfl := ry.key hk'
                  refine .inr ⟨⟨_, _, rfl⟩, _, .inl ⟨_, k', hx, rfl, by rw [List.length_zip, ← l, Nat.min_self, sizeLine_eq]; exact hl, rfl⟩, fin (dPut_ok l rl rx)⟩
                · cases hc
              · cases hc
theorem ds_store (i : Nat) {ix value : Expr} {pos' : Pos} (hu : X.A.units + 1 < cLine) (hv : DE X W value f) {k : EM} (hi : DE X W ix k) (hN : X.N[i]? = some x := by rfl) (hvis : Vis X.env.scope x := by first | exact Or.inl rfl | exact Or.inr (Or.inl rfl) | exact Or.inr (Or.inr rfl)) (hd : (x == ("__debug__" : Str)) = false := by decide) (hcd : (x == ("__classdict__" : Str)) = false := by decide)
    (ha : ∀ v, assign (.Subscript (.Name x p) ix pos') X.env v = (do
      let ov ← holding [v] (eval (.Name x p) X.env)
      let iv ← holding [v, ov] (eval ix X.env)
      standAt pos'
      holding [v, ov, iv] (setItem ov iv v)
      release [v, ov, iv] []) := by intro _; rfl)
    (hs : swapsWithSole [.Subscript (.Name x p) ix pos'] value pos.line X.env = pure false := by rfl) (hw : swappedStores [.Subscript (.Name x p) ix pos'] value X.env = pure none := by rfl)
    (h1 : (assignEach [.Subscript (.Name x p) ix pos'] X.env).map (·.2) = [assign (.Subscript (.Name x p) ix pos') X.env] := by rfl)
    (hs2 : swapsWith value (some (.Subscript (.Name x p) ix pos')) pos.line X.env = pure false := by rfl) : DS X W (.Assign [.Subscript (.Name x p) ix pos'] value pos) (sStore i k (fz f)) :=
  ps_conseq (ps_or (ps_asg (de_fz hv) (pg_sub (pe_var hN hvis hd hcd) hi set_list ha) hs hw h1) (ps_dput hu (pe_var hN hvis hd hcd) hi (de_fz hv) hs2)) fun D σ H hq => by
    obtain ⟨F, ρ, sr, q⟩ := hq
    unfold sStore at q
    cases hf : fz f ρ with
    | bad => rw [hf] at q; exact q.elim
    | ex z ρ1 => rw [hf] at q; exact .inl ⟨F, ρ, sr, by rw [hf]; exact fun cls dd F2 H2 s2 ev2 r2 => q cls dd σ F2 H2 s2 ev2 r2⟩
    | ok xv ρ1 =>
      rw [hf] at q
      dsimp only [R.bindS] at q
      cases hs' : ρ1[i]? with
      | none => rw [hs'] at q; exact q.elim
      | some sl =>
        cases sl with
        | un => rw [hs'] at q; exact q.elim
        | d z => rw [hs'] at q; exact q.elim
        | ow c m =>
          rw [hs'] at q
          dsimp only at q
          -- the object behind the index's evaluation
          cases hk : k ρ1 with
          | bad => rw [hk] at q; exact q.elim
          | ex z ρ2 =>
            rw [hk] at q
            refine .inl ⟨F, ρ, sr, ?_⟩
            rw [hf]
            intro v F1 H1 s1 ev1 r1
            obtain ⟨ov, g1, a, g2, g3, g4⟩ := s1.slot i _ hs'
            subst g2
            refine ⟨.ref a, g1, F1, ρ1, s1, ?_⟩
            rw [hk]
            exact fun cls dd F2 H2 s2 ev2 r2 => q cls dd σ F2 H2 s2 (ev1.trans ev2) r2
          | ok kv ρ2 =>
            rw [hk] at q
            have run : ∀ v F1 H1, SR X.K F1 H1 σ ρ1 → Ev σ ρ F H σ ρ1 F1 H1 → VR X.K σ H F1 H1 ρ1 v xv → ∃ a, σ[i]? = some (some (.ref a)) ∧ ∀ w F2 H2, SR X.K F2 H2 σ ρ2 → Ev σ ρ1 F1 H1 σ ρ2 F2 H2 → VR X.K σ H1 F2 H2 ρ2 w kv →
                ∃ a' c' m', ρ2[i]? = some (.ow c' m') ∧ σ[i]? = some (some (.ref a')) ∧ ((∃ xs n j, (∃ ds, c' = .lst ds) ∧ H2 a' = some (.lst xs) ∧ w = .int n ∧ ixN xs.length n = some j ∧ D.nx σ (upd H2 a' (.lst (xs.set j v)))) ∨ ((∃ ks ds, c' = .dic ks ds) ∧ ∃ H', DPut H2 a' w v H' ∧ D.nx σ H')) := fun v F1 H1 s1 ev1 r1 => by
              obtain ⟨ov, g1, a, g2, g3, g4⟩ := s1.slot i _ hs'
              subst g2
              refine ⟨a, g1, fun w F2 H2 s2 ev2 r2 => ?_⟩
              exact store_ok s2 (r1.ev ev2) r2 (OutS.from (r := storeV i xv kv ρ2) q (ev1.trans ev2))
            cases hc : ρ2[i]? with
            | none =>
              exfalso
              dsimp only [R.bindS] at q
              unfold storeV at q
              rw [hc] at q
              split at q <;> first | exact q | (rename_i h4; cases h4)
            | some sl2 =>
              cases sl2 with
              | un =>
                exfalso
                dsimp only [R.bindS] at q
                unfold storeV at q
                rw [hc] at q
                split at q <;> first | exact q | (rename_i h4; cases h4)
              | d z =>
                exfalso
                dsimp only [R.bindS] at q
                unfold storeV at q
                rw [hc] at q
                split at q <;> first | exact q | (rename_i h4; cases h4)
              | ow c2 m2 =>
                cases c2 with
                | lst ds =>
                  refine .inl ⟨F, ρ, sr, ?_⟩
                  rw [hf]
                  intro v F1 H1 s1 ev1 r1
                  obtain ⟨a, g1, g2⟩ := run v F1 H1 s1 ev1 r1
                  refine ⟨.ref a, g1, F1, ρ1, s1, ?_⟩
                  rw [hk]
                  intro w F2 H2 s2 ev2 r2
                  obtain ⟨a', c', m', e1, e2, h⟩ := g2 w F2 H2 s2 ev2 r2
                  rw [g1] at e2; cases e2
                  rcases h with ⟨xs, n, j, _, h1, h2, h3, h4⟩ | ⟨⟨ks, ds', e3⟩, _⟩
                  · exact ⟨a, xs, n, j, rfl, h2, h1, h3, h4⟩
                  · rw [hc] at e1; cases e1; cases e3
                | dic ks ds =>
                  refine .inr ⟨F, ρ, sr, ?_⟩
                  rw [hf]
                  intro v F1 H1 s1 ev1 r1
                  obtain ⟨a, g1, g2⟩ := run v F1 H1 s1 ev1 r1
                  refine ⟨.ref a, g1, F1, ρ1, s1, ?_⟩
                  rw [hk]
                  intro w F2 H2 s2 ev2 r2
                  obtain ⟨a', c', m', e1, e2, h⟩ := g2 w F2 H2 s2 ev2 r2
                  rw [g1] at e2; cases e2
                  rcases h with ⟨xs, n, j, ⟨ds', e3⟩, _⟩ | ⟨_, H', h1, h2⟩
                  · rw [hc] at e1; cases e1; cases e3
                  · exact ⟨a, H', rfl, h1, h2⟩
end
end DL
/-! DL12: defs and their calls. -/
namespace DL
open PySem PySem.Spec PyProof.Rows L2
variable [TabT]
inductive RF where
  | ret (x : Val) (as : DEnv) | ex (x : Ex) (as : DEnv) | bad
abbrev FM := DEnv → RF
/-- what a def hands back -/
def VRF (K : PySem.W.Frag) (σ : L2.St) (as as' : DEnv) (H F' H' : Hp) (v : V) : Val → Prop
  | .d x => Rep K F' v x
  | .fr c => ∃ p, v = .ref p ∧ (H p = none ∨ ∃ (j : Nat) (c0 : Cont), as[j]? = some (.ow c0 .own) ∧ σ[j]? = some (some (.ref p))) ∧ F' p = none ∧ CRep K F' H' p c ∧ ¬ Ow σ as' p
  | .sl _ => False
def OutF (K : PySem.W.Frag) (mg : Str → Option Value) (E : XK) (σ : L2.St) (as : DEnv) (F H : Hp) (r : RF) (Q : VK) : Prop :=
  match r with
  | .ret x as' => ∀ v F' H', SR K F' H' σ as' → Ev σ as F H σ as' F' H' → VRF K σ as as' H F' H' v x → Q v H'
  | .ex x as' => ∀ cls dd F' H', SR K F' H' σ as' → Ev σ as F H σ as' F' H' → XR K mg F' x cls dd → E cls dd H'
  | .bad => False
def spD (K : PySem.W.Frag) (mg : Str → Option Value) (n : Nat) (Fm : FM) : Sp := fun vs H Q E => ∃ F as, SR K F H (vs.map some) as ∧ as.length = n ∧ OutF K mg E (vs.map some) as F H (Fm as) Q
/-! ### the arguments' slots -/
def backSlot (s : Slot) (t : Option Slot) : Slot := match s with
  | .ow _ .own => .un
  | .ow c m => match t with
    | some t => t
    | none => .ow c m
  | s => s
def argsBack (as ρ : DEnv) : DEnv := match as, ρ with
  | s :: as, t :: ρ => backSlot s (some t) :: argsBack as ρ
  | s :: as, [] => backSlot s none :: argsBack as []
  | [], _ => []
theorem argsBack_len : ∀ (as ρ : DEnv), (argsBack as ρ).length = as.length
  | [], ρ => by unfold argsBack; rfl
  | s :: as, [] => by unfold argsBack; rw [List.length_cons, argsBack_len as [], List.length_cons]
  | s :: as, t :: ρ => by unfold argsBack; rw [List.length_cons, argsBack_len as ρ, List.length_cons]
theorem argsBack_get : ∀ {as ρ : DEnv} {i : Nat}, (argsBack as ρ)[i]? = (as[i]?).map fun s => backSlot s ρ[i]?
  | [], ρ, i => by unfold argsBack; simp
  | s :: as, [], 0 => by unfold argsBack; simp
  | s :: as, [], i + 1 => by
    unfold argsBack
    rw [List.getElem?_cons_succ, List.getElem?_cons_succ, argsBack_get]
    simp
  | s :: as, t :: ρ, 0 => by unfold argsBack; simp
  | s :: as, t :: ρ, i + 1 => by
    unfold argsBack
    rw [List.getElem?_cons_succ, List.getElem?_cons_succ, List.getElem?_cons_succ, argsBack_get]
def finish (x : Val) (as ρ : DEnv) : RF := match x with
  | .d d => .ret (.d d) (argsBack as ρ)
  | .fr c => .ret (.fr c) (argsBack as ρ)
  | .sl i => match ρ[i]? with
    | some (.d d) => .ret (.d d) (argsBack as ρ)
    | some (.ow c .own) => .ret (.fr c) (argsBack as ρ)
    | _ => .bad
/-- a def with np parameters and nl further names -/
def fnD (np nl : Nat) (body : SM) : FM := fun as => if as.length = np then (match body (as ++ List.replicate nl .un) with
  | .nx ρ => finish (.d .non) as ρ
  | .rt x ρ => finish x as ρ
  | .ex x ρ => .ex x (argsBack as ρ)
  | _ => .bad) else .bad
section
variable {K : PySem.W.Frag} {σ0 σ' : L2.St} {as ρ0 ρ' : DEnv} {F H F' H' : Hp} {vs : List V}
theorem start_map {N : List Str} {i : Nat} (h : i < vs.length) : (L2.start N vs)[i]? = (vs.map some)[i]? := by
  unfold L2.start
  rw [List.getElem?_append_left (by rw [List.length_map]; exact h)]
theorem sr_start {N : List Str} {nl : Nat} (sr : SR K F H (vs.map some) as) (hN : N.length = vs.length + nl) : SR K F H (L2.start N vs) (as ++ List.replicate nl .un) := by
  have hl : vs.length = as.length := by have := sr.len; rw [List.length_map] at this; exact this
  have low : ∀ {i : Nat} {s : Slot}, (as ++ List.replicate nl .un)[i]? = some s → (i < vs.length ∧ as[i]? = some s) ∨ (vs.length ≤ i ∧ s = .un ∧ i < vs.length + nl) := fun {i s} e => by
    by_cases hi : i < as.length
    · rw [List.getElem?_append_left hi] at e
      exact .inl ⟨by omega, e⟩
    · rw [List.getElem?_append_right (by omega)] at e
      have h2 := (List.getElem?_eq_some_iff.mp e).1
      rw [List.length_replicate] at h2
      rw [List.getElem?_replicate] at e
      rw [if_pos h2] at e
      cases e
      exact .inr ⟨by omega, rfl, by omega⟩
  refine ⟨?_, sr.sub, fun i s e => ?_, fun i j c m c' m' a e1 e2 e3 e4 => ?_, sr.tab⟩
  · unfold L2.start
    rw [List.length_append, List.length_append, List.length_map, List.length_replicate, List.length_replicate]
    omega
  · rcases low e with ⟨h1, h2⟩ | ⟨h1, rfl, h3⟩
    · obtain ⟨ov, g1, g2⟩ := sr.slot i s h2
      exact ⟨ov, by rw [start_map h1]; exact g1, g2⟩
    · refine ⟨none, ?_, trivial⟩
      unfold L2.start
      rw [List.getElem?_append_right (by rw [List.length_map]; exact h1), List.length_map, List.getElem?_replicate, if_pos (by omega)]
  · rcases low e1 with ⟨h1, h2⟩ | ⟨h1, z, h3⟩
    · rcases low e2 with ⟨h4, h5⟩ | ⟨_, z, _⟩
      · rw [start_map h1] at e3
        rw [start_map h4] at e4
        exact sr.dist i j c m c' m' a h2 h5 e3 e4
      · cases z
    · cases z
theorem ow_start {N : List Str} {nl : Nat} {a : Addr} (hl : vs.length = as.length) (h : Ow (L2.start N vs) (as ++ List.replicate nl .un) a) : Ow (vs.map some) as a := by
  obtain ⟨i, c, m, e1, e2⟩ := h
  by_cases hi : i < as.length
  · rw [List.getElem?_append_left hi] at e1
    rw [start_map (by omega)] at e2
    exact ⟨i, c, m, e1, e2⟩
  · rw [List.getElem?_append_right (by omega), List.getElem?_replicate] at e1
    split at e1 <;> cases e1
theorem mt_start {N : List Str} {nl : Nat} {a : Addr} (hl : vs.length = as.length) (h : Mt (L2.start N vs) (as ++ List.replicate nl .un) a) : Mt (vs.map some) as a := by
  obtain ⟨i, c, m, e1, n, e2⟩ := h
  by_cases hi : i < as.length
  · rw [List.getElem?_append_left hi] at e1
    rw [start_map (by omega)] at e2
    exact ⟨i, c, m, e1, n, e2⟩
  · rw [List.getElem?_append_right (by omega), List.getElem?_replicate] at e1
    split at e1 <;> cases e1
theorem finish_ok {N : List Str} {nl : Nat} (sr0 : SR K F H (vs.map some) as) (s' : SR K F' H' σ' ρ') (ev : Ev (L2.start N vs) (as ++ List.replicate nl .un) F H σ' ρ' F' H') :
    SR K F' H' (vs.map some) (argsBack as ρ') ∧ Ev (vs.map some) as F H (vs.map some) (argsBack as ρ') F' H' := by
  have hl : vs.length = as.length := by have := sr0.len; rw [List.length_map] at this; exact this
  -- a lent slot behind the body
  have lent : ∀ {i : Nat} {c : Cont} {m : Md}, as[i]? = some (.ow c m) → m ≠ .own → σ'[i]? = (vs.map some)[i]? ∧ ∃ c', ρ'[i]? = some (.ow c' m) ∧ (m = .lck → c' = c) ∧ (argsBack as ρ')[i]? = some (.ow c' m) := fun {i c m} e n => by
    have hi : i < as.length := (List.getElem?_eq_some_iff.mp e).1
    obtain ⟨b1, c', b2, b3⟩ := ev.bor i c m (by rw [List.getElem?_append_left hi]; exact e) n
    rw [start_map (by omega)] at b1
    refine ⟨b1, c', b2, b3, ?_⟩
    rw [argsBack_get, e, b2]
    cases m with
    | own => exact absurd rfl n
    | bor => rfl
    | lck => rfl
  have inv : ∀ {i : Nat} {s : Slot}, (argsBack as ρ')[i]? = some s → (∃ c m, s = .ow c m ∧ m ≠ .own ∧ (∃ c0, as[i]? = some (.ow c0 m)) ∧ ρ'[i]? = some (.ow c m)) ∨ (∃ x, s = .d x ∧ as[i]? = some (.d x)) ∨ s = .un := fun {i s} e => by
    rw [argsBack_get] at e
    cases q : as[i]? with
    | none => rw [q] at e; cases e
    | some t =>
      rw [q] at e
      cases t with
      | un => cases e; exact .inr (.inr rfl)
      | d x => cases e; exact .inr (.inl ⟨x, rfl, rfl⟩)
      | ow c0 m =>
        by_cases hm : m = .own
        · subst hm; cases e; exact .inr (.inr rfl)
        · obtain ⟨_, c', b2, _, b4⟩ := lent q hm
          have e' : (argsBack as ρ')[i]? = some s := by rw [argsBack_get, q]; exact e
          rw [b4] at e'
          cases e'
          exact .inl ⟨c', m, rfl, hm, ⟨c0, rfl⟩, b2⟩
  refine ⟨⟨by rw [argsBack_len, List.length_map]; exact hl, s'.sub, fun i s e => ?_, fun i j c m c' m' a e1 e2 e3 e4 => ?_, s'.tab⟩, ⟨ev.ext, fun a o e n nt => ev.keep a o e (fun z => n (mt_start hl z)) nt, fun a e n => (ev.newF a e n).imp id (ow_start hl), ev.dom, fun i c m e n => ?_, fun a ⟨i, c, m, e1, e2⟩ => ?_, fun a ⟨i, c, m, e1, n, e2⟩ => ?_⟩⟩
  · rcases inv e with ⟨c, m, rfl, hm, ⟨c0, h0⟩, h1⟩ | ⟨x, rfl, h0⟩ | rfl
    · obtain ⟨b1, _⟩ := lent h0 hm
      obtain ⟨ov, g1, g2⟩ := s'.slot i _ h1
      exact ⟨ov, by rw [← b1]; exact g1, g2⟩
    · obtain ⟨ov, g1, v, g2, g3⟩ := sr0.slot i _ h0
      exact ⟨ov, g1, v, g2, g3.mono (.of ev.ext)⟩
    · have hi : i < (vs.map some).length := by
        have := (List.getElem?_eq_some_iff.mp e).1
        rw [argsBack_len] at this
        rw [List.length_map]; omega
      exact ⟨_, List.getElem?_eq_getElem hi, trivial⟩
  · rcases inv e1 with ⟨c1, m1, z, hm1, ⟨c01, h01⟩, h1⟩ | ⟨x, z, _⟩ | z
    · rcases inv e2 with ⟨c2, m2, z', hm2, ⟨c02, h02⟩, h2⟩ | ⟨x, z', _⟩ | z'
      · exact s'.dist i j c1 m1 c2 m2 a h1 h2 (by rw [(lent h01 hm1).1]; exact e3) (by rw [(lent h02 hm2).1]; exact e4)
      · cases z'
      · cases z'
    · cases z
    · cases z
  · obtain ⟨_, c', _, b3, b4⟩ := lent e n
    exact ⟨rfl, c', b4, b3⟩
  · rcases inv e1 with ⟨c1, m1, z, hm1, ⟨c01, h01⟩, h1⟩ | ⟨x, z, _⟩ | z
    · cases z; exact .inr ⟨i, c01, m, h01, e2⟩
    · cases z
    · cases z
  · rcases inv e1 with ⟨c1, m1, z, hm1, ⟨c01, h01⟩, h1⟩ | ⟨x, z, _⟩ | z
    · cases z; exact .inr ⟨i, c01, m, h01, n, e2⟩
    · cases z
    · cases z
/-- the value that leaves the def -/
theorem leave_ok {mg : Str → Option Value} {E : XK} {Q : VK} {N : List Str} {nl : Nat} {x : Val} {v : V} (sr0 : SR K F H (vs.map some) as) (s' : SR K F' H' σ' ρ') (ev : Ev (L2.start N vs) (as ++ List.replicate nl .un) F H σ' ρ' F' H') (r : VR K σ' H F' H' ρ' v x)
    (h : OutF K mg E (vs.map some) as F H (finish x as ρ') Q) : Q v H' := by
  have hl : vs.length = as.length := by have := sr0.len; rw [List.length_map] at this; exact this
  obtain ⟨s2, ev2⟩ := finish_ok sr0 s' ev
  have back : ∀ {a : Addr}, Ow (vs.map some) (argsBack as ρ') a → ∃ (i : Nat) (c : Cont) (m : Md), m ≠ Md.own ∧ ρ'[i]? = some (Slot.ow c m) ∧ σ'[i]? = some (some (V.ref a)) := fun {a} ⟨i, c, m, e1, e2⟩ => by
    rw [argsBack_get] at e1
    cases q : as[i]? with
    | none => rw [q] at e1; cases e1
    | some t =>
      have hi : i < as.length := (List.getElem?_eq_some_iff.mp q).1
      rw [q] at e1
      cases t with
      | un => cases e1
      | d x => cases e1
      | ow c0 m0 =>
        by_cases hm : m0 = .own
        · subst hm; cases e1
        · obtain ⟨b1, c', b2, b3⟩ := ev.bor i c0 m0 (by rw [List.getElem?_append_left hi]; exact q) hm
          rw [start_map (by omega)] at b1
          exact ⟨i, c', m0, hm, b2, by rw [b1]; exact e2⟩
  cases x with
  | d d => exact h v F' H' s2 ev2 r
  | fr c =>
    obtain ⟨p, rfl, nb, nF, cr, no⟩ := r
    refine h (.ref p) F' H' s2 ev2 ⟨p, rfl, .inl nb, nF, cr, fun z => ?_⟩
    obtain ⟨i, c', m, _, q1, q2⟩ := back z
    exact no ⟨i, c', m, q1, q2⟩
  | sl i =>
    have r : σ'[i]? = some (some v) := r
    unfold finish at h
    dsimp only at h
    cases hs : ρ'[i]? with
    | none => rw [hs] at h; exact h.elim
    | some sl =>
      rw [hs] at h
      obtain ⟨ov, g1, g2⟩ := s'.slot i _ hs
      rw [r] at g1; cases g1
      cases sl with
      | un => exact h.elim
      | d d =>
        obtain ⟨u, z, g3⟩ := g2
        cases z
        exact h v F' H' s2 ev2 g3
      | ow c m =>
        cases m with
        | bor => exact h.elim
        | lck => exact h.elim
        | own =>
          obtain ⟨p, z, nF, cr⟩ := g2
          cases z
          have no : ∀ {j : Nat} {c' : Cont} {m' : Md}, m' ≠ .own → ρ'[j]? = some (.ow c' m') → σ'[j]? = some (some (.ref p)) → False := fun {j c' m'} n q1 q2 => by
            have := s'.dist i j c .own c' m' p hs q1 r q2
            subst this
            rw [hs] at q1; cases q1
            exact n rfl
          refine h (.ref p) F' H' s2 ev2 ⟨p, rfl, ?_, nF, cr, fun z => ?_⟩
          · rcases ev.own' p ⟨i, c, .own, hs, r⟩ with z | z
            · exact .inl z
            · obtain ⟨j, c0, m0, q1, q2⟩ := z
              have hj : j < as.length := by
                by_cases hj : j < as.length
                · exact hj
                · rw [List.getElem?_append_right (by omega), List.getElem?_replicate] at q1
                  split at q1 <;> cases q1
              by_cases hm : m0 = .own
              · subst hm
                rw [List.getElem?_append_left hj] at q1
                rw [start_map (by omega)] at q2
                exact .inr ⟨j, c0, q1, q2⟩
              · obtain ⟨b1, c', b2, b3⟩ := ev.bor j c0 m0 q1 hm
                exact (no hm b2 (by rw [b1]; exact q2)).elim
          · obtain ⟨j, c', m', hm, q1, q2⟩ := back z
            exact no hm q1 q2
end
/-! ### a def keeps its promise -/
structure GFnG (Γ : Around → Prop) (P : Program) (w : World) (K : PySem.W.Frag) (mg : Str → Option Value) (base : Heap) (k : Nat) (f : Addr) (fd : FuncData) (ps : List Str) (Fm : FM) : Prop where
  run : ∀ (A : Around) (outer : List Env) (s : Shared) (H : Hp) (args : Args) (us : List Value) (vs : List V) (Q : VK) (E : XK), Room k A → Γ A → Env0 P w K mg base A outer s H → BindsTo s fd args (ps.zip us) → Vals vs us →
    spD K mg ps.length Fm vs H Q E → codeAny (model P w) A (.call (.ref f) args) (CR (L2.CX P w) outer P w H s Q E) s
/-- no repr is under way -/
abbrev NoGd : Around → Prop := fun A => A.guards = some []
abbrev GFn := GFnG NoGd
theorem GFnG.mono {Γ : Around → Prop} {P : Program} {w : World} {K : PySem.W.Frag} {mg : Str → Option Value} {base : Heap} {j k : Nat} {f : Addr} {fd : FuncData} {ps : List Str} {Fm : FM} (G : GFnG Γ P w K mg base j f fd ps Fm) (h : j ≤ k) : GFnG Γ P w K mg base k f fd ps Fm :=
  ⟨fun A outer s H args us vs Q E hr => G.run A outer s H args us vs Q E (hr.mono h)⟩
theorem sp_len {K : PySem.W.Frag} {mg : Str → Option Value} {n : Nat} {Fm : FM} {vs : List V} {H : Hp} {Q : VK} {E : XK} (h : spD K mg n Fm vs H Q E) : vs.length = n := by
  obtain ⟨F, as, sr, hl, _⟩ := h
  have := sr.len
  rw [List.length_map] at this
  omega
/-- THE RULE for a def: its body, read by a function of the slots -/
theorem gfn_of {Γ : Around → Prop} {P : Program} {w : World} {K : PySem.W.Frag} {mg : Str → Option Value} {base : Heap} {k : Nat} {x qual : Str} {st : Stmt} {f : Addr} {fd : FuncData} {N ps : List Str} {g : SM} (Fu : Fun K x qual st f fd) (S : FnScope N ps (defScope st)) (nl : Nat) (hNl : N.length = ps.length + nl)
    (hbody : ∀ (cdv : Value) (A : Around) (outer : List Env) (s : Shared) (H : Hp) (E : XK), Room k (A.deeper (envOfC qual (defScope st) s.heap.objs.size f cdv)) → Γ (A.deeper (envOfC qual (defScope st) s.heap.objs.size f cdv)) →
      DSs (cxOf (L2.CX P w) P w K mg base N qual (defScope st) f cdv A outer s H E) (fun c d _ H' => E c d H') (defBody st) g) (hΓ : ∀ A env, Γ A → Γ (A.deeper env) := by intro A env h; exact h) : GFnG Γ P w K mg base (k + 1) f fd ps (fnD ps.length nl g) := by
  obtain ⟨oc, od, kV, doc, pm, an, cdv, ct, osl, rfl, lk, hcd⟩ := Fu.ex
  refine ⟨fun A outer s H args us vs Q E hr hG e0 hb r hsp => ?_⟩
  have hl : vs.length = ps.length := sp_len hsp
  obtain ⟨F, as, sr, hla, out⟩ := hsp
  have KX : K.In s.heap := e0.mod.kin.keeps fun b o e => (e0.bs b o e).1
  have lim : s.heap.NoLimit := e0.mod.nolimit.keeps fun b o e => (e0.bs b o e).1
  have hkind : ∀ y ∈ ps.zip us, (defScope st).names.lookup y.1 = some .local ∨ ((defScope st).names.lookup y.1 = some .cell ∧ ((cellsFrom (s.heap.objs.size + 1) (defScope st).names []).lookup y.1).isSome = true) := fun ⟨n, v⟩ hy => (S.par n (List.of_mem_zip hy).1).imp id fun q => ⟨q, PySem.W.cellsFrom_some _ _ _ (.inl q)⟩
  refine codeAny_call_function hr.depth (KX _ _ lk) rfl S.co S.gen rfl (PySem.W.codeRec_of KX hcd) (hb _ _ _ _ (wpAny_newFunctionEnv_cells S.kind hkind fun env he s1 y => ?_))
  subst he
  refine ⟨lim.keeps y.toInCall.keep, codeAny_func ?_⟩
  have I : Inv (cxOf (L2.CX P w) P w K mg base N qual (defScope st) f cdv A outer s H E) [] (L2.start N vs) H s1 := inv_start S hr.hd e0 hl r y
  have hN' : N.length = vs.length + nl := by rw [hl]; exact hNl
  have sr' : SR K F H (L2.start N vs) (as ++ List.replicate nl .un) := sr_start sr hN'
  have reading : tS K mg (fun c d _ H' => E c d H') g { nx := fun _ H' => Q .non H', rt := Q } (L2.start N vs) H := by
    refine ⟨F, _, sr', ?_⟩
    unfold fnD at out
    rw [if_pos hla] at out
    cases hg : g (as ++ List.replicate nl .un) with
    | nx ρ' => rw [hg] at out; exact fun σ' F' H' s' ev => leave_ok sr s' ev (x := .d .non) (v := .non) Rep.non out
    | rt x ρ' => rw [hg] at out; exact fun v σ' F' H' s' ev rv => leave_ok sr s' ev rv out
    | ex x ρ' =>
      rw [hg] at out
      exact fun c d σ' F' H' s' ev rv => let ⟨s2, ev2⟩ := finish_ok sr s' ev; out c d F' H' s2 ev2 rv
    | bk ρ' => rw [hg] at out; exact out.elim
    | ct ρ' => rw [hg] at out; exact out.elim
    | bad => rw [hg] at out; exact out.elim
  refine wpAny_mono ((hbody cdv A outer s H E (hr.deeper _) (hΓ _ _ hG)).run [] s1 _ H _ I reading) (fun fl s' hs => ?_) fun e s' hs => hs
  have fin : ∀ {σ' : L2.St} {H' : Hp} {v : V} {u : Value}, Inv (cxOf (L2.CX P w) P w K mg base N qual (defScope st) f cdv A outer s H E) [] σ' H' s' → RelV v u → Q v H' → CE outer P w H s Q u s' := fun {σ' H' v u} J rv q => ⟨v, H', J.os, J.bare, J.base, J.hok, rv, q⟩
  cases fl with
  | ret u => obtain ⟨v, σ', H', J, rv, q⟩ := hs; exact fin J rv q
  | next => obtain ⟨σ', H', J, q⟩ := hs; exact fin (v := V.non) (u := Value.none) J rfl q
  | brk => obtain ⟨_, _, _, q⟩ := hs; exact q.elim
  | cont => obtain ⟨_, _, _, q⟩ := hs; exact q.elim
/-! ### calls -/
def argSlot (ρ : DEnv) : Val → Option Slot
  | .d d => some (.d d)
  | .fr c => some (.ow c .own)
  | .sl i => match ρ[i]? with
    | some (.d d) => some (.d d)
    | some (.ow c .own) => some (.ow c .bor)
    | some (.ow c m) => some (.ow c m)
    | _ => none
def argSlots (ρ : DEnv) : List Val → Option DEnv
  | [] => some []
  | x :: xs => match argSlot ρ x, argSlots ρ xs with
    | some s, some ss => some (s :: ss)
    | _, _ => none
/-- no slot's object is lent twice -/
def lentOnce : List Val → Bool
  | [] => true
  | .sl i :: xs => !(xs.any fun y => match y with | .sl j => decide (i = j) | _ => false) && lentOnce xs
  | _ :: xs => lentOnce xs
def putBack (ρ : DEnv) : List Val → DEnv → DEnv
  | .sl i :: xs, s :: ss => match ρ[i]?, s with
    | some (.ow _ m), .ow c' _ => (putBack ρ xs ss).set i (.ow c' m)
    | _, _ => putBack ρ xs ss
  | _ :: xs, _ :: ss => putBack ρ xs ss
  | _, _ => ρ
def callF (Fm : FM) (xs : List Val) : EM := fun ρ => match argSlots ρ xs with
  | some as => if lentOnce xs = true then (match Fm as with
    | .ret x as' => .ok x (putBack ρ xs as')
    | .ex x as' => .ex x (putBack ρ xs as')
    | .bad => .bad) else .bad
  | none => .bad
def eCall (Fm : FM) (g : M (List Val)) : EM := fun ρ => (g ρ).bind fun xs ρ1 => callF Fm xs ρ1
theorem putBack_len (ρ : DEnv) : ∀ (xs : List Val) (ss : DEnv), (putBack ρ xs ss).length = ρ.length
  | [], _ => by unfold putBack; rfl
  | .sl i :: xs, [] => by unfold putBack; rfl
  | .d x :: xs, [] => by unfold putBack; rfl
  | .fr x :: xs, [] => by unfold putBack; rfl
  | .d x :: xs, s :: ss => by unfold putBack; exact putBack_len ρ xs ss
  | .fr x :: xs, s :: ss => by unfold putBack; exact putBack_len ρ xs ss
  | .sl i :: xs, s :: ss => by
    unfold putBack
    split
    · rw [List.length_set, putBack_len ρ xs ss]
    · exact putBack_len ρ xs ss
/-- what stands at a slot behind a call -/
theorem putBack_get {ρ : DEnv} {i : Nat} : ∀ {xs : List Val} {ss : DEnv}, lentOnce xs = true → (putBack ρ xs ss)[i]? = ρ[i]? ∧ (∀ j : Nat, xs[j]? = some (.sl i) → ∀ c m c' m', ρ[i]? = some (.ow c m) → ss[j]? = some (.ow c' m') → False) ∨
    ∃ (j : Nat) (c : Cont) (m : Md) (c' : Cont) (m' : Md), xs[j]? = some (.sl i) ∧ ρ[i]? = some (.ow c m) ∧ ss[j]? = some (.ow c' m') ∧ (putBack ρ xs ss)[i]? = some (.ow c' m)
  | [], ss, _ => .inl ⟨by unfold putBack; rfl, fun j h => by simp at h⟩
  | x :: xs, [], _ => .inl ⟨by unfold putBack; cases x <;> rfl, fun j _ _ _ _ _ _ h => by simp at h⟩
  | .d x :: xs, s :: ss, h => by
    have ih := putBack_get (ρ := ρ) (i := i) (xs := xs) (ss := ss) h
    unfold putBack
    rcases ih with ⟨h1, h2⟩ | ⟨j, c, m, c', m', h1, h2⟩
    · exact .inl ⟨h1, fun j hj => by cases j with
        | zero => cases hj
        | succ j => exact fun c m c' m' q1 q2 => h2 j (by simpa using hj) c m c' m' q1 (by simpa using q2)⟩
    · exact .inr ⟨j + 1, c, m, c', m', by simpa using h1, by simpa using h2⟩
  | .fr x :: xs, s :: ss, h => by
    have ih := putBack_get (ρ := ρ) (i := i) (xs := xs) (ss := ss) h
    unfold putBack
    rcases ih with ⟨h1, h2⟩ | ⟨j, c, m, c', m', h1, h2⟩
    · exact .inl ⟨h1, fun j hj => by cases j with
        | zero => cases hj
        | succ j => exact fun c m c' m' q1 q2 => h2 j (by simpa using hj) c m c' m' q1 (by simpa using q2)⟩
    · exact .inr ⟨j + 1, c, m, c', m', by simpa using h1, by simpa using h2⟩
  | .sl k :: xs, s :: ss, h => by
    have h' : (xs.any fun y => match y with | .sl j => decide (k = j) | _ => false) = false ∧ lentOnce xs = true := by
      unfold lentOnce at h
      rw [Bool.and_eq_true] at h
      exact ⟨by have := h.1; rw [Bool.not_eq_true'] at this; exact this, h.2⟩
    have ih := putBack_get (ρ := ρ) (i := i) (xs := xs) (ss := ss) h'.2
    have nok : ∀ j : Nat, xs[j]? ≠ some (.sl k) := fun j hj => by
      have hm := List.mem_of_getElem? hj
      have := List.any_eq_false.mp h'.1 _ hm
      simp at this
    by_cases hk : k = i
    · subst hk
      have ih' : (putBack ρ xs ss)[k]? = ρ[k]? := by
        rcases ih with ⟨h1, _⟩ | ⟨j, c, m, c', m', h1, _⟩
        · exact h1
        · exact absurd h1 (nok j)
      have skip : (putBack ρ (.sl k :: xs) (s :: ss) = putBack ρ xs ss) → (∀ c m c' m', ρ[k]? = some (.ow c m) → s = .ow c' m' → False) → (putBack ρ (.sl k :: xs) (s :: ss))[k]? = ρ[k]? ∧ (∀ j : Nat, (Val.sl k :: xs)[j]? = some (.sl k) → ∀ c m c' m', ρ[k]? = some (.ow c m) → (s :: ss)[j]? = some (.ow c' m') → False) := fun e n => by
        rw [e]
        refine ⟨ih', fun j hj c m c' m' q1 q2 => ?_⟩
        cases j with
        | succ j => exact nok j (by simpa using hj)
        | zero => exact n c m c' m' q1 (by simpa using q2)
      cases hr : ρ[k]? with
      | none => rw [← hr]; exact .inl (skip (by simp only [putBack, hr]) fun c m c' m' z => by rw [hr] at z; cases z)
      | some sl =>
        cases sl with
        | un => rw [← hr]; exact .inl (skip (by simp only [putBack, hr]) fun c m c' m' z => by rw [hr] at z; cases z)
        | d x => rw [← hr]; exact .inl (skip (by simp only [putBack, hr]) fun c m c' m' z => by rw [hr] at z; cases z)
        | ow c m =>
          cases s with
          | un => rw [← hr]; exact .inl (skip (by simp only [putBack, hr]) fun c m c' m' _ z => by cases z)
          | d x => rw [← hr]; exact .inl (skip (by simp only [putBack, hr]) fun c m c' m' _ z => by cases z)
          | ow c' m' =>
            right
            have hl : k < ρ.length := (List.getElem?_eq_some_iff.mp hr).1
            exact ⟨0, c, m, c', m', rfl, rfl, rfl, by simp only [putBack, hr]; exact List.getElem?_set_self (by rw [putBack_len]; exact hl)⟩
    · have same : (putBack ρ (.sl k :: xs) (s :: ss))[i]? = (putBack ρ xs ss)[i]? := by
        cases hr : ρ[k]? with
        | none => simp only [putBack, hr]
        | some sl =>
          cases sl with
          | un => simp only [putBack, hr]
          | d x => simp only [putBack, hr]
          | ow c m =>
            cases s with
            | un => simp only [putBack, hr]
            | d x => simp only [putBack, hr]
            | ow c' m' =>
              simp only [putBack, hr]
              exact List.getElem?_set_ne hk
      rw [same]
      rcases ih with ⟨h1, h2⟩ | ⟨j, c, m, c', m', h1, h2⟩
      · exact .inl ⟨h1, fun j hj => by cases j with
          | zero => exact absurd (Val.sl.inj (Option.some.inj hj)) hk
          | succ j => exact fun c m c' m' q1 q2 => h2 j (by simpa using hj) c m c' m' q1 (by simpa using q2)⟩
      · exact .inr ⟨j + 1, c, m, c', m', by simpa using h1, by simpa using h2⟩
end DL
/-! DL13: calls of defs. -/
namespace DL
open PySem PySem.Spec PyProof.Rows L2
variable [TabT]
section
variable {K : PySem.W.Frag} {σ : L2.St} {ρ ρ0 as as' : DEnv} {F0 H0 F H F' H' : Hp} {vs : List V} {xs : List Val}
theorem argSlots_len : ∀ {xs : List Val} {as : DEnv}, argSlots ρ xs = some as → as.length = xs.length
  | [], as, h => by cases h; rfl
  | x :: xs, as, h => by
    unfold argSlots at h
    cases h1 : argSlot ρ x with
    | none => rw [h1] at h; cases h
    | some s =>
      cases h2 : argSlots ρ xs with
      | none => rw [h1, h2] at h; cases h
      | some ss => rw [h1, h2] at h; cases h; rw [List.length_cons, List.length_cons, argSlots_len h2]
theorem argSlots_get : ∀ {xs : List Val} {as : DEnv} {j : Nat} {s : Slot}, argSlots ρ xs = some as → as[j]? = some s → ∃ x, xs[j]? = some x ∧ argSlot ρ x = some s
  | [], as, j, s, h, e => by cases h; simp at e
  | x :: xs, as, j, s, h, e => by
    unfold argSlots at h
    cases h1 : argSlot ρ x with
    | none => rw [h1] at h; cases h
    | some t =>
      cases h2 : argSlots ρ xs with
      | none => rw [h1, h2] at h; cases h
      | some ss =>
        rw [h1, h2] at h; cases h
        cases j with
        | zero => exact ⟨x, rfl, by rw [h1]; simpa using e⟩
        | succ j =>
          obtain ⟨y, h3, h4⟩ := argSlots_get (j := j) h2 (by simpa using e)
          exact ⟨y, by simpa using h3, h4⟩
theorem argSlots_at {j : Nat} {x : Val} (h : argSlots ρ xs = some as) (e : xs[j]? = some x) : ∃ s, as[j]? = some s ∧ argSlot ρ x = some s := by
  have hj : j < as.length := by rw [argSlots_len h]; exact (List.getElem?_eq_some_iff.mp e).1
  obtain ⟨y, h1, h2⟩ := argSlots_get h (List.getElem?_eq_getElem hj)
  rw [e] at h1; cases h1
  exact ⟨_, List.getElem?_eq_getElem hj, h2⟩
/-- an argument's slot that owns -/
theorem argSlot_ow {x : Val} {c : Cont} {m : Md} (h : argSlot ρ x = some (.ow c m)) : (x = .fr c ∧ m = .own) ∨ ∃ i m0, x = .sl i ∧ ρ[i]? = some (.ow c m0) ∧ ((m0 = .own ∧ m = .bor) ∨ (m0 = m ∧ m ≠ .own)) := by
  cases x with
  | d d => cases h
  | fr c' => cases h; exact .inl ⟨rfl, rfl⟩
  | sl i =>
    unfold argSlot at h
    dsimp only at h
    cases hr : ρ[i]? with
    | none => rw [hr] at h; cases h
    | some s =>
      rw [hr] at h
      cases s with
      | un => cases h
      | d x => cases h
      | ow c' m' =>
        cases m' with
        | own => cases h; exact .inr ⟨i, .own, rfl, hr, .inl ⟨rfl, rfl⟩⟩
        | bor => cases h; exact .inr ⟨i, .bor, rfl, hr, .inr ⟨rfl, by decide⟩⟩
        | lck => cases h; exact .inr ⟨i, .lck, rfl, hr, .inr ⟨rfl, by decide⟩⟩
theorem lent_inj : ∀ {xs : List Val} {j k i : Nat}, lentOnce xs = true → xs[j]? = some (.sl i) → xs[k]? = some (.sl i) → j = k
  | [], j, k, i, _, e, _ => by simp at e
  | .d x :: xs, j, k, i, h, e1, e2 => by
    cases j with
    | zero => cases e1
    | succ j => cases k with
      | zero => cases e2
      | succ k => exact congrArg (· + 1) (lent_inj (xs := xs) h (by simpa using e1) (by simpa using e2))
  | .fr x :: xs, j, k, i, h, e1, e2 => by
    cases j with
    | zero => cases e1
    | succ j => cases k with
      | zero => cases e2
      | succ k => exact congrArg (· + 1) (lent_inj (xs := xs) h (by simpa using e1) (by simpa using e2))
  | .sl l :: xs, j, k, i, h, e1, e2 => by
    unfold lentOnce at h
    rw [Bool.and_eq_true, Bool.not_eq_true'] at h
    have no : ∀ n : Nat, xs[n]? = some (.sl l) → False := fun n hn => by
      have := List.any_eq_false.mp h.1 _ (List.mem_of_getElem? hn)
      simp at this
    cases j with
    | zero =>
      cases e1
      cases k with
      | zero => rfl
      | succ k => exact (no k (by simpa using e2)).elim
    | succ j =>
      cases k with
      | zero => cases e2; exact (no j (by simpa using e1)).elim
      | succ k => exact congrArg (· + 1) (lent_inj (xs := xs) h.2 (by simpa using e1) (by simpa using e2))
theorem paired_at {α β : Type} {G : α → β → Prop} : ∀ {l : List α} {m : List β} {i : Nat} {y : β}, Paired G l m → m[i]? = some y → ∃ x, l[i]? = some x ∧ G x y
  | _, _, _, _, .nil, e => by simp at e
  | _, _, 0, _, .cons a b, e => by simp at e; subst e; exact ⟨_, rfl, a⟩
  | _, _, i + 1, _, .cons a b, e => by
    obtain ⟨x, h1, h2⟩ := paired_at (i := i) b (by simpa using e)
    exact ⟨x, by simpa using h1, h2⟩
/-- who owns an argument's object -/
theorem arg_owner {j : Nat} {c : Cont} {m : Md} {a : Addr} (rl : VRL K σ H0 F H ρ vs xs) (h : argSlots ρ xs = some as) (e1 : as[j]? = some (.ow c m)) (e2 : (vs.map some)[j]? = some (some (.ref a))) :
    (xs[j]? = some (.fr c) ∧ vs[j]? = some (.ref a) ∧ m = .own ∧ H0 a = none ∧ F a = none ∧ CRep K F H a c ∧ ¬ Ow σ ρ a) ∨ ∃ i m0, xs[j]? = some (.sl i) ∧ ρ[i]? = some (.ow c m0) ∧ σ[i]? = some (some (.ref a)) ∧ ((m0 = .own ∧ m = .bor) ∨ (m0 = m ∧ m ≠ .own)) := by
  obtain ⟨x, h1, h2⟩ := argSlots_get h e1
  obtain ⟨v, h3, h4⟩ := paired_at rl.all h1
  rw [List.getElem?_map, h3] at e2
  have e2 : v = .ref a := by cases e2; rfl
  subst e2
  rcases argSlot_ow h2 with ⟨rfl, hm⟩ | ⟨i, m0, rfl, h5, h6⟩
  · obtain ⟨p, z, nb, nF, cr, no⟩ := h4
    cases z
    exact .inl ⟨h1, h3, hm, nb, nF, cr, no⟩
  · exact .inr ⟨i, m0, h1, h5, h4, h6⟩
theorem args_sr (sr : SR K F H σ ρ) (rl : VRL K σ H0 F H ρ vs xs) (h : argSlots ρ xs = some as) (hl : lentOnce xs = true) : SR K F H (vs.map some) as := by
  have len : vs.length = as.length := by rw [argSlots_len h]; exact rl.all.length
  refine ⟨by rw [List.length_map]; exact len, sr.sub, fun j s e => ?_, fun j k c m c' m' a e1 e2 e3 e4 => ?_, sr.tab⟩
  · obtain ⟨x, h1, h2⟩ := argSlots_get h e
    obtain ⟨v, h3, h4⟩ := paired_at rl.all h1
    refine ⟨some v, by rw [List.getElem?_map, h3]; rfl, ?_⟩
    cases x with
    | d d => cases h2; exact ⟨v, rfl, h4⟩
    | fr c =>
      cases h2
      obtain ⟨p, rfl, _, nF, cr, _⟩ := h4
      exact ⟨p, rfl, nF, cr⟩
    | sl i =>
      have h4 : σ[i]? = some (some v) := h4
      unfold argSlot at h2
      dsimp only at h2
      cases hr : ρ[i]? with
      | none => rw [hr] at h2; cases h2
      | some t =>
        rw [hr] at h2
        obtain ⟨ov, g1, g2⟩ := sr.slot i t hr
        rw [h4] at g1; cases g1
        cases t with
        | un => cases h2
        | d d => cases h2; exact g2
        | ow c m => cases m <;> (cases h2; exact g2)
  · rcases arg_owner rl h e1 e3 with ⟨q1, q2, _, _, _, _, q3⟩ | ⟨i, m0, q1, q2, q3, _⟩ <;> rcases arg_owner rl h e2 e4 with ⟨r1, r2, _, _, _, _, r3⟩ | ⟨i', m1, r1, r2, r3, _⟩
    · exact rl.frs j k c c' a q1 r1 q2 r2
    · exact absurd ⟨i', _, _, r2, r3⟩ q3
    · exact absurd ⟨i, _, _, q2, q3⟩ r3
    · have := sr.dist i i' _ _ _ _ a q2 r2 q3 r3
      subst this
      exact lent_inj hl q1 r1
/-- behind the call -/
theorem back_ok (sr : SR K F H σ ρ) (ev : Ev σ ρ0 F0 H0 σ ρ F H) (rl : VRL K σ H0 F H ρ vs xs) (h : argSlots ρ xs = some as) (hl : lentOnce xs = true) (s' : SR K F' H' (vs.map some) as') (ev' : Ev (vs.map some) as F H (vs.map some) as' F' H') :
    SR K F' H' σ (putBack ρ xs as') ∧ Ev σ ρ0 F0 H0 σ (putBack ρ xs as') F' H' := by
  -- a lent slot i, behind the call
  have lent : ∀ {j i : Nat} {c : Cont} {m : Md}, xs[j]? = some (.sl i) → ρ[i]? = some (.ow c m) → ∃ c' m', as'[j]? = some (.ow c' m') ∧ (m = .lck → c' = c) := fun {j i c m} h1 h2 => by
    obtain ⟨s, h3, h4⟩ := argSlots_at h h1
    unfold argSlot at h4
    dsimp only at h4
    rw [h2] at h4
    cases m with
    | own => cases h4; obtain ⟨_, c', b, _⟩ := ev'.bor j c .bor h3 (by decide); exact ⟨c', _, b, fun z => by cases z⟩
    | bor => cases h4; obtain ⟨_, c', b, _⟩ := ev'.bor j c .bor h3 (by decide); exact ⟨c', _, b, fun z => by cases z⟩
    | lck => cases h4; obtain ⟨_, c', b, b2⟩ := ev'.bor j c .lck h3 (by decide); exact ⟨c', _, b, b2⟩
  have look : ∀ (i : Nat), ((putBack ρ xs as')[i]? = ρ[i]? ∧ ∀ (j : Nat) (c : Cont) (m : Md), xs[j]? = some (.sl i) → ρ[i]? = some (.ow c m) → False) ∨ ∃ (j : Nat) (c : Cont) (m : Md) (c' : Cont) (m' : Md), xs[j]? = some (.sl i) ∧ ρ[i]? = some (.ow c m) ∧ as'[j]? = some (.ow c' m') ∧ (putBack ρ xs as')[i]? = some (.ow c' m) := fun i => by
    rcases putBack_get (ρ := ρ) (i := i) (xs := xs) (ss := as') hl with ⟨h1, h2⟩ | h1
    · left
      refine ⟨h1, fun j c m q1 q2 => ?_⟩
      obtain ⟨c', m', b, _⟩ := lent q1 q2
      exact h2 j q1 c m c' m' q2 b
    · exact .inr h1
  have vj : ∀ {j i : Nat} {a : Addr}, xs[j]? = some (.sl i) → σ[i]? = some (some (.ref a)) → (vs.map some)[j]? = some (some (.ref a)) := fun {j i a} h1 h2 => by
    obtain ⟨v, h3, h4⟩ := paired_at rl.all h1
    have h4 : σ[i]? = some (some v) := h4
    rw [h2] at h4; cases h4
    rw [List.getElem?_map, h3]; rfl
  have owB : ∀ {a : Addr}, Ow σ (putBack ρ xs as') a → Ow σ ρ a := fun {a} ⟨i, c, m, e1, e2⟩ => by
    rcases look i with ⟨h1, _⟩ | ⟨j, c1, m1, c', m', h1, h2, h3, h4⟩
    · rw [h1] at e1; exact ⟨i, c, m, e1, e2⟩
    · exact ⟨i, c1, m1, h2, e2⟩
  have mtB : ∀ {a : Addr}, Mt σ (putBack ρ xs as') a → Mt σ ρ a := fun {a} ⟨i, c, m, e1, n, e2⟩ => by
    rcases look i with ⟨h1, _⟩ | ⟨j, c1, m1, c', m', h1, h2, h3, h4⟩
    · rw [h1] at e1; exact ⟨i, c, m, e1, n, e2⟩
    · rw [h4] at e1; cases e1; exact ⟨i, c1, m, h2, n, e2⟩
  -- an object that no argument lends is as it was
  have stay : ∀ {i : Nat} {c : Cont} {m : Md} {a : Addr}, ρ[i]? = some (.ow c m) → σ[i]? = some (some (.ref a)) → (∀ (j : Nat), xs[j]? = some (.sl i) → False) → F a = none → CRep K F H a c → F' a = none ∧ CRep K F' H' a c := fun {i c m a} e1 e2 no nF cr => by
    obtain ⟨o, ho⟩ := cr.some
    have nOw : ¬ Ow (vs.map some) as a := fun ⟨j, c1, m1, q1, q2⟩ => by
      rcases arg_owner rl h q1 q2 with ⟨_, _, _, _, _, _, z⟩ | ⟨i', m0, z1, z2, z3, _⟩
      · exact z ⟨i, c, m, e1, e2⟩
      · have := sr.dist i i' _ _ _ _ a e1 z2 e2 z3
        subst this
        exact no j z1
    refine ⟨?_, cr.mono (.of ev'.ext) ((ev'.keep a o ho (fun z => nOw z.ow) (CRep.nt ho cr)).trans ho.symm)⟩
    cases hF : F' a with
    | none => rfl
    | some u =>
      rcases ev'.newF a nF (by rw [hF]; simp) with z | z
      · rw [ho] at z; cases z
      · exact absurd z nOw
  refine ⟨⟨by rw [putBack_len]; exact sr.len, s'.sub, fun i s e => ?_, fun i j c m c' m' a e1 e2 e3 e4 => ?_, s'.tab⟩, ⟨ev.ext.trans ev'.ext, fun a o e n nt => ?_, fun a e n => ?_, fun a e => ev'.dom a (ev.dom a e), fun i c m e n => ?_, fun a z => ev.own' a (owB z), fun a z => ev.mt' a (mtB z)⟩⟩
  · rcases look i with ⟨h1, h2⟩ | ⟨j, c1, m1, c', m', h1, h2, h3, h4⟩
    · rw [h1] at e
      obtain ⟨ov, g1, g2⟩ := sr.slot i s e
      refine ⟨ov, g1, ?_⟩
      cases s with
      | un => trivial
      | d x => obtain ⟨v, q, r⟩ := g2; exact ⟨v, q, r.mono (.of ev'.ext)⟩
      | ow c m =>
        obtain ⟨a, q, nF, cr⟩ := g2
        subst q
        obtain ⟨z1, z2⟩ := stay e g1 (fun j hj => h2 j c m hj e) nF cr
        exact ⟨a, rfl, z1, z2⟩
    · rw [h4] at e
      cases e
      obtain ⟨ov, g1, a, g2, _⟩ := sr.slot i _ h2
      subst g2
      obtain ⟨ov', w1, a', w2, w3, w4⟩ := s'.slot j _ h3
      subst w2
      rw [vj h1 g1] at w1
      cases w1
      exact ⟨_, g1, a, rfl, w3, w4⟩
  · have o1 : ∀ {i : Nat} {c : Cont} {m : Md}, (putBack ρ xs as')[i]? = some (.ow c m) → ∃ c1 m1, ρ[i]? = some (.ow c1 m1) := fun {i c m} e => by
      rcases look i with ⟨h1, _⟩ | ⟨j, c1, m1, c', m', h1, h2, h3, h4⟩
      · rw [h1] at e; exact ⟨c, m, e⟩
      · exact ⟨c1, m1, h2⟩
    obtain ⟨c1, m1, q1⟩ := o1 e1
    obtain ⟨c2, m2, q2⟩ := o1 e2
    exact sr.dist i j c1 m1 c2 m2 a q1 q2 e3 e4
  · refine ev'.keep a o (ev.keep a o e n nt) (fun ⟨j, c, m, q1, nm, q2⟩ => ?_) nt
    rcases arg_owner rl h q1 q2 with ⟨_, _, _, z, _⟩ | ⟨i, m0, z1, z2, z3, z4⟩
    · rw [e] at z; cases z
    · have hm : m0 ≠ .lck := by
        rcases z4 with ⟨rfl, _⟩ | ⟨rfl, _⟩
        · decide
        · exact nm
      rcases ev.mt' a ⟨i, c, m0, z2, hm, z3⟩ with z | z
      · rw [e] at z; cases z
      · exact n z
  · by_cases hF : F a = none
    · rcases ev'.newF a hF n with z | ⟨j, c, m, q1, q2⟩
      · cases hH : H0 a with
        | none => exact .inl rfl
        | some o => exact absurd z (ev.dom a (by rw [hH]; simp))
      · rcases arg_owner rl h q1 q2 with ⟨_, _, _, z, _⟩ | ⟨i, m0, z1, z2, z3, z4⟩
        · exact .inl z
        · exact ev.own' a ⟨i, c, m0, z2, z3⟩
    · exact ev.newF a e hF
  · obtain ⟨b1, c1, b2, b3⟩ := ev.bor i c m e n
    refine ⟨rfl, ?_⟩
    rcases look i with ⟨h1, _⟩ | ⟨j, c2, m2, c', m', h1, h2, h3, h4⟩
    · exact ⟨c1, by rw [h1]; exact b2, b3⟩
    · rw [b2] at h2
      cases h2
      obtain ⟨c3, m3, q1, q2⟩ := lent h1 b2
      rw [h3] at q1
      cases q1
      exact ⟨c', h4, fun z => (q2 z).trans (b3 z)⟩
end
section
variable {Γ : Around → Prop} {X : Cx} {W : WX} {e : Expr} {es : List Expr} {g : M (List Val)} {pos p : Pos} {x : Str} {k : Nat} {f : Addr} {fd : FuncData} {ps : List Str} {Fm : FM}
/-- the callee's promise, at a state of the caller -/
theorem call_ok {σ : L2.St} {ρ0 : DEnv} {F0 H0 F H : Hp} {ρ : DEnv} {vs : List V} {xs : List Val} {Q : VK} {E : XK} (sr : SR X.K F H σ ρ) (ev : Ev σ ρ0 F0 H0 σ ρ F H) (rl : VRL X.K σ H0 F H ρ vs xs) (hn : xs.length = ps.length)
    (h : Out X.K X.mg E (relV X.K σ) σ ρ0 F0 H0 (callF Fm xs ρ) Q) : spD X.K X.mg ps.length Fm vs H Q E := by
  unfold callF at h
  cases ha : argSlots ρ xs with
  | none => rw [ha] at h; exact h.elim
  | some as =>
    rw [ha] at h
    dsimp only at h
    split at h
    · rename_i hl
      refine ⟨F, as, args_sr sr rl ha hl, by rw [argSlots_len ha]; exact hn, ?_⟩
      cases hf : Fm as with
      | bad => rw [hf] at h; exact h.elim
      | ex x as' =>
        rw [hf] at h
        exact fun c d F' H' s' ev' r => let ⟨s2, ev2⟩ := back_ok sr ev rl ha hl s' ev'; h c d F' H' s2 ev2 r
      | ret x as' =>
        rw [hf] at h
        refine fun v F' H' s' ev' r => let ⟨s2, ev2⟩ := back_ok sr ev rl ha hl s' ev'; h v F' H' s2 ev2 ?_
        cases x with
        | d d => exact r
        | sl i => exact r.elim
        | fr c =>
          obtain ⟨q, rfl, hnew, nF, cr, no⟩ := r
          have new : H0 q = none ∧ ¬ Ow σ ρ q := by
            rcases hnew with z | ⟨j, c0, z1, z2⟩
            · refine ⟨?_, fun ⟨i, c', m', w1, w2⟩ => ?_⟩
              · cases hH : H0 q with
                | none => rfl
                | some o => exact absurd z (ev.dom q (by rw [hH]; simp))
              · obtain ⟨ov, g1, a, g2, _, g4⟩ := sr.slot i _ w1
                rw [w2] at g1; cases g1; cases g2
                obtain ⟨o, ho⟩ := g4.some
                rw [z] at ho; cases ho
            · rcases arg_owner rl ha z1 z2 with ⟨_, _, _, w, _, _, w2⟩ | ⟨i, m0, _, _, _, w | w⟩
              · exact ⟨w, w2⟩
              · cases w.2
              · exact absurd rfl w.2
          refine ⟨q, rfl, new.1, nF, cr, fun ⟨i, c', m', w1, w2⟩ => new.2 ?_⟩
          rcases putBack_get (ρ := ρ) (i := i) (xs := xs) (ss := as') hl with ⟨h1, _⟩ | ⟨j, c1, m1, c2, m2, h1, h2, h3, h4⟩
          · rw [h1] at w1; exact ⟨i, c', m', w1, w2⟩
          · exact ⟨i, c1, m1, h2, w2⟩
    · exact h.elim
theorem run_gfn {pins : List (Addr × Obj)} {σ : L2.St} {H : Hp} {s : Shared} {Q : VK} {args : Args} {us : List Value} {vs : List V} {E : XK} (G : GFnG Γ X.prog X.w X.K X.mg X.base k f fd ps Fm) (hr : Room k X.A) (hG : Γ X.A) (tk : Takes X W) (hW : ∀ cls d H, E cls d H → W cls d σ H) (I : Inv X pins σ H s) (hb : BindsTo s fd args (ps.zip us)) (r : Vals vs us) (h : spD X.K X.mg ps.length Fm vs H Q E) :
    codeAny (model X.prog X.w) X.A (.call (.ref f) args) (fun r s' => match r with | .ok (.ret u) => EP X pins σ Q u s' | .ok _ => False | .error e => X.xe e s') s := by
  refine codeAny_mono (G.run X.A X.stack s H args us vs Q E hr hG I.env0 hb r h) fun r s' hq => ?_
  cases r with
  | error e => exact tk e s' (XE.of_call I (fun cls d H' h => hW cls d H' h) hq)
  | ok fl =>
    cases fl with
    | ret u => exact I.after hq
    | next => exact hq
    | brk => exact hq
    | cont => exact hq
/-- f(e, ..), every parameter given by its place -/
theorem de_call (G : GFnG Γ X.prog X.w X.K X.mg X.base k f fd ps Fm) (hr : Room k X.A) (hG : Γ X.A) (tk : Takes X W) (hg : Gl X x) (hm : X.mg x = some (.ref f)) (hk : PySem.W.keepIn X.K (.ref f) = true) (hb : Binds X.K fd ps []) (ha : DA X W (e :: es) g) (hn : ∀ ρ xs ρ', g ρ = .ok xs ρ' → xs.length = ps.length)
    (hdb : (x == ("__debug__" : Str)) = false := by decide) (he : starEach (e :: es) X.env = (false, eval e X.env) :: starEach es X.env := by rfl) (hpl : (backTo pos (starEach es X.env)).any (·.1) = false := by rfl) : DE X W (.Call (.Name x p) (e :: es) [] pos) (eCall Fm g) := by
  refine ⟨fun pins s σ H Q I hq => ?_⟩
  obtain ⟨F, ρ, sr, q⟩ := hq
  refine wpAny_Call_Name_kw (ld_glob I hg hm (PySem.W.callWith_K (h₀ := X.base) I.ok.mod.kin hk (thn (ha.run pos pins s σ H _ I ⟨F, ρ, sr, Out.bind (rel := relL X.K σ) q⟩) fun us s1 ⟨vs, H1, I1, r, xs, F1, ρ1, e1, s2, ev1, r1, o1⟩ => ⟨I1.kIn, wpAny_call ?_⟩) he hpl) hdb)
  have hl : xs.length = ps.length := hn _ _ _ e1
  have hu : us.length = ps.length := by rw [← r.length, r1.all.length, hl]
  have hb' : BindsTo s1 fd ⟨us, []⟩ (ps.zip us) := by
    have := hb s1 us I1.kIn (by rw [List.append_nil]; exact hu)
    rw [List.append_nil] at this
    exact this
  exact run_gfn G hr hG tk (fun _ _ _ h => h) I1 hb' r (call_ok s2 ev1 r1 hl o1)
/-! ### keywords -/
/-- the values by the parameters' places -/
def selL {α : Type} (idx : List Nat) (xs : List α) : Option (List α) := match idx with
  | [] => some []
  | i :: is => match xs[i]?, selL is xs with
    | some x, some ys => some (x :: ys)
    | _, _ => none
theorem paired_app {α β : Type} {G : α → β → Prop} : ∀ {l l' : List α} {m m' : List β}, Paired G l m → Paired G l' m' → Paired G (l ++ l') (m ++ m')
  | _, _, _, _, .nil, q => q
  | _, _, _, _, .cons a b, q => .cons a (paired_app b q)
def eCallK (idx : List Nat) (Fm : FM) (g gk : M (List Val)) : EM := fun ρ => (g ρ).bind fun xs ρ1 => (gk ρ1).bind fun ys ρ2 => match selL idx (xs ++ ys) with
  | some zs => callF Fm zs ρ2
  | none => .bad
end
end DL
/-! DL14: the law's end. -/
namespace DL
open PySem PySem.Spec PyProof.Rows L2
variable [TabT]
section
variable {P : Program} {w : World} {K : PySem.W.Frag} {mg mb : Str → Option Value} {k : Nat} {fa a : Addr} {fd : FuncData} {x : Str} {Fm : FM} {s1 : Shared} {vs : List Value} {ns : List Int}
/-- from an abstract heap in which the script alone may be tracked -/
theorem law_core {H : Hp} (hT0 : TabT.T = []) (hB0 : TabT.FB = fun _ => none) (KX : K.In s1.heap) (hns : s1.heap.Ns mainGlobals mg) (hb : s1.heap.Ns builtinsNs mb) (hbb : ∀ x : Str, x ≠ "__name__" → mb x = bootBuiltins x) (hlim : s1.heap.NoLimit) (hg : s1.gens = #[])
    (ha : s1.heap.get? a = some { cls := .type "list", data := .seq vs.toArray }) (hr : Room k callerA) (G : ∀ base : Heap, K.In base → base.Ns mainGlobals mg → GFn P w K mg base k fa fd [x] Fm) (hbind : ∀ (s : Shared) (u : Value), BindsTo s fd ⟨[u], []⟩ [(x, u)])
    (hS : SqL K H a (ns.map V.int)) (hok : HOk P w H s1.heap) (hA : ∀ b, H b ≠ none → b = a) (hfz : ∀ b u, H b = some u → ∃ ob xs, u = .frz ob (.lst xs)) (hK : H a ≠ none → K.lookup a = none) (sem : ∃ as', Fm [.d (.scr ns)] = .ret (.d (.bl true)) as') :
    codeAny (model P w) callerA (.call (.ref fa) ⟨[.ref a], []⟩) (fun r s' => r = .ok (.ret (.bool true)) ∧ OldK s1.heap s'.heap ∧ s'.os = s1.os ∧ AllBare s'.gens) s1 := by
  -- what is no list is not tracked
  have free : ∀ {b : Addr} {o : Obj}, s1.heap.get? b = some o → (b = a → False) → H b = none := fun {b o} e n => by
    cases q : H b with
    | none => rfl
    | some u => exact (n (hA b (by rw [q]; simp))).elim
  have dictNe : ∀ {b : Addr} {m : Str → Option Value}, s1.heap.Ns b m → b = a → False := fun {b m} ⟨o, es, ep, e, d, _⟩ z => by
    rw [z, ha] at e
    cases e
    cases d
  have nsT : ∀ {b : Addr} {m : Str → Option Value}, s1.heap.Ns b m → (hidT s1.heap H).Ns b m := fun {b m} h => by
    obtain ⟨o, es, ep, e, r⟩ := id h
    exact ⟨o, es, ep, hidT_get e (free e (dictNe h)), r⟩
  have kT : K.In (hidT s1.heap H) := fun b o e => hidT_get (KX b o e) (by
    cases q : H b with
    | none => rfl
    | some u =>
      have z := hA b (by rw [q]; simp)
      subst z
      rw [hK (by rw [q]; simp)] at e
      cases e)
  obtain ⟨mc, h1, h2⟩ := hlim
  have M : Mod K mg (hidT s1.heap H) := ⟨kT, nsT hns, ⟨mb, nsT hb, hbb⟩, ⟨mc, nsT h1, h2⟩⟩
  have E0 : Env0 P w K mg (hidT s1.heap H) callerA [] s1 H := ⟨rfl, M, fun b o e => of_hidT e, Nat.le_of_eq (hidT_size _ _), trivial, (fun b z => nomatch (show b ∈ ([] : List Addr) from z)), hok, .of_eq hg⟩
  have sp : spD K mg 1 Fm [.ref a] H (fun v _ => v = .bl true) (fun _ _ _ => False) := by
    obtain ⟨as', e⟩ := sem
    refine ⟨H, [.d (.scr ns)], ⟨rfl, .refl _, fun i s q => ?_, fun i j c m c' m' b q => ?_, ⟨fun p hp => (by rw [hT0] at hp; cases hp), fun p hp => (by rw [hT0] at hp; cases hp), fun a o e => (by rw [hB0] at e; cases e)⟩⟩, rfl, ?_⟩
    · cases i with
      | zero => cases q; exact ⟨some (.ref a), rfl, .ref a, rfl, .scr hS⟩
      | succ i => simp at q
    · cases i with
      | zero => cases q
      | succ i => simp at q
    · rw [e]
      intro v F' H' _ _ r
      have r : Rep K F' v (.bl true) := r
      cases r
      rfl
  refine codeAny_mono ((G _ kT (nsT hns)).run callerA [] s1 H ⟨[.ref a], []⟩ [.ref a] [.ref a] _ _ hr rfl E0 (hbind s1 (.ref a)) (.cons rfl .nil) sp) fun r s' h => ?_
  cases r with
  | error e =>
    obtain ⟨_, _, _, _, _, _, _, _, _, _, _, _, z⟩ := h
    exact z.elim
  | ok fl =>
    cases fl with
    | next => exact h.elim
    | brk => exact h.elim
    | cont => exact h.elim
    | ret u =>
      obtain ⟨v, H', os, bare, un, hok', rv, q⟩ := h
      have q : v = .bl true := q
      subst q
      have rv : u = Value.bool true := rv
      subst rv
      refine ⟨rfl, OldK.of_keep fun b o e => ?_, os, bare⟩
      cases q : H b with
      | none => exact un.keep b o e q (by exact fun z => nomatch (show b ∈ ([] : List Addr) from z)) (by simp)
      | some u =>
        obtain ⟨ob, xs, rfl⟩ := hfz b u q
        obtain ⟨e1, _⟩ := hok b _ q
        obtain ⟨e2, _⟩ := hok' b _ (un.frzs b ob _ q)
        rw [e] at e1; cases e1
        exact e2
theorem law_end (hT0 : TabT.T = []) (hB0 : TabT.FB = fun _ => none) (KX : K.In s1.heap) (hns : s1.heap.Ns mainGlobals mg) (hb : s1.heap.Ns builtinsNs mb) (hbb : ∀ x : Str, x ≠ "__name__" → mb x = bootBuiltins x) (hlim : s1.heap.NoLimit) (hg : s1.gens = #[])
    (ha : s1.heap.get? a = some { cls := .type "list", data := .seq vs.toArray }) (hi : IntsAre vs ns) (hl : ns.length ≤ sizeLine) (hr : Room k callerA) (G : ∀ base : Heap, K.In base → base.Ns mainGlobals mg → GFn P w K mg base k fa fd [x] Fm) (hbind : ∀ (s : Shared) (u : Value), BindsTo s fd ⟨[u], []⟩ [(x, u)])
    (sem : ∃ as', Fm [.d (.scr ns)] = .ret (.d (.bl true)) as') :
    codeAny (model P w) callerA (.call (.ref fa) ⟨[.ref a], []⟩) (fun r s' => r = .ok (.ret (.bool true)) ∧ OldK s1.heap s'.heap ∧ s'.os = s1.os ∧ AllBare s'.gens) s1 := by
  have rv := vals_ints hi
  have lenV := hi.length
  cases hk : K.lookup a with
  | some o =>
    have e := KX a o hk
    rw [ha] at e
    cases e
    exact law_core (H := fun _ => none) hT0 hB0 KX hns hb hbb hlim hg ha hr G hbind (.inr ⟨_, vs.toArray, _, hk, rfl, rfl, rfl, by rw [List.size_toArray, lenV]; exact hl, by simpa using rv⟩) (fun b u z => nomatch (show (none : Option HO) = some u from z)) (fun b z => absurd rfl z) (fun b u z => nomatch (show (none : Option HO) = some u from z)) (fun z => absurd rfl z) sem
  | none =>
    let T : HO := .frz { cls := .type "list", data := .seq vs.toArray } (.lst (ns.map V.int))
    have at_a : (fun b => if b = a then some T else none : Hp) a = some T := if_pos rfl
    have only : ∀ b u, (fun b => if b = a then some T else none : Hp) b = some u → b = a ∧ u = T := fun b u z => by
      by_cases hb : b = a
      · exact ⟨hb, by subst hb; rw [at_a] at z; cases z; rfl⟩
      · have z' : (none : Option HO) = some u := (if_neg hb).symm.trans z
        cases z'
    refine law_core (H := fun b => if b = a then some T else none) hT0 hB0 KX hns hb hbb hlim hg ha hr G hbind (.inl (.inr ⟨_, at_a⟩)) (fun b u z => ?_) (fun b z => ?_) (fun b u z => ⟨_, _, (only b u z).2⟩) (fun _ => hk) sem
    · obtain ⟨rfl, rfl⟩ := only b u z
      exact ⟨ha, by rw [List.length_map]; exact hl, vs, _, rv, ha⟩
    · by_cases hb : b = a
      · exact hb
      · exact absurd (if_neg hb) z
end
/-- the goal that k_head leaves, from the law's promise -/
theorem walk_gfn {l : PySem.W.OpenLaw} {n k : Nat} {q : Program} {loose : List Str} {XP : (Str → Option Value) → Heap → Prop} {YP : World → Heap → Prop} {d : DefRec} {K : Params → PySem.W.Frag} {x : Str} {Fm : FM} (hT0 : TabT.T = []) (hB0 : TabT.FB = fun _ => none) (hn : l.most = some n) (hn2 : n ≤ sizeLine) (hdf : d.params.defaults = []) (hr : Room k callerA)
    (hY : ∀ (w : World) (h : Heap), YP w h → (K w.params).In h)
    (G : ∀ (w : World) (mg : Str → Option Value) (fa : Addr) (h : Heap), (K w.params).In h → h.Ns mainGlobals mg → mg d.name = some (.ref fa) → ∃ fd : FuncData, (∀ (s : Shared) (u : Value), BindsTo s fd ⟨[u], []⟩ [(x, u)]) ∧ ∀ base : Heap, (K w.params).In base → base.Ns mainGlobals mg → GFn l.prog w (K w.params) mg base k fa fd [x] Fm)
    (sem : ∀ ns : List Int, ns.length ≤ n → ∃ as', Fm [.d (.scr ns)] = .ret (.d (.bl true)) as') :
    PySem.W.WalkO q loose XP YP l.row.toRowW d [] (fun f vs => PySem.call f vs) := by
  refine Att.attach_call hn hdf fun w s0 s1 mg mb fa o pm cd doc a vs ns Gr Y ho hd hcd hmg hobj hints hlen hg => ?_
  obtain ⟨fd, hb, hF⟩ := G w mg fa _ (hY w _ Y) Gr.T.g hmg
  exact law_end hT0 hB0 (hY w _ Y) Gr.T.g Gr.T.b Gr.T.builtins Gr.T.nolimit hg hobj hints (Nat.le_trans hlen hn2) hr hF hb (sem ns hlen)
end DL
/-! DL15: repr of data, sorted(set(..)), len(set(..)), list(range(..)). -/
namespace DL
open PySem PySem.Spec PyProof.Rows L2
abbrev nuS (w : World) : Obj := { cls := .type "set", dict := none, data := .set #[] 0 (.fresh 0 0 (!w.params.followText "set-order")) }
section
variable {P : Program} {w : World} {A : Around} {E : Value → Shared → Prop} {s : Shared}
set_option maxHeartbeats 3200000 in
theorem call_set_listI {l : Addr} {items : Array Value} (ns : List Int) {Q : Value → Shared → Prop} (hh : A.handled = none) (hl : s.heap.IsList l items) (hit : IntsAre items.toList ns) (hb : ns.length + 1 < scanBound)
    (h : ∀ (h' : Heap) (tk c : Nat), SetR w h' s.heap.objs.size (fun j => decide (j ∈ ns)) c → c ≤ ns.length → (∀ b o, s.heap.get? b = some o → h'.get? b = some o) → Q (.ref s.heap.objs.size) { s with heap := h', toks := tk }) :
    wpAny (model P w) A (call (.type "set") [.ref l]) Q E s := by
  have zz : items.size = ns.length := by
    have q := IntsAre.length hit
    rw [Array.length_toList] at q
    exact q
  obtain ⟨c, tl, mr⟩ := F.called_set.mro
  have md := F.called_set.made
  have sb := F.called_set.sub
  refine wpAny_call (codeAny_of_tree ?_)
  show wpAny _ _ (callAny (.type "set") _) _ _ _
  refine wpAny_pure ⟨Code.quiet_builtin _ (by decide +kernel), codeAny_builtin F.entry_type_call ?_⟩
  rw [Around.under_plain (weight_type_call_type "set" [.ref l] []) rfl]
  have p1 := F.called_set.notType
  have p2 := F.called_set.canCreate
  have p3 := F.typeCall_set_1 (.ref l)
  repeat (any_goals (first | assumption | wp_step))

  refine codeAny_mono (code_set_led1 (.ref l) (E := E) (Q₁ := fun obj s₁ => obj = .ref s.heap.objs.size ∧ s₁ = { s with heap := s.heap.push (nuS w) }) ⟨rfl, rfl⟩) fun r s₁ hr => ?_
  cases r with
  | error e => exact hr
  | ok fl =>
    cases fl with
    | ret obj =>
      obtain ⟨rfl, rfl⟩ := hr
      have oS : (s.heap.push (nuS w)).get? s.heap.objs.size = some (nuS w) := Heap.get?_push_size _ rfl
      have tS0 : Shared.TypeIs { s with heap := s.heap.push (nuS w) } (.ref s.heap.objs.size) "set" := ⟨_, oS, rfl⟩
      have li0 := F.called_set.init.lookup
      have bi0 := F.called_set.init.bind (.ref s.heap.objs.size)
      repeat (any_goals (first | assumption | wp_step))

      refine codeAny_mono (codeAny_call_builtin (R := wants (fun r s₂ => r = .none ∧ ∃ h' tk c, s₂ = { s with heap := h', toks := tk } ∧ SetR w h' s.heap.objs.size (fun j => decide (j ∈ ns)) c ∧ c ≤ ns.length ∧
          (∀ b o, s.heap.get? b = some o → h'.get? b = some o)) E) F.called_set.init.plain F.entry_set_init (check_set_init_1 tS0 ?_)) fun r₂ s₂ hr₂ => ?_
      · obtain ⟨ol, ol1, cl1, nl, dl1⟩ := hl
        obtain ⟨ocls, odict, odata, oslots⟩ := ol
        simp only at cl1 dl1
        subst cl1; subst dl1
        have hol' : (s.heap.push (nuS w)).get? l = some { cls := .type "list", dict := odict, data := .seq items nl, slots := oslots } := Heap.get?_push_of_some _ ol1
        have f1 := F.sub_list_set
        have f2 := F.sub_list_frozenset
        have nd1 : (Value.type "list" == Value.type "dict") = false := by decide
        have L1 : (s.heap.push (nuS w)).IsList l items := ⟨_, hol', rfl, nl, rfl⟩
        unfold Builtin.«set.__init__» noKeywords Builtin.Frozenset.updateFrom
        generalize hpit : pyIter = pit
        wp_walk
        subst hpit

        refine wpAny_pyIter_list L1 ?_
        refine wpAny_bind (wpAny_runValue ?_)
        have lS0 : l < s.heap.objs.size := Heap.lt_size ol1
        have q3 : A.in1.in1.in1.handled = none := by simp [hh]
        have z1 : (s.heap.push (nuS w)).objs.size = s.heap.objs.size + 1 := Heap.size_push ..
        have nI : l ≠ (s.heap.push (nuS w)).objs.size := by
          rw [Heap.size_push]; exact Nat.ne_of_lt (Nat.lt_succ_of_lt lS0)
        have nf : s.heap.objs.size ∉ [(s.heap.push (nuS w)).objs.size, l] := by
          rw [Heap.size_push]; simp only [List.mem_cons, List.mem_singleton, List.not_mem_nil, or_false, not_or]
          exact ⟨Nat.ne_of_lt (Nat.lt_succ_self _), Nat.ne_of_gt lS0⟩
        have va : ∀ (i : Nat) (v : Value), items[i]? = some v → ∃ k t, ns[i]? = some k ∧ v = .int k t := fun i v hv => by
          have hi : i < ns.length := by rw [← zz]; exact (Array.getElem?_eq_some_iff.mp hv).1
          obtain ⟨t, e⟩ := PyProof.Rows.IntsAre.int_at hit i v (by rw [Array.getElem?_toList]; exact hv)
          refine ⟨ns[i], t, List.getElem?_eq_getElem hi, ?_⟩
          rw [e, List.getD_eq_getElem?_getD, List.getElem?_eq_getElem hi] <;> rfl
        refine set_update_ints ((Walks.list q3 _ l nI items).toS) s.heap.objs.size
          nf ns zz hb va (items.size - 0) 0 _ (by omega) (Nat.zero_le _)
          ⟨⟨_, Heap.get?_push_size _ rfl, rfl, rfl⟩, (L1.push _)⟩ ?hS0 ?hR
        case hS0 =>
          have gt0 : ((s.heap.push (nuS w)).push { cls := .type "list_iterator", data := .fields #[.ref l, .int 0 0] }).get? s.heap.objs.size
              = some (nuS w) := Heap.get?_push_of_some _ oS
          exact ⟨0, Nat.le_refl 0, setR_new_at gt0⟩
        case hR =>
          intro s' c' mv cc1 ss1
          obtain ⟨h', g2, d', tk', os'⟩ := s'
          have eg : g2 = s.gens := mv.gens
          have ed : d' = s.drawn := mv.drawn
          have eo : os' = s.os := mv.os
          subst eg; subst ed; subst eo
          show wpAny _ _ _ _ _ _
          refine wpAny_pure ?_
          show wpAny _ _ (ret Value.none) _ _ _
          rw [zz] at cc1
          refine wpAny_pure ⟨rfl, h', tk', c', rfl, ss1, cc1, fun b o e => ?_⟩
          have b0 : b < s.heap.objs.size := Heap.lt_size e
          have b1 : b ≠ s.heap.objs.size := Nat.ne_of_lt b0
          have b2 : b ≠ (s.heap.push (nuS w)).objs.size := by
            rw [Heap.size_push]; exact Nat.ne_of_lt (Nat.lt_succ_of_lt b0)
          exact mv.heap b o (by simp only [List.mem_cons, List.mem_singleton, List.not_mem_nil, or_false, not_or]; exact ⟨b1, b2⟩) (Heap.get?_push_of_some _ (Heap.get?_push_of_some _ e))

      · cases r₂ with
        | error e => exact hr₂
        | ok fl₂ =>
          cases fl₂ with
          | ret r =>
            obtain ⟨rfl, h', tk, c', rfl, ss1, cc1, hk'⟩ := hr₂
            repeat (any_goals (first | assumption | wp_step))
            exact h _ _ _ ss1 cc1 hk'
          | _ => exact hr₂.elim
    | _ => exact hr.elim
end
end DL
/-! DL16: repr of data, sorted(set(..)), len(set(..)), list(range(..)), names of rules. -/
namespace DL
open PySem PySem.Spec PyProof.Rows L2
variable [TabT]
theorem hu1_of {k : Nat} {A : Around} (r : Room k A) : A.units + 1 < cLine := by have := r.un; omega
section
variable {X : Cx}
theorem CR_len : CallR X (.builtin "len") (fun xs H Q => (∃ p ys, xs = [.ref p] ∧ (SqL X.K H p ys ∨ SqT X.K H p ys) ∧ Q (.int ys.length) H) ∨ ∃ x n, xs = [x] ∧ LenV X.K x H n ∧ Q (.int n) H) := callr_or call_len_seq call_len
theorem CR_max (hc : X.calm = true := by rfl) : CallR X (.builtin "max") (fun xs H Q => (∃ i j, xs = [.int i, .int j] ∧ Q (.int (if j > i then j else i)) H) ∨ rMax X.K xs H Q) := callr_or (call_max2 hc) (cr_max hc)
theorem CR_min (hc : X.calm = true := by rfl) : CallR X (.builtin "min") (fun xs H Q => (∃ i j, xs = [.int i, .int j] ∧ Q (.int (if j < i then j else i)) H) ∨ rMin X.K xs H Q) := callr_or (call_min2 hc) (cr_min hc)
end
/-! ### repr -/
def reprD1 (a : D) : Option Val := match a.toPy with
  | some p => if p.showable = true ∧ p.hasDict = false ∧ p.depth ≤ 60 ∧ p.shown.length ≤ sizeLine then some (.d (.str p.shown)) else none
  | none => none
def reprD : List D → Option Val
  | [.tup xs] => reprD1 (.tup xs)
  | [.lst xs] => reprD1 (.lst xs)
  | [.int i] => if i.natAbs.log2 < 1920 then some (.d (.str (toString i))) else none
  | _ => none
def rReprD (K : PySem.W.Frag) : List V → Hp → VK → Prop := fun xs H Q => ∃ a p, xs = [.ref a] ∧ Dp K H (.ref a) p ∧ p.showable = true ∧ p.hasDict = false ∧ p.depth ≤ 60 ∧ p.shown.length ≤ sizeLine ∧ Q (.str p.shown) H
section
variable {X : Cx}
theorem call_repr_data (hG : X.A.guards = some []) (hu : X.A.units + 64 < cLine) : CallR X (.builtin "repr") (rReprD X.K) := by
  intro pins s σ H xs us Q I r h
  obtain ⟨a, p, rfl, dp, h1, h2, h3, h4, q⟩ := h
  rw [Vals.ref1 r]
  obtain ⟨as, rd⟩ := Dp.reads I p _ _ dp rfl
  exact PySem.repr_of_reads' rd h1 (fun e => by rw [h2] at e; cases e) hG (by omega) (fun _ _ e => e) (fun h' u tk k => ⟨.str p.shown, H, I.kept k, ⟨u, rfl⟩, q⟩) h4
theorem CR_repr (hG : X.A.guards = some []) (hu : X.A.units + 64 < cLine) : CallR X (.builtin "repr") (fun xs H Q => rReprD X.K xs H Q ∨ ∃ i, xs = [.int i] ∧ i.natAbs.log2 < 1920 ∧ Q (.str (toString i)) H) := callr_or (call_repr_data hG hu) SkE.call_repr_int
end
section
variable {K : PySem.W.Frag}
theorem reprD1_ok {F H : Hp} {v : V} {a : D} {z : Val} {Q : VK} (s : Same F H) (r : RepT K F H v a) (hv : ∃ p, v = .ref p) (e : reprD1 a = some z) (q : ∀ u F' H', Gr F H F' H' → VN K H F' H' u z → Q u H') : rReprD K [v] H Q := by
  unfold reprD1 at e
  split at e
  · rename_i p hp
    split at e
    · rename_i c
      cases e
      obtain ⟨a, rfl⟩ := hv
      exact ⟨a, p, rfl, (r.rep (toPy_nd hp) s).dp hp, c.1, c.2.1, c.2.2.1, c.2.2.2, vn_str s q⟩
    · cases e
  · cases e
theorem cs_repr : CallS K (fun xs H Q => rReprD K xs H Q ∨ ∃ i, xs = [.int i] ∧ i.natAbs.log2 < 1920 ∧ Q (.str (toString i)) H) reprD := by
  intro F H vs as z Q s ra e q
  unfold reprD at e
  split at e
  · obtain ⟨v, rfl, r⟩ := rep1 ra
    obtain ⟨p, xs, rfl, _⟩ := r.tup s
    exact .inl (reprD1_ok s r ⟨p, rfl⟩ e q)
  · obtain ⟨v, rfl, r⟩ := rep1 ra
    obtain ⟨p, xs, rfl, _⟩ := r.lst
    exact .inl (reprD1_ok s r ⟨p, rfl⟩ e q)
  · obtain ⟨v, rfl, r⟩ := rep1 ra
    obtain rfl := r.int
    split at e
    · rename_i h
      cases e
      exact .inr ⟨_, rfl, h, vn_str s q⟩
    · cases e
  · cases e
end
/-! ### sorted(set(..)) -/
/-- the ints, ascending, each once -/
def insI (k : Int) : List Int → List Int
  | [] => [k]
  | x :: xs => if k < x then k :: x :: xs else if k = x then x :: xs else x :: insI k xs
def sortSetI : List Int → List Int
  | [] => []
  | k :: ks => insI k (sortSetI ks)
theorem mem_insI {k y : Int} : ∀ {xs : List Int}, y ∈ insI k xs ↔ y = k ∨ y ∈ xs
  | [] => by simp [insI]
  | x :: xs => by
    unfold insI
    split
    · simp
    · split
      · rename_i h; subst h; simp
      · rw [List.mem_cons, mem_insI, List.mem_cons]
        constructor
        · rintro (h | h | h)
          · exact .inr (.inl h)
          · exact .inl h
          · exact .inr (.inr h)
        · rintro (h | h | h)
          · exact .inr (.inl h)
          · exact .inl h
          · exact .inr (.inr h)
theorem mem_sortSetI {y : Int} : ∀ {xs : List Int}, y ∈ sortSetI xs ↔ y ∈ xs
  | [] => by simp [sortSetI]
  | x :: xs => by unfold sortSetI; rw [mem_insI, mem_sortSetI, List.mem_cons]
theorem insI_pw {k : Int} : ∀ {xs : List Int}, xs.Pairwise (· < ·) → (insI k xs).Pairwise (· < ·)
  | [], _ => List.pairwise_singleton _ _
  | x :: xs, h => by
    obtain ⟨h1, h2⟩ := List.pairwise_cons.mp h
    unfold insI
    split
    · rename_i hk
      refine List.pairwise_cons.mpr ⟨fun y hy => ?_, h⟩
      rcases List.mem_cons.mp hy with rfl | z
      · exact hk
      · have := h1 y z; omega
    · split
      · exact h
      · refine List.pairwise_cons.mpr ⟨fun y hy => ?_, insI_pw h2⟩
        rcases mem_insI.mp hy with rfl | z
        · omega
        · exact h1 y z
theorem sortSetI_pw : ∀ (xs : List Int), (sortSetI xs).Pairwise (· < ·)
  | [] => .nil
  | x :: xs => insI_pw (sortSetI_pw xs)
def rSetL (K : PySem.W.Frag) (w : World) : List V → Hp → VK → Prop := fun xs H Q => ∃ (l : Addr) (ns : List Int), xs = [.ref l] ∧ SqL K H l (ns.map V.int) ∧ ns.length + 1 < scanBound ∧ ∀ p c, H p = none → Q (.ref p) (upd H p (SetO w p (fun j => decide (j ∈ ns)) c))
section
variable {X : Cx}
theorem cr_setL (hc : X.calm = true) : CallR X (.type "set") (rSetL X.K X.w) := by
  intro pins s σ H vs us Q I r h
  obtain ⟨l, ns, rfl, hs, hb, q⟩ := h
  rw [Vals.ref1 r]
  obtain ⟨its, rv, pl, hz⟩ := I.list hs
  refine call_set_listI ns (I.ok.hd hc) pl.isList (by simpa using rv.ints) hb fun h' tk c R hle k => ?_
  have new : H s.heap.objs.size = none := I.hok.fresh (Nat.le_refl _)
  exact ⟨.ref s.heap.objs.size, _, I.laid (o := SetO X.w s.heap.objs.size (fun j => decide (j ∈ ns)) c) k (Nat.le_refl _) (setO_new R), rfl, q _ c new⟩
variable {E : WX} {a : Expr} {f : EM} {pos p p2 q : Pos}
def setI (x : D) : Option (List Int) := match x with
  | .lst ds => match intsD ds with
    | some ns => if ns.length < 4000 then some ns else none
    | none => none
  | _ => none
def eSortSet (f : EM) : EM := eUn (fun x => (setI x).map fun ns => .fr (.lst ((sortSetI ns).map D.int))) f
theorem setI_ok {K : PySem.W.Frag} {F H : Hp} {v : V} {x : D} {ns : List Int} (e : setI x = some ns) (r : RepT K F H v x) : ∃ l, v = .ref l ∧ SqL K H l (ns.map V.int) ∧ ns.length + 1 < scanBound := by
  unfold setI at e
  split at e
  · split at e
    · rename_i ms h
      split at e
      · rename_i hl
        cases e
        obtain ⟨l, xs, rfl, hx, rl⟩ := r.lst
        rw [intsD_ok h] at rl
        rw [rl.intsV] at hx
        exact ⟨l, rfl, .inl (.inl hx), by unfold scanBound; omega⟩
      · cases e
    · cases e
  · cases e
/-! ### len(set(..)) -/
def rLenN (w : World) : List V → Hp → VK → Prop := fun vs H Q => ∃ (a : Addr) (S : Int → Bool) (n : Nat), vs = [V.ref a] ∧ H a = some (SetO w a S n) ∧ ∀ (ks : List Int), ks.Nodup → (∀ k, k ∈ ks ↔ S k = true) → Q (.int (ks.length : Nat)) H
theorem cr_lenN : CallR X (.builtin "len") (rLenN X.w) := by
  intro pins s σ H vs us Q I r h
  obtain ⟨a, S, n, rfl, ha, q⟩ := h
  obtain ⟨o, es, ep, t, ho, hex, hd, g, nd, hm, hb, hf, hn, hr, hl⟩ := setO_get I ha
  rw [Vals.ref1 r]
  refine call_len_set ho hex hd hf (by unfold scanBound at hb; omega) (show EP X pins σ Q (.int es.size _) _ from ⟨.int ((es.toList.map keyOf).length : Nat), H, I.tok (s.toks + 1 + 1), ⟨s.toks + 1, by rw [List.length_map, Array.length_toList]⟩, q _ nd fun k => (hm k).symm⟩)
def eLenSet (f : EM) : EM := eUn (fun x => (setI x).map fun ns => .d (.int ((sortSetI ns).length : Nat))) f
theorem us_lenSet {K : PySem.W.Frag} {w : World} : UnS K (fun v H Q => rSetL K w [v] H fun u H' => rLenN w [u] H' Q) (fun x => (setI x).map fun ns => .d (.int ((sortSetI ns).length : Nat))) := by
  intro F H v a z Q s r e q
  dsimp only at e
  cases h : setI a with
  | none => rw [h] at e; cases e
  | some ns =>
    rw [h] at e; cases e
    obtain ⟨l, rfl, hs, hb⟩ := setI_ok h r
    refine ⟨l, ns, rfl, hs, hb, fun p c hp => ⟨p, _, c, rfl, upd_same, fun ks nd hm => ?_⟩⟩
    have hn : (sortSetI ns).Nodup := (sortSetI_pw ns).imp fun {a b} h e => by omega
    have pm : ks.Perm (sortSetI ns) := (List.perm_ext_iff_of_nodup nd hn).mpr fun k => by rw [hm k, mem_sortSetI]; exact decide_eq_true_iff
    rw [pm.length_eq]
    exact q _ F _ (Gr.fresh s hp) (.int _)
theorem de_lenSet (hc : X.calm = true) (hg : Gl X "len") (hm : X.mg "len" = none) (hg2 : Gl X "set") (hm2 : X.mg "set" = none) (ha : DE X E a f) (hsa : starEach [a] X.env = (false, eval a X.env) :: starEach [] X.env := by rfl) : DE X E (.Call (.Name "len" p) [.Call (.Name "set" p2) [a] [] q] [] pos) (eLenSet f) :=
  pe_conseq (pe_callB cr_lenN hg hm PySem.boot_len (pa_cons (pe_callTy (cr_setL hc) hg2 hm2 PyProof.Rows.boot_set (pa_cons ha pa_nil hsa) (he := hsa)) pa_nil (by rfl)) (he := by rfl)) fun _ _ _ => one1 us_lenSet
/-! ### list(range(..)), tuple(range(..)) -/
def rgL (i j : Int) : List D := (List.range (j - i).toNat).map fun k => D.int (i + (k : Nat))
def rgIn (i j : Int) : Bool := decide (-1000000000000000000 ≤ i ∧ i ≤ 1000000000000000000 ∧ -1000000000000000000 ≤ j ∧ j ≤ 1000000000000000000 ∧ (j - i).toNat ≤ 10000000)
theorem rgIn_ok {i j : Int} (h : rgIn i j = true) : RgOk i j := by
  have h := of_decide_eq_true h
  unfold RgOk
  refine ⟨?_, ?_, ?_, ?_, ?_⟩
  · have : (-(2 ^ 62) : Int) ≤ -1000000000000000000 := by decide
    omega
  · have : (1000000000000000000 : Int) < 2 ^ 62 := by decide
    omega
  · have : (-(2 ^ 62) : Int) ≤ -1000000000000000000 := by decide
    omega
  · have : (1000000000000000000 : Int) < 2 ^ 62 := by decide
    omega
  · have : 10000000 ≤ 2 ^ 24 := by decide
    omega
theorem rg_rep {K : PySem.W.Frag} {F : Hp} {i j : Int} : RepL K F (rgV i j) (rgL i j) := by
  unfold rgV rgL
  generalize List.range (j - i).toNat = l
  induction l with
  | nil => exact .nil
  | cons x l ih => exact .cons (.int _) ih
def lrgD : D → D → Option Val
  | .int i, .int j => if rgIn i j = true then some (.fr (.lst (rgL i j))) else none
  | _, _ => none
def trgD : D → D → Option Val
  | .int i, .int j => if rgIn i j = true then some (.d (.tup (rgL i j))) else none
  | _, _ => none
def rLrg (i j : Int) : Hp → VK → Prop := fun H Q => RgOk i j ∧ ∀ q, H q = none → Q (.ref q) (upd H q (.lst (rgV i j)))
theorem os_lrg {K : PySem.W.Frag} : OpS K (fun x y H Q => ∃ i j, x = .int i ∧ y = .int j ∧ rLrg i j H Q) lrgD := by
  intro F H v w a b z Q s ra rb e q
  unfold lrgD at e
  split at e
  · split at e
    · rename_i h
      cases e
      obtain rfl := ra.int; obtain rfl := rb.int
      exact ⟨_, _, rfl, rfl, rgIn_ok h, fun p n => vn_lst s q rg_rep n⟩
    · cases e
  · cases e
variable {b : Expr} {g : EM}
theorem de_lrg2 (hc : X.calm = true) (hg : Gl X "list") (hm : X.mg "list" = none) (hg2 : Gl X "range") (hm2 : X.mg "range" = none) (ha : DE X E a f) (hb : DE X E b g) (hsa : starEach [a, b] X.env = (false, eval a X.env) :: starEach [b] X.env := by rfl) (hsb : starEach [b] X.env = (false, eval b X.env) :: starEach [] X.env := by rfl) : DE X E (.Call (.Name "list" p) [.Call (.Name "range" p2) [a, b] [] q] [] pos) (eOp lrgD f g) :=
  pe_conseq (pe_listRg hc hg hm (prg_2 hg2 hm2 ha hb hsa hsb (by rw [hsb]; rfl))) fun _ _ _ hq => two os_lrg hq
end
end DL
/-! DL17: reading the semantic functions: what they give, step by step. -/
namespace DL
open PySem PySem.Spec PyProof.Rows L2
/-- no tables: for facts in which they play no part -/
instance (priority := low) tabNone : TabT := { mg := fun _ => none, T := [], FB := fun _ => none }
section
variable {α β : Type}
def R.wp (r : R α) (Q : α → DEnv → Prop) (X : Ex → DEnv → Prop) : Prop := match r with
  | .ok a ρ => Q a ρ
  | .ex x ρ => X x ρ
  | .bad => False
structure Po where
  nx : DEnv → Prop
  rt : Val → DEnv → Prop
  bk : DEnv → Prop := fun _ => False
  ct : DEnv → Prop := fun _ => False
  ex : Ex → DEnv → Prop := fun _ _ => False
def RS.wp (r : RS) (P : Po) : Prop := match r with
  | .nx ρ => P.nx ρ
  | .rt x ρ => P.rt x ρ
  | .bk ρ => P.bk ρ
  | .ct ρ => P.ct ρ
  | .ex x ρ => P.ex x ρ
  | .bad => False
def RF.wp (r : RF) (Q : Val → DEnv → Prop) (X : Ex → DEnv → Prop) : Prop := match r with
  | .ret x as => Q x as
  | .ex x as => X x as
  | .bad => False
theorem RF.wp_ret {r : RF} {Q : Val → DEnv → Prop} (h : r.wp Q fun _ _ => False) : ∃ x as, r = .ret x as ∧ Q x as := by
  cases r with
  | ret x as => exact ⟨x, as, rfl, h⟩
  | ex x as => exact h.elim
  | bad => exact h.elim
theorem RF.wp_mono {r : RF} {Q Q' : Val → DEnv → Prop} {X X' : Ex → DEnv → Prop} (h : r.wp Q X) (hq : ∀ x as, Q x as → Q' x as) (hx : ∀ x as, X x as → X' x as) : r.wp Q' X' := by
  cases r with
  | ret x as => exact hq _ _ h
  | ex x as => exact hx _ _ h
  | bad => exact h.elim
theorem R.wp_mono {r : R α} {Q Q' : α → DEnv → Prop} {X X' : Ex → DEnv → Prop} (h : r.wp Q X) (hq : ∀ x as, Q x as → Q' x as) (hx : ∀ x as, X x as → X' x as) : r.wp Q' X' := by
  cases r with
  | ok x as => exact hq _ _ h
  | ex x as => exact hx _ _ h
  | bad => exact h.elim
theorem b_bind {r : R α} {g : α → DEnv → R β} {Q : β → DEnv → Prop} {X : Ex → DEnv → Prop} (h : r.wp (fun a ρ => (g a ρ).wp Q X) X) : (r.bind g).wp Q X := by cases r <;> exact h
theorem b_bindS {r : R α} {g : α → DEnv → RS} {P : Po} (h : r.wp (fun a ρ => (g a ρ).wp P) P.ex) : (r.bindS g).wp P := by cases r <;> exact h
theorem b_ok {a : α} {ρ : DEnv} {Q : α → DEnv → Prop} {X : Ex → DEnv → Prop} (h : Q a ρ) : (R.ok a ρ).wp Q X := h
end
section
variable {ρ ρ' as : DEnv} {i : Nat} {x y : Val} {d a b : D} {c : Cont} {m : Md} {f g h : EM} {t u : M Bool} {op : D → D → Option Val} {Q : Val → DEnv → Prop} {QB : Bool → DEnv → Prop} {QL : List Val → DEnv → Prop} {X : Ex → DEnv → Prop} {P : Po} {s : SM} {gl : M (List Val)}
theorem b_var_d (e : ρ[i]? = some (.d d)) (q : Q (.d d) ρ) : (eVar i ρ).wp Q X := by unfold eVar; rw [e]; exact q
theorem b_var_o (e : ρ[i]? = some (.ow c m)) (q : Q (.sl i) ρ) : (eVar i ρ).wp Q X := by unfold eVar; rw [e]; exact q
theorem b_C (q : Q (.d d) ρ) : (eC d ρ).wp Q X := q
theorem b_op (q : (f ρ).wp (fun x ρ1 => (g ρ1).wp (fun y ρ2 => (opV op x y ρ2).wp Q X) X) X) : (eOp op f g ρ).wp Q X := b_bind (R.wp_mono q (fun _ _ h => b_bind h) fun _ _ h => h)
theorem b_un {op : D → Option Val} (q : (f ρ).wp (fun x ρ1 => (unV op x ρ1).wp Q X) X) : (eUn op f ρ).wp Q X := b_bind q
theorem b_cb {op : List D → Option Val} (q : (gl ρ).wp (fun x ρ1 => (callV op x ρ1).wp Q X) X) : (eCallB op gl ρ).wp Q X := b_bind q
theorem b_opV {z : Val} (h1 : x.peek ρ = some a) (h2 : y.peek ρ = some b) (e : op a b = some z) (q : Q z ρ) : (opV op x y ρ).wp Q X := by
  unfold opV
  rw [h1, h2]
  show (ret1 (op a b) ρ).wp Q X
  rw [e]
  exact q
theorem b_unV {op : D → Option Val} {z : Val} (h1 : x.peek ρ = some a) (e : op a = some z) (q : Q z ρ) : (unV op x ρ).wp Q X := by
  unfold unV
  rw [h1]
  show (ret1 (op a) ρ).wp Q X
  rw [e]
  exact q
theorem b_callV {op : List D → Option Val} {z : Val} {xs : List Val} {ds : List D} (h1 : peekL ρ xs = some ds) (e : op ds = some z) (q : Q z ρ) : (callV op xs ρ).wp Q X := by
  unfold callV
  rw [h1]
  show (ret1 (op ds) ρ).wp Q X
  rw [e]
  exact q
theorem b_nil (q : QL [] ρ) : (aNil ρ).wp QL X := q
theorem b_cons (q : (f ρ).wp (fun x ρ1 => (gl ρ1).wp (fun xs ρ2 => QL (x :: xs) ρ2) X) X) : (aCons f gl ρ).wp QL X := b_bind (R.wp_mono q (fun _ _ h => b_bind (R.wp_mono h (fun _ _ h => h) fun _ _ h => h)) fun _ _ h => h)
theorem b_fz (q : (f ρ).wp (fun x ρ1 => (x.fzA ρ1).wp Q X) X) : (DL.fz f ρ).wp Q X := b_bind q
def nslV (x : Val) : EM := fun ρ => match x with
  | .sl i => (Val.sl i).fz ρ
  | x => .ok x ρ
theorem b_nsl (q : (f ρ).wp (fun x ρ1 => (nslV x ρ1).wp Q X) X) : (DL.nsl f ρ).wp Q X := by
  refine b_bind (R.wp_mono q (fun x ρ1 h => ?_) fun _ _ h => h)
  cases x <;> exact h
theorem b_nslD (q : Q (.d d) ρ) : (nslV (.d d) ρ).wp Q X := q
theorem b_nslF (q : Q (.fr c) ρ) : (nslV (.fr c) ρ).wp Q X := q
theorem b_nslS (q : ((Val.sl i).fz ρ).wp Q X) : (nslV (.sl i) ρ).wp Q X := q
theorem b_tup (q : (gl ρ).wp (fun x ρ1 => (mkTup x ρ1).wp Q X) X) : (eTup gl ρ).wp Q X := b_bind q
theorem b_lst (q : (gl ρ).wp (fun x ρ1 => (mkLst x ρ1).wp Q X) X) : (eLst gl ρ).wp Q X := b_bind q
theorem b_mkTup {xs : List Val} {ds : List D} (e : dsL xs = some ds) (hl : ds.length ≤ 16777216) (q : Q (.d (.tup ds)) ρ) : (mkTup xs ρ).wp Q X := by
  unfold mkTup
  rw [e]
  first | exact q | (dsimp only; rw [if_pos hl]; exact q)
theorem b_mkLst {xs : List Val} {ds : List D} (e : dsL xs = some ds) (hl : ds.length ≤ 16777216) (q : Q (.fr (.lst ds)) ρ) : (mkLst xs ρ).wp Q X := by
  unfold mkLst
  rw [e]
  first | exact q | (dsimp only; rw [if_pos hl]; exact q)
theorem b_call {Fm : FM} (q : (gl ρ).wp (fun x ρ1 => (callF Fm x ρ1).wp Q X) X) : (eCall Fm gl ρ).wp Q X := b_bind q
theorem b_callF {Fm : FM} {xs : List Val} (h1 : argSlots ρ xs = some as) (h2 : lentOnce xs = true) (q : (Fm as).wp (fun x as' => Q x (putBack ρ xs as')) (fun x as' => X x (putBack ρ xs as'))) : (callF Fm xs ρ).wp Q X := by
  unfold callF
  rw [h1]
  dsimp only
  rw [if_pos h2]
  cases hh : Fm as <;> rw [hh] at q <;> exact q
theorem b_tst (q : (f ρ).wp (fun x ρ1 => (bT x ρ1).wp QB X) X) : (tst f ρ).wp QB X := b_bind q
theorem b_bT {k : Bool} (q : QB k ρ) : (bT (.d (.bl k)) ρ).wp QB X := q
theorem b_and (q : (t ρ).wp (fun k ρ1 => (k = true → (u ρ1).wp QB X) ∧ (k = false → QB false ρ1)) X) : (tAndM t u ρ).wp QB X := by
  refine b_bind (R.wp_mono q (fun k ρ1 h => ?_) fun _ _ h => h)
  cases k
  · exact h.2 rfl
  · exact h.1 rfl
theorem b_or (q : (t ρ).wp (fun k ρ1 => (k = true → QB true ρ1) ∧ (k = false → (u ρ1).wp QB X)) X) : (tOrM t u ρ).wp QB X := by
  refine b_bind (R.wp_mono q (fun k ρ1 h => ?_) fun _ _ h => h)
  cases k
  · exact h.2 rfl
  · exact h.1 rfl
theorem b_not (q : (t ρ).wp (fun k ρ1 => QB (!k) ρ1) X) : (tNotM t ρ).wp QB X := b_bind q
theorem b_eIf (q : (t ρ).wp (fun k ρ1 => (k = true → (f ρ1).wp Q X) ∧ (k = false → (g ρ1).wp Q X)) X) : (eIf t f g ρ).wp Q X := by
  refine b_bind (R.wp_mono q (fun k ρ1 h => ?_) fun _ _ h => h)
  cases k
  · exact h.2 rfl
  · exact h.1 rfl
theorem b_eAnd (q : (f ρ).wp (fun x ρ1 => ∃ k, x = .d (.bl k) ∧ (k = true → (g ρ1).wp Q X) ∧ (k = false → Q (.d (.bl false)) ρ1)) X) : (eAnd f g ρ).wp Q X := by
  refine b_bind (R.wp_mono q (fun x ρ1 h => ?_) fun _ _ h => h)
  obtain ⟨k, rfl, h1, h2⟩ := h
  cases k
  · exact h2 rfl
  · exact h1 rfl
theorem b_eOr (q : (f ρ).wp (fun x ρ1 => ∃ k, x = .d (.bl k) ∧ (k = true → Q (.d (.bl true)) ρ1) ∧ (k = false → (g ρ1).wp Q X)) X) : (eOr f g ρ).wp Q X := by
  refine b_bind (R.wp_mono q (fun x ρ1 h => ?_) fun _ _ h => h)
  obtain ⟨k, rfl, h1, h2⟩ := h
  cases k
  · exact h2 rfl
  · exact h1 rfl
theorem b_eNot (q : (f ρ).wp (fun x ρ1 => ∃ k, x = .d (.bl k) ∧ Q (.d (.bl !k)) ρ1) X) : (eNot f ρ).wp Q X := by
  refine b_bind (R.wp_mono q (fun x ρ1 h => ?_) fun _ _ h => h)
  obtain ⟨k, rfl, h1⟩ := h
  exact h1
def AndK (QB : Bool → DEnv → Prop) (k : Bool) (ρ1 : DEnv) : Bool → DEnv → Prop := fun k2 ρ2 => ρ2 = ρ1 ∧ QB (k && k2) ρ1
def OrK (QB : Bool → DEnv → Prop) (k : Bool) (ρ1 : DEnv) : Bool → DEnv → Prop := fun k2 ρ2 => ρ2 = ρ1 ∧ QB (k || k2) ρ1
theorem b_andK {k k2 : Bool} (q : QB (k && k2) ρ) : AndK QB k ρ k2 ρ := ⟨rfl, q⟩
theorem b_orK {k k2 : Bool} (q : QB (k || k2) ρ) : OrK QB k ρ k2 ρ := ⟨rfl, q⟩
theorem b_and2 (q : (t ρ).wp (fun k ρ1 => (u ρ1).wp (AndK QB k ρ1) fun _ _ => False) X) : (tAndM t u ρ).wp QB X := by
  refine b_bind (R.wp_mono q (fun k ρ1 h => ?_) fun _ _ h => h)
  cases e : u ρ1 with
  | ok k2 ρ2 =>
    rw [e] at h
    obtain ⟨rfl, h⟩ := h
    cases k
    · exact h
    · exact h
  | ex x ρ2 => rw [e] at h; exact h.elim
  | bad => rw [e] at h; exact h.elim
theorem b_or2 (q : (t ρ).wp (fun k ρ1 => (u ρ1).wp (OrK QB k ρ1) fun _ _ => False) X) : (tOrM t u ρ).wp QB X := by
  refine b_bind (R.wp_mono q (fun k ρ1 h => ?_) fun _ _ h => h)
  cases e : u ρ1 with
  | ok k2 ρ2 =>
    rw [e] at h
    obtain ⟨rfl, h⟩ := h
    cases k
    · exact h
    · exact h
  | ex x ρ2 => rw [e] at h; exact h.elim
  | bad => rw [e] at h; exact h.elim
theorem rng_at {n j : Nat} {f : Nat → D} {dd : D} (h : ((List.range n).map f)[j]? = some dd) : j < n ∧ dd = f j := by
  rw [List.getElem?_map] at h
  have hj : j < n := by
    rcases Nat.lt_or_ge j n with z | z
    · exact z
    · rw [List.getElem?_eq_none (by simpa using z)] at h; cases h
  rw [List.getElem?_range hj] at h
  exact ⟨hj, by simpa using h.symm⟩
/-! statements -/
theorem s_seq {s1 s2 : SM} (q : (s1 ρ).wp { P with nx := fun ρ1 => (s2 ρ1).wp P }) : (sSeq s1 s2 ρ).wp P := by
  unfold sSeq
  cases e : s1 ρ <;> rw [e] at q <;> exact q
theorem s_seqN {s1 s2 : SM} (e : ρ = ρ') (q : (s1 ρ').wp { P with nx := fun ρ1 => (s2 ρ1).wp P }) : (sSeq s1 s2 ρ).wp P := by subst e; exact s_seq q
theorem s_skip (q : P.nx ρ) : (sSkip ρ).wp P := q
theorem s_drop (q : (f ρ).wp (fun _ ρ1 => P.nx ρ1) P.ex) : (sDrop f ρ).wp P := b_bindS q
theorem s_ret (q : (f ρ).wp (fun x ρ1 => P.rt x ρ1) P.ex) : (sRet f ρ).wp P := b_bindS q
theorem s_retN (q : P.rt (.d .non) ρ) : (sRetN ρ).wp P := q
theorem s_break (q : P.bk ρ) : (sBreak ρ).wp P := q
theorem s_cont (q : P.ct ρ) : (sCont ρ).wp P := q
theorem s_if {s1 s2 : SM} (q : (t ρ).wp (fun k ρ1 => (k = true → (s1 ρ1).wp P) ∧ (k = false → (s2 ρ1).wp P)) P.ex) : (sIf t s1 s2 ρ).wp P := by
  refine b_bindS (R.wp_mono q (fun k ρ1 h => ?_) fun _ _ h => h)
  cases k
  · exact h.2 rfl
  · exact h.1 rfl
theorem s_asg (q : (f ρ).wp (fun x ρ1 => (asgV i x ρ1).wp P) P.ex) : (sAsg i f ρ).wp P := b_bindS q
theorem s_asgV (e : asgV i x ρ = .nx ρ') (q : P.nx ρ') : (asgV i x ρ).wp P := by rw [e]; exact q
theorem s_par {is : List Nat} (q : (gl ρ).wp (fun xs ρ1 => (asgs is xs ρ1).wp P) P.ex) : (sPar is gl ρ).wp P := b_bindS q
theorem s_asgs {is : List Nat} {xs : List Val} (e : asgs is xs ρ = .nx ρ') (q : P.nx ρ') : (asgs is xs ρ).wp P := by rw [e]; exact q
theorem s_tgt {G : Val → SM} (q : (f ρ).wp (fun x ρ1 => (G x ρ1).wp P) P.ex) : (sTgt f G ρ).wp P := b_bindS q
/-! defs -/
theorem f_fn {np nl : Nat} {body : SM} (hl : as.length = np) (q : (body (as ++ List.replicate nl .un)).wp { nx := fun ρ => (finish (.d .non) as ρ).wp Q X, rt := fun x ρ => (finish x as ρ).wp Q X, ex := fun x ρ => X x (argsBack as ρ) }) : (fnD np nl body as).wp Q X := by
  unfold fnD
  rw [if_pos hl]
  cases e : body (as ++ List.replicate nl .un) <;> rw [e] at q <;> first | exact q | exact q.elim
theorem f_d (q : Q (.d d) (argsBack as ρ)) : (finish (.d d) as ρ).wp Q X := q
theorem f_fr (q : Q (.fr c) (argsBack as ρ)) : (finish (.fr c) as ρ).wp Q X := q
theorem f_sl (e : ρ[i]? = some (.ow c .own)) (q : Q (.fr c) (argsBack as ρ)) : (finish (.sl i) as ρ).wp Q X := by
  unfold finish
  dsimp only
  rw [e]
  exact q
theorem f_sld (e : ρ[i]? = some (.d d)) (q : Q (.d d) (argsBack as ρ)) : (finish (.sl i) as ρ).wp Q X := by
  unfold finish
  dsimp only
  rw [e]
  exact q
/-! loops -/
theorem loop_inv {tg : Val → SM} {body : SM} (I : Nat → DEnv → Prop) : ∀ (ds : List D) (k : Nat) (ρ : DEnv), I k ρ → (∀ j dd ρ, ds[j]? = some dd → I (k + j) ρ → (tg (.d dd) ρ).wp { nx := fun ρ1 => (body ρ1).wp { P with nx := I (k + j + 1), ct := I (k + j + 1), bk := P.nx }, rt := fun _ _ => False }) → (∀ ρ, I (k + ds.length) ρ → P.nx ρ) → (loopD tg body ds ρ).wp P
  | [], k, ρ, h0, hs, he => he ρ h0
  | dd :: ds, k, ρ, h0, hs, he => by
    unfold loopD
    have h1 := hs 0 dd ρ rfl h0
    cases e1 : tg (.d dd) ρ with
    | nx ρ1 =>
      rw [e1] at h1
      have h1 : (body ρ1).wp _ := h1
      have rest : ∀ ρ2, I (k + 0 + 1) ρ2 → (loopD tg body ds ρ2).wp P := fun ρ2 h2 => loop_inv I ds (k + 1) ρ2 h2 (fun j d ρ e h => by
        have := hs (j + 1) d ρ (by simpa using e) (by rw [show k + (j + 1) = k + 1 + j by omega]; exact h)
        rw [show k + (j + 1) = k + 1 + j by omega] at this
        exact this) fun ρ h => he ρ (by rw [List.length_cons, show k + (ds.length + 1) = k + 1 + ds.length by omega]; exact h)
      dsimp only
      cases e2 : body ρ1 with
      | nx ρ2 => rw [e2] at h1; exact rest ρ2 h1
      | ct ρ2 => rw [e2] at h1; exact rest ρ2 h1
      | bk ρ2 => rw [e2] at h1; exact h1
      | rt x ρ2 => rw [e2] at h1; exact h1
      | ex x ρ2 => rw [e2] at h1; exact h1
      | bad => rw [e2] at h1; exact h1.elim
    | rt x ρ1 => rw [e1] at h1; exact h1.elim
    | bk ρ1 => rw [e1] at h1; exact h1.elim
    | ct ρ1 => rw [e1] at h1; exact h1.elim
    | ex x ρ1 => rw [e1] at h1; exact h1.elim
    | bad => rw [e1] at h1; exact h1.elim
theorem s_for {fi : IM} {tg : Val → SM} {body : SM} (q : (fi ρ).wp (fun src ρ1 => (unlkS src.2 ρ1 (loopD tg body src.1 (lockS src.2 ρ1))).wp P) P.ex) : (sFor fi tg body ρ).wp P := b_bindS q
theorem s_loop {tg : Val → SM} {body : SM} {ds : List D} (q : (loopD tg body ds ρ).wp P) : (unlkS none ρ' (loopD tg body ds ρ)).wp P := by
  cases e : loopD tg body ds ρ <;> rw [e] at q <;> exact q
def rngV : List Val → DEnv → R Src := fun xs ρ1 => match xs with
  | [.d (.int j)] => if -(2 ^ 62) ≤ j ∧ j < 2 ^ 62 then .ok ((List.range j.toNat).map fun k : Nat => D.int (0 + (k : Int)), none) ρ1 else .bad
  | [.d (.int i), .d (.int j)] => if -(2 ^ 62) ≤ i ∧ i < 2 ^ 62 ∧ -(2 ^ 62) ≤ j ∧ j < 2 ^ 62 then .ok ((List.range (j - i).toNat).map fun k : Nat => D.int (i + (k : Int)), none) ρ1 else .bad
  | _ => .bad
theorem b_rng {QI : Src → DEnv → Prop} (q : (gl ρ).wp (fun xs ρ1 => (rngV xs ρ1).wp QI X) X) : (iRng gl ρ).wp QI X := b_bind q
theorem b_rng1 {n : Int} {QI : Src → DEnv → Prop} (hn : -(2 ^ 62) ≤ n ∧ n < 2 ^ 62) (q : QI ((List.range n.toNat).map fun k : Nat => D.int (0 + (k : Int)), none) ρ) : (rngV [.d (.int n)] ρ).wp QI X := by
  unfold rngV
  dsimp only
  rw [if_pos hn]
  exact q
theorem b_rng2 {n k : Int} {QI : Src → DEnv → Prop} (hn : -(2 ^ 62) ≤ k ∧ k < 2 ^ 62 ∧ -(2 ^ 62) ≤ n ∧ n < 2 ^ 62) (q : QI ((List.range (n - k).toNat).map fun i : Nat => D.int (k + (i : Int)), none) ρ) : (rngV [.d (.int k), .d (.int n)] ρ).wp QI X := by
  unfold rngV
  dsimp only
  rw [if_pos hn]
  exact q
theorem while_inv {body : SM} (I : DEnv → Nat → Prop) : ∀ (n : Nat) (ρ : DEnv) (k : Nat), k < n → I ρ k → (∀ ρ k, I ρ k → (t ρ).wp (fun b ρ1 => (b = false → P.nx ρ1) ∧ (b = true → (body ρ1).wp { P with nx := fun ρ2 => ∃ k', k' < k ∧ I ρ2 k', ct := fun ρ2 => ∃ k', k' < k ∧ I ρ2 k', bk := P.nx })) P.ex) → (whileD t body n ρ).wp P
  | 0, ρ, k, h, _, _ => absurd h (Nat.not_lt_zero _)
  | n + 1, ρ, k, h, h0, hs => by
    unfold whileD
    refine b_bindS (R.wp_mono (hs ρ k h0) (fun b ρ1 h1 => ?_) fun _ _ h => h)
    cases b with
    | false => exact h1.1 rfl
    | true =>
      rw [if_pos rfl]
      have h2 := h1.2 rfl
      cases e2 : body ρ1 with
      | nx ρ2 => rw [e2] at h2; obtain ⟨k', hk, h3⟩ := h2; exact while_inv I n ρ2 k' (by omega) h3 hs
      | ct ρ2 => rw [e2] at h2; obtain ⟨k', hk, h3⟩ := h2; exact while_inv I n ρ2 k' (by omega) h3 hs
      | bk ρ2 => rw [e2] at h2; exact h2
      | rt x ρ2 => rw [e2] at h2; exact h2
      | ex x ρ2 => rw [e2] at h2; exact h2
      | bad => rw [e2] at h2; exact h2.elim
/-! comprehensions -/
theorem comp_inv {own : List Nat} {tg : Val → SM} {tt : M Bool} {el : EM} {QD : List D → DEnv → Prop} {XD : Ex → DEnv → Prop} (I : Nat → List D → DEnv → Prop) : ∀ (ds : List D) (k : Nat) (acc : List D) (ρ : DEnv), I k acc ρ →
    (∀ j dd acc ρ, ds[j]? = some dd → I (k + j) acc ρ → (tg (.d dd) ρ).wp { nx := fun ρ1 => (tt ρ1).wp (fun b ρ2 => (b = false → I (k + j + 1) acc (wipeD ρ2 own)) ∧ (b = true → (el ρ2).wp (fun y ρ3 => ∃ yd, y = .d yd ∧ I (k + j + 1) (acc ++ [yd]) (wipeD ρ3 own)) fun _ _ => False)) fun _ _ => False, rt := fun _ _ => False }) →
    (∀ acc ρ, I (k + ds.length) acc ρ → QD acc ρ) → (compD own tg tt el ds acc ρ).wp QD XD
  | [], k, acc, ρ, h0, hs, he => he acc ρ h0
  | dd :: ds, k, acc, ρ, h0, hs, he => by
    have h1 := hs 0 dd acc ρ rfl h0
    have rest : ∀ acc ρ2, I (k + 0 + 1) acc ρ2 → (compD own tg tt el ds acc ρ2).wp QD XD := fun acc ρ2 h2 => comp_inv I ds (k + 1) acc ρ2 h2 (fun j d acc ρ e h => by
        have := hs (j + 1) d acc ρ (by simpa using e) (by rw [show k + (j + 1) = k + 1 + j by omega]; exact h)
        rw [show k + (j + 1) = k + 1 + j by omega] at this
        exact this) fun acc ρ h => he acc ρ (by rw [List.length_cons, show k + (ds.length + 1) = k + 1 + ds.length by omega]; exact h)
    unfold compD
    cases e1 : tg (.d dd) ρ with
    | nx ρ1 =>
      rw [e1] at h1
      have h1 : (tt ρ1).wp _ _ := h1
      dsimp only
      cases e2 : tt ρ1 with
      | ok b ρ2 =>
        rw [e2] at h1
        have h1 : _ ∧ _ := h1
        dsimp only
        cases b with
        | false => rw [if_neg (by decide)]; exact rest _ _ (h1.1 rfl)
        | true =>
          rw [if_pos rfl]
          have h2 := h1.2 rfl
          cases e3 : el ρ2 with
          | ok y ρ3 =>
            rw [e3] at h2
            obtain ⟨yd, rfl, h3⟩ := h2
            exact rest _ _ h3
          | ex x ρ3 => rw [e3] at h2; exact h2.elim
          | bad => rw [e3] at h2; exact h2.elim
      | ex x ρ2 => rw [e2] at h1; exact h1.elim
      | bad => rw [e2] at h1; exact h1.elim
    | rt x ρ1 => rw [e1] at h1; exact h1.elim
    | bk ρ1 => rw [e1] at h1; exact h1.elim
    | ct ρ1 => rw [e1] at h1; exact h1.elim
    | ex x ρ1 => rw [e1] at h1; exact h1.elim
    | bad => rw [e1] at h1; exact h1.elim
theorem b_lc {own : List Nat} {fi : IM} {tg : Val → SM} {tt : M Bool} {el : EM} (q : (fi ρ).wp (fun src ρ1 => inB own ρ1 = true ∧ src.1.length < 16777216 ∧ (compD own tg tt el src.1 [] (wipeD (lockS src.2 ρ1) own)).wp (fun ys ρ2 => Q (.fr (.lst ys)) (unlk src.2 ρ1 (backD (lockS src.2 ρ1) ρ2 own))) fun _ _ => False) X) : (eLc own fi tg tt el ρ).wp Q X := by
  refine b_bind (R.wp_mono q (fun src ρ1 h => ?_) fun _ _ h => h)
  obtain ⟨h1, h2, h3⟩ := h
  rw [if_pos ⟨h1, h2⟩]
  cases e : compD own tg tt el src.1 [] (wipeD (lockS src.2 ρ1) own) with
  | ok ys ρ2 => rw [e] at h3; exact h3
  | ex x ρ2 => rw [e] at h3; exact h3.elim
  | bad => rw [e] at h3; exact h3.elim
theorem b_iseq {QI : Src → DEnv → Prop} (q : (f ρ).wp (fun x ρ1 => (seqSrc x ρ1).wp QI X) X) : (iSeq f ρ).wp QI X := b_bind q
theorem b_yes (q : QB true ρ) : (tYesD ρ).wp QB X := q
def StoreK (i : Nat) (k : EM) (P : Po) (x : Val) (ρ1 : DEnv) : Prop := ∃ c m, ρ1[i]? = some (.ow c m) ∧ (k ρ1).wp (fun y ρ2 => (storeV i x y ρ2).wp P) P.ex
theorem s_storeK {k : EM} (e : ρ[i]? = some (.ow c m)) (q : (k ρ).wp (fun y ρ2 => (storeV i x y ρ2).wp P) P.ex) : StoreK i k P x ρ := ⟨c, m, e, q⟩
theorem s_store {k : EM} (q : (f ρ).wp (StoreK i k P) P.ex) : (sStore i k f ρ).wp P := by
  refine b_bindS (R.wp_mono q (fun x ρ1 h => ?_) fun _ _ h => h)
  obtain ⟨c, m, e, h⟩ := h
  rw [e]
  exact b_bindS h
theorem s_storeV {k : Val} (e : storeV i x k ρ = .nx ρ') (q : P.nx ρ') : (storeV i x k ρ).wp P := by rw [e]; exact q
/-! methods -/
theorem b_methL {op : Cont → List D → Option (Cont × D)} {ds : List D} (e : ρ[i]? = some (.ow (.lst ds) m)) (q : (gl ρ).wp (fun xs ρ1 => (methV i op xs ρ1).wp Q X) X) : (eMethL i op gl ρ).wp Q X := by
  unfold eMethL
  rw [e]
  exact b_bind q
theorem b_methV {op : Cont → List D → Option (Cont × D)} {xs : List Val} {r : Val} (e : methV i op xs ρ = .ok r ρ') (q : Q r ρ') : (methV i op xs ρ).wp Q X := by rw [e]; exact q
theorem b_fzv {r : Val} (e : x.fz ρ = .ok r ρ') (q : Q r ρ') : (x.fz ρ).wp Q X := by rw [e]; exact q
theorem b_fzvA {r : Val} (e : x.fzA ρ = .ok r ρ') (q : Q r ρ') : (x.fzA ρ).wp Q X := by rw [e]; exact q
/-! operations -/
theorem x_mul {i j : Int} (h1 : x.peek ρ = some (.int i)) (h2 : y.peek ρ = some (.int j)) (h : ((-18446744073709551616 : Int) < i ∧ i < 18446744073709551616) ∨ ((-18446744073709551616 : Int) < j ∧ j < 18446744073709551616)) (q : Q (.d (.int (i * j))) ρ) : (opV mulD x y ρ).wp Q X :=
  b_opV h1 h2 (by
    show (match intV mulI (.int i) (.int j) with | some z => some z | none => repL _ _) = some _
    rw [show intV mulI (.int i) (.int j) = some (.d (.int (i * j))) from by
      show (mulI i j).map _ = _
      unfold mulI
      rw [if_pos (by
        rcases h with h | h
        · exact .inl (by simpa using h)
        · exact .inr (.inl (by simpa using h)))]
      rfl]) q
theorem x_mod {i j : Int} (h1 : x.peek ρ = some (.int i)) (h2 : y.peek ρ = some (.int j)) (h : 0 < j) (q : Q (.d (.int (i % j))) ρ) : (opV modD x y ρ).wp Q X :=
  b_opV h1 h2 (by
    show (modI i j).map _ = _
    unfold modI
    rw [if_pos h]
    rfl) q
theorem x_div {i j : Int} (h1 : x.peek ρ = some (.int i)) (h2 : y.peek ρ = some (.int j)) (h : 0 < j ∧ j < 18446744073709551616) (q : Q (.d (.int (i / j))) ρ) : (opV divD x y ρ).wp Q X :=
  b_opV h1 h2 (by
    show (divI i j).map _ = _
    unfold divI
    have h3 : j.natAbs < 2 ^ 64 := by have := h.2; omega
    have h4 : j.natAbs ≠ 0 := by have := h.1; omega
    have h5 := (Nat.log2_lt h4).mpr h3
    rw [if_pos ⟨h.1, by omega⟩]
    rfl) q
theorem x_pow {i j : Int} (h1 : x.peek ρ = some (.int i)) (h2 : y.peek ρ = some (.int j)) (hp : powI i j = some (i ^ j.toNat)) (q : Q (.d (.int (i ^ j.toNat))) ρ) : (opV powD x y ρ).wp Q X :=
  b_opV h1 h2 (by
    show (powI i j).map _ = _
    rw [hp]
    rfl) q
theorem x_modG {i j : Int} (h1 : x.peek ρ = some (.int i)) (h2 : y.peek ρ = some (.int j)) (h : 0 < j) (q : ∀ r, 0 ≤ r → r < j → r = i % j → Q (.d (.int r)) ρ) : (opV modD x y ρ).wp Q X :=
  x_mod h1 h2 h (q _ (Int.emod_nonneg _ (by omega)) (Int.emod_lt_of_pos _ h) rfl)
theorem x_idx {xs : List D} {i : Int} (h1 : x.peek ρ = some (.lst xs)) (h2 : y.peek ρ = some (.int i)) (e : atI xs i = some d) (q : Q (.d d) ρ) : (opV idxD x y ρ).wp Q X :=
  b_opV h1 h2 (by
    show (match (match (atI xs i).map Val.d with | some z => some z | none => idxD3 _ _) with | some z => some z | none => idxD2 _ _) = some _
    rw [e]
    rfl) q
theorem x_idxT {xs : List D} {i : Int} (h1 : x.peek ρ = some (.tup xs)) (h2 : y.peek ρ = some (.int i)) (e : atI xs i = some d) (q : Q (.d d) ρ) : (opV idxD x y ρ).wp Q X :=
  b_opV h1 h2 (by
    show (match (match (atI xs i).map Val.d with | some z => some z | none => idxD3 _ _) with | some z => some z | none => idxD2 _ _) = some _
    rw [e]
    rfl) q
theorem x_idxS {xs : List Int} {i j : Int} (h1 : x.peek ρ = some (.scr xs)) (h2 : y.peek ρ = some (.int i)) (e : atI xs i = some j) (q : Q (.d (.int j)) ρ) : (opV idxD x y ρ).wp Q X :=
  b_opV h1 h2 (by
    show (match (match (atI xs i).map (fun k => Val.d (.int k)) with | some z => some z | none => idxD3 _ _) with | some z => some z | none => idxD2 _ _) = some _
    rw [e]
    rfl) q
theorem x_ne {k : Bool} (h1 : x.peek ρ = some a) (h2 : y.peek ρ = some b) (e : eqD a b = some k) (q : Q (.d (.bl !k)) ρ) : (opV neV' x y ρ).wp Q X :=
  b_opV h1 h2 (by show bV ((eqD a b).map _) = _; rw [e]; rfl) q
theorem x_eq {k : Bool} (h1 : x.peek ρ = some a) (h2 : y.peek ρ = some b) (e : eqD a b = some k) (q : Q (.d (.bl k)) ρ) : (opV eqV' x y ρ).wp Q X :=
  b_opV h1 h2 (by show bV (eqD a b) = _; rw [e]; rfl) q
theorem x_append {xs : List D} (e : ρ[i]? = some (.ow (.lst xs) m)) (hm : m = .own ∨ m = .bor) (hl : xs.length < 16777216) (q : Q (.d .non) (ρ.set i (.ow (.lst (xs ++ [d])) m))) : (methV i appendO [.d d] ρ).wp Q X := by
  refine b_methV (r := .d .non) (ρ' := ρ.set i (.ow (.lst (xs ++ [d])) m)) ?_ q
  unfold methV
  rw [e]
  show (match appendO (.lst xs) [d] with | some (c', r) => (mutS i c' ρ).bind (fun _ ρ' => (R.ok (Val.d r) ρ' : R Val)) | none => .bad) = _
  rw [show appendO (.lst xs) [d] = some (.lst (xs ++ [d]), .non) from if_pos hl]
  show (mutS i (.lst (xs ++ [d])) ρ).bind _ = _
  unfold mutS
  rw [e]
  rcases hm with rfl | rfl <;> rfl
theorem x_popAt {xs : List D} {r : Int} (e : ρ[i]? = some (.ow (.lst xs) m)) (hm : m = .own ∨ m = .bor) (h0 : 0 ≤ r) (h1 : r < xs.length) (hl : xs.length < 16777216) (q : ∀ d, xs[r.toNat]? = some d → Q (.d d) (ρ.set i (.ow (.lst (xs.eraseIdx r.toNat)) m))) : (methV i popAtO [.d (.int r)] ρ).wp Q X := by
  have hj : r.toNat < xs.length := by omega
  refine b_methV (r := .d xs[r.toNat]) (ρ' := ρ.set i (.ow (.lst (xs.eraseIdx r.toNat)) m)) ?_ (q _ (List.getElem?_eq_getElem hj))
  unfold methV
  rw [e]
  show (match popAtO (.lst xs) [.int r] with | some (c', r) => (mutS i c' ρ).bind (fun _ ρ' => (R.ok (Val.d r) ρ' : R Val)) | none => .bad) = _
  unfold popAtO
  dsimp only
  rw [if_pos ⟨h0, h1, by omega⟩, List.getElem?_eq_getElem hj]
  show (mutS i (.lst (xs.eraseIdx r.toNat)) ρ).bind _ = _
  unfold mutS
  rw [e]
  rcases hm with rfl | rfl <;> rfl
/-! slots that may be stored in -/
def Fr (s : Slot) : Prop := s = .un ∨ (∃ d, s = .d d) ∨ ∃ c, s = .ow c .own
theorem Fr.un : Fr .un := .inl rfl
theorem Fr.dat {d : D} : Fr (.d d) := .inr (.inl ⟨d, rfl⟩)
theorem Fr.own {c : Cont} : Fr (.ow c .own) := .inr (.inr ⟨c, rfl⟩)
theorem put_fr {s s0 : Slot} (e : ρ[i]? = some s0) (hf : Fr s0) : put i s ρ = .nx (ρ.set i s) := by
  unfold put
  rw [e]
  rcases hf with rfl | ⟨d, rfl⟩ | ⟨c, rfl⟩ <;> rfl
theorem s_asgF {s0 : Slot} (e : ρ[i]? = some s0) (hf : Fr s0) (q : P.nx (ρ.set i (.d d))) : (asgV i (.d d) ρ).wp P := by
  unfold asgV
  show (put i (.d d) ρ).wp P
  rw [put_fr e hf]
  exact q
theorem s_asgFO {s0 : Slot} (e : ρ[i]? = some s0) (hf : Fr s0) (q : P.nx (ρ.set i (.ow c .own))) : (asgV i (.fr c) ρ).wp P := by
  unfold asgV
  show (put i (.ow c .own) ρ).wp P
  rw [put_fr e hf]
  exact q
theorem s_asgsN (q : P.nx ρ) : (asgs [] [] ρ).wp P := by unfold asgs; exact q
theorem s_asgsD {is : List Nat} {xs : List Val} {s0 : Slot} (e : ρ[i]? = some s0) (hf : Fr s0) (q : (asgs is xs (ρ.set i (.d d))).wp P) : (asgs (i :: is) (.d d :: xs) ρ).wp P := by
  show ((put i (.d d) ρ).thenS (asgs is xs)).wp P
  rw [put_fr e hf]
  exact q
theorem s_asgsO {is : List Nat} {xs : List Val} {s0 : Slot} (e : ρ[i]? = some s0) (hf : Fr s0) (q : (asgs is xs (ρ.set i (.ow c .own))).wp P) : (asgs (i :: is) (.fr c :: xs) ρ).wp P := by
  show ((put i (.ow c .own) ρ).thenS (asgs is xs)).wp P
  rw [put_fr e hf]
  exact q
end
end DL
/-! DL18: data that can be compared and shown. -/
namespace DL
open PySem PySem.Spec PyProof.Rows L2
mutual
def D.good : D → Bool
  | .non => true
  | .bl _ => true
  | .int _ => true
  | .str x => PyData.strOk x
  | .tup xs => goodL xs
  | .lst xs => goodL xs
  | _ => false
def goodL : List D → Bool
  | [] => true
  | x :: xs => x.good && goodL xs
end
mutual
def D.dep : D → Nat
  | .tup xs => depL xs + 1
  | .lst xs => depL xs + 1
  | _ => 0
def depL : List D → Nat
  | [] => 0
  | x :: xs => max x.dep (depL xs)
end
mutual
def D.cnt : D → Nat
  | .tup xs => cntL xs + 1
  | .lst xs => cntL xs + 1
  | _ => 1
def cntL : List D → Nat
  | [] => 0
  | x :: xs => x.cnt + cntL xs
end
mutual
def D.short : D → Bool
  | .int i => decide (i.natAbs < 2 ^ 200)
  | .str x => decide (x.length ≤ 50)
  | .tup xs => shortL xs
  | .lst xs => shortL xs
  | _ => true
def shortL : List D → Bool
  | [] => true
  | x :: xs => x.short && shortL xs
end
theorem strOk_lt {x : Str} (h : PyData.strOk x = true) : ∀ c ∈ x.cps.toList, c < 16 ^ 8 := fun c hc => by
  unfold PyData.strOk at h
  rw [Array.all_eq_true'] at h
  have := h c (by simpa using hc)
  have h2 : c < 1114112 := by simpa using this
  omega
theorem int_short {i : Int} (h : i.natAbs < 2 ^ 200) : (PyData.int i).showable = true ∧ (PyData.int i).shown.length ≤ 1921 := by
  have h2 : i.natAbs.log2 < 200 := by
    by_cases h0 : i.natAbs = 0
    · rw [h0]; decide
    · exact (Nat.log2_lt h0).mpr h
  refine ⟨?_, ?_⟩
  · unfold PyData.showable
    exact decide_eq_true (by omega)
  · unfold PyData.shown
    have := int_text_len_1921 (i := i) (by omega)
    exact this
mutual
theorem good_py : ∀ (d : D), d.good = true → ∃ p, d.toPy = some p ∧ p.canLay0 = true ∧ p.depth = d.dep ∧ p.hasDict = false ∧ (d.short = true → p.showable = true ∧ p.shown.length + 2 ≤ 2000 * d.cnt)
  | .non, _ => ⟨.none, rfl, rfl, rfl, by simp only [PyData.hasDict], fun _ => ⟨by simp only [PyData.showable], by simp only [PyData.shown]; decide⟩⟩
  | .bl b, _ => ⟨.bool b, rfl, rfl, rfl, by simp only [PyData.hasDict], fun _ => ⟨by simp only [PyData.showable], by simp only [PyData.shown]; cases b <;> decide⟩⟩
  | .int i, _ => ⟨.int i, rfl, rfl, rfl, by simp only [PyData.hasDict], fun h => by
      have := int_short (i := i) (by simpa [D.short] using h)
      exact ⟨this.1, by have := this.2; simp only [D.cnt]; omega⟩⟩
  | .str x, h => ⟨.str x, rfl, by simpa [PyData.canLay0, D.good] using h, rfl, by simp only [PyData.hasDict], fun hs => ⟨by simp only [PyData.showable], by
      simp only [PyData.shown]
      have h1 := StrLaws.reprText_len x (strOk_lt (by simpa [D.good] using h))
      have h2 : x.length ≤ 50 := by simpa [D.short] using hs
      simp only [D.cnt]
      omega⟩⟩
  | .tup xs, h => by
    obtain ⟨ps, h1, h2, h3, h4, h5, h6⟩ := goodL_py xs (by simpa [D.good] using h)
    refine ⟨.tuple ps, by simp [D.toPy, h1], by simpa [PyData.canLay0] using h2, by simp [PyData.depth, D.dep, h3], by simpa [PyData.hasDict] using h4, fun hs => ?_⟩
    obtain ⟨g1, g2⟩ := h6 (by simpa [D.short] using hs)
    refine ⟨by simpa [PyData.showable] using g1, ?_⟩
    have := tupleText_len_le (PyData.shownAll ps)
    simp only [PyData.shown, D.cnt]
    rw [h5] at this
    omega
  | .lst xs, h => by
    obtain ⟨ps, h1, h2, h3, h4, h5, h6⟩ := goodL_py xs (by simpa [D.good] using h)
    refine ⟨.list ps, by simp [D.toPy, h1], by simpa [PyData.canLay0] using h2, by simp [PyData.depth, D.dep, h3], by simpa [PyData.hasDict] using h4, fun hs => ?_⟩
    obtain ⟨g1, g2⟩ := h6 (by simpa [D.short] using hs)
    refine ⟨by simpa [PyData.showable] using g1, ?_⟩
    have := listText_len_le (PyData.shownAll ps)
    simp only [PyData.shown, D.cnt]
    rw [h5] at this
    omega
  | .dic _ _, h => by simp [D.good] at h
  | .set _, h => by simp [D.good] at h
  | .scr _, h => by simp [D.good] at h
  | .ty _, h => by simp [D.good] at h
  | .obj _ _ _, h => by simp [D.good] at h
  | .ins _ _ _, h => by simp [D.good] at h
theorem goodL_py : ∀ (ds : List D), goodL ds = true → ∃ ps, toPyL ds = some ps ∧ PyData.canLayAll0 ps = true ∧ PyData.depthAll ps = depL ds ∧ PyData.hasDictAll ps = false ∧ (PyData.shownAll ps).length = ds.length ∧ (shortL ds = true → PyData.showableAll ps = true ∧ ((PyData.shownAll ps).map (·.length)).sum + 2 * ds.length ≤ 2000 * cntL ds)
  | [], _ => ⟨[], rfl, rfl, rfl, by simp only [PyData.hasDictAll], by simp [PyData.shownAll], fun _ => ⟨by simp only [PyData.showableAll], by simp [PyData.shownAll, cntL]⟩⟩
  | d :: ds, h => by
    have h : d.good = true ∧ goodL ds = true := by simpa [goodL] using h
    obtain ⟨p, a1, a2, a3, a4, a5⟩ := good_py d h.1
    obtain ⟨ps, b1, b2, b3, b4, b5, b6⟩ := goodL_py ds h.2
    refine ⟨p :: ps, by simp [toPyL, a1, b1], by simp [PyData.canLayAll0, a2, b2], by simp [PyData.depthAll, depL, a3, b3], by simp [PyData.hasDictAll, a4, b4], by simp [PyData.shownAll, b5], fun hs => ?_⟩
    have hs : d.short = true ∧ shortL ds = true := by simpa [shortL] using hs
    obtain ⟨c1, c2⟩ := a5 hs.1
    obtain ⟨e1, e2⟩ := b6 hs.2
    refine ⟨by simp [PyData.showableAll, c1, e1], ?_⟩
    have hc : 1 ≤ d.cnt := by cases d <;> simp [D.cnt]
    simp only [PyData.shownAll, List.map_cons, List.sum_cons, List.length_cons, cntL]
    omega
end
/-! ### == -/
def eqG (a b : D) : Bool := match a.toPy, b.toPy with
  | some p, some q => PyData.eqv p q
  | _, _ => false
theorem good_shaped {d : D} (h : d.good = true) (hd : d.dep ≤ 64) : ∃ p, d.toPy = some p ∧ SeqAt.shaped p = true := by
  obtain ⟨p, h1, h2, h3, _⟩ := good_py d h
  exact ⟨p, h1, by unfold SeqAt.shaped; rw [h2, decide_eq_true (by omega)]; rfl⟩
theorem eqD_good {a b : D} (ha : a.good = true) (hb : b.good = true) (da : a.dep ≤ 64) (db : b.dep ≤ 64) : eqD a b = some (eqG a b) := by
  obtain ⟨p, h1, h2⟩ := good_shaped ha da
  obtain ⟨q, h3, h4⟩ := good_shaped hb db
  have gen : (match a.toPy, b.toPy with | some p, some q => if SeqAt.shaped p = true ∧ SeqAt.shaped q = true then some (PyData.eqv p q) else none | _, _ => none) = some (eqG a b) := by
    unfold eqG
    rw [h1, h3]
    dsimp only
    rw [if_pos ⟨h2, h4⟩]
  unfold eqD
  split
  · unfold eqG; simp [D.toPy, PyData.eqv]; rfl
  · unfold eqG; simp [D.toPy, PyData.eqv]; rfl
  · unfold eqG; simp [D.toPy, PyData.eqv]
  · unfold eqG; simp [D.toPy, PyData.eqv]
  · unfold eqG; simp [D.toPy, PyData.eqv]
  · unfold eqG; simp [D.toPy, PyData.eqv]
  · unfold eqG; simp [D.toPy, PyData.eqv]
  · unfold eqG; simp [D.toPy, PyData.eqv]
  · unfold eqG; simp [D.toPy, PyData.eqv]
  · unfold eqG; simp [D.toPy, PyData.eqv]
  · exact gen
theorem eqG_refl {a : D} (h : a.good = true) : eqG a a = true := by
  obtain ⟨p, h1, h2, _⟩ := good_py a h
  unfold eqG
  rw [h1]
  exact PySem.SeqAt.eqv_refl p h2
theorem toPyL_nil {ds : List D} : toPyL ds = some [] → ds = [] := fun h => by
  cases ds with
  | nil => rfl
  | cons x xs =>
    unfold toPyL at h
    split at h
    · cases h
    · cases h
theorem eqG_nil {ds : List D} (h : goodL ds = true) : eqG (.lst ds) (.lst []) = ds.isEmpty := by
  obtain ⟨ps, h1, _⟩ := goodL_py ds h
  unfold eqG
  simp only [D.toPy, toPyL, h1, Option.map_some]
  cases ds with
  | nil => cases h1; simp [PyData.eqv, PyData.eqvAll]
  | cons x xs =>
    cases ps with
    | nil => cases toPyL_nil h1
    | cons p ps => simp [PyData.eqv, PyData.eqvAll]
theorem eqG_nilT {ds : List D} (h : goodL ds = true) : eqG (.tup ds) (.tup []) = ds.isEmpty := by
  obtain ⟨ps, h1, _⟩ := goodL_py ds h
  unfold eqG
  simp only [D.toPy, toPyL, h1, Option.map_some]
  cases ds with
  | nil => cases h1; simp [PyData.eqv, PyData.eqvAll]
  | cons x xs =>
    cases ps with
    | nil => cases toPyL_nil h1
    | cons p ps => simp [PyData.eqv, PyData.eqvAll]
/-! ### lists of data -/
theorem goodL_iff {ds : List D} : goodL ds = true ↔ ∀ x ∈ ds, x.good = true := by
  induction ds with
  | nil => simp [goodL]
  | cons x xs ih => simp [goodL, ih]
theorem shortL_iff {ds : List D} : shortL ds = true ↔ ∀ x ∈ ds, x.short = true := by
  induction ds with
  | nil => simp [shortL]
  | cons x xs ih => simp [shortL, ih]
theorem depL_le {ds : List D} {n : Nat} : depL ds ≤ n ↔ ∀ x ∈ ds, x.dep ≤ n := by
  induction ds with
  | nil => simp [depL]
  | cons x xs ih => simp [depL, Nat.max_le, ih]
theorem cntL_le {ds : List D} {n : Nat} (h : ∀ x ∈ ds, x.cnt ≤ n) : cntL ds ≤ n * ds.length := by
  induction ds with
  | nil => simp [cntL]
  | cons x xs ih =>
    have h1 := h x List.mem_cons_self
    have h2 := ih fun y hy => h y (List.mem_cons_of_mem _ hy)
    simp only [cntL, List.length_cons, Nat.mul_add]
    omega
/-- data that can be compared and shown, no deeper than k, of at most n parts -/
structure Gd (k n : Nat) (d : D) : Prop where
  good : d.good = true
  short : d.short = true
  dep : d.dep ≤ k
  cnt : d.cnt ≤ n
theorem Gd.mono {k n k' n' : Nat} {d : D} (h : Gd k n d) (hk : k ≤ k') (hn : n ≤ n') : Gd k' n' d := ⟨h.good, h.short, Nat.le_trans h.dep hk, Nat.le_trans h.cnt hn⟩
theorem Gd.tup {k n : Nat} {ds : List D} (h : ∀ x ∈ ds, Gd k n x) : Gd (k + 1) (n * ds.length + 1) (.tup ds) :=
  ⟨by simpa [D.good] using goodL_iff.mpr fun x hx => (h x hx).good, by simpa [D.short] using shortL_iff.mpr fun x hx => (h x hx).short, by simpa [D.dep] using depL_le.mpr fun x hx => (h x hx).dep, by have := cntL_le (n := n) fun x hx => (h x hx).cnt; simp only [D.cnt]; omega⟩
theorem Gd.lst {k n : Nat} {ds : List D} (h : ∀ x ∈ ds, Gd k n x) : Gd (k + 1) (n * ds.length + 1) (.lst ds) :=
  ⟨by simpa [D.good] using goodL_iff.mpr fun x hx => (h x hx).good, by simpa [D.short] using shortL_iff.mpr fun x hx => (h x hx).short, by simpa [D.dep] using depL_le.mpr fun x hx => (h x hx).dep, by have := cntL_le (n := n) fun x hx => (h x hx).cnt; simp only [D.cnt]; omega⟩
theorem Gd.int {i : Int} (h : i.natAbs < 2 ^ 200) : Gd 0 1 (.int i) := ⟨rfl, by simpa [D.short] using h, Nat.le_refl _, Nat.le_refl _⟩
theorem Gd.eq {a b : D} {k n k' n' : Nat} (ha : Gd k n a) (hb : Gd k' n' b) (hk : k ≤ 64) (hk' : k' ≤ 64) : eqD a b = some (eqG a b) := eqD_good ha.good hb.good (Nat.le_trans ha.dep hk) (Nat.le_trans hb.dep hk')
/-! ### repr -/
def shownD (d : D) : Str := match d.toPy with
  | some p => p.shown
  | none => ""
theorem Gd.repr1 {a : D} {k n : Nat} (h : Gd k n a) (hk : k ≤ 60) (hn : n ≤ 8000) : reprD1 a = some (.d (.str (shownD a))) := by
  obtain ⟨p, h1, h2, h3, h4, h5⟩ := good_py a h.good
  obtain ⟨g1, g2⟩ := h5 h.short
  unfold reprD1 shownD
  rw [h1]
  dsimp only
  have := h.cnt
  have := h.dep
  rw [if_pos ⟨g1, h4, by omega, by unfold sizeLine; omega⟩]
theorem Gd.reprT {xs : List D} {k n : Nat} (h : Gd k n (.tup xs)) (hk : k ≤ 60) (hn : n ≤ 8000) : reprD [.tup xs] = some (.d (.str (shownD (.tup xs)))) := h.repr1 hk hn
theorem Gd.reprL {xs : List D} {k n : Nat} (h : Gd k n (.lst xs)) (hk : k ≤ 60) (hn : n ≤ 8000) : reprD [.lst xs] = some (.d (.str (shownD (.lst xs)))) := h.repr1 hk hn
/-! ### more rules of reading -/
section
variable {ρ ρ' as : DEnv} {i : Nat} {x y : Val} {d a b : D} {c : Cont} {m : Md} {Q : Val → DEnv → Prop} {X : Ex → DEnv → Prop} {P : Po}
theorem inS_int {v : Int} : ∀ {ws : List Int}, inS (.int v) (ws.map D.int) = decide (v ∈ ws)
  | [] => by simp [inS]
  | w :: ws => by
    have ih := inS_int (v := v) (ws := ws)
    unfold inS at ih ⊢
    rw [List.map_cons, List.any_cons, ih]
    show (w == v || decide (v ∈ ws)) = _
    by_cases h : w = v
    · subst h; simp
    · simp [h, show ¬ v = w from fun z => h z.symm]
theorem flat_ints : ∀ {ws : List Int}, (ws.map D.int).all flatD = true
  | [] => rfl
  | w :: ws => by rw [List.map_cons, List.all_cons, flat_ints]; rfl
theorem x_ninI {v : Int} {ws : List Int} (h1 : x.peek ρ = some (.int v)) (h2 : y.peek ρ = some (.lst (ws.map D.int))) (q : Q (.d (.bl (!decide (v ∈ ws)))) ρ) : (opV ninD x y ρ).wp Q X :=
  b_opV (z := .d (.bl (!decide (v ∈ ws)))) h1 h2 (by
    have e : inSeqD true (.int v) (.lst (ws.map D.int)) = some (.d (.bl (!decide (v ∈ ws)))) := by
      unfold inSeqD
      dsimp only
      rw [if_pos ⟨rfl, flat_ints⟩, inS_int]
      rfl
    unfold ninD orOp
    rw [e]) q
theorem x_inI {v : Int} {ws : List Int} (h1 : x.peek ρ = some (.int v)) (h2 : y.peek ρ = some (.lst (ws.map D.int))) (q : Q (.d (.bl (decide (v ∈ ws)))) ρ) : (opV inD x y ρ).wp Q X :=
  b_opV (z := .d (.bl (decide (v ∈ ws)))) h1 h2 (by
    have e : inSeqD false (.int v) (.lst (ws.map D.int)) = some (.d (.bl (decide (v ∈ ws)))) := by
      unfold inSeqD
      dsimp only
      rw [if_pos ⟨rfl, flat_ints⟩, inS_int]
      rfl
    unfold inD orOp
    rw [e]) q
theorem x_ninIT {v : Int} {ws : List Int} (h1 : x.peek ρ = some (.int v)) (h2 : y.peek ρ = some (.tup (ws.map D.int))) (q : Q (.d (.bl (!decide (v ∈ ws)))) ρ) : (opV ninD x y ρ).wp Q X :=
  b_opV (z := .d (.bl (!decide (v ∈ ws)))) h1 h2 (by
    have e : inSeqD true (.int v) (.tup (ws.map D.int)) = some (.d (.bl (!decide (v ∈ ws)))) := by
      unfold inSeqD
      dsimp only
      rw [if_pos ⟨rfl, flat_ints⟩, inS_int]
      rfl
    unfold ninD orOp
    rw [e]) q
theorem x_inIT {v : Int} {ws : List Int} (h1 : x.peek ρ = some (.int v)) (h2 : y.peek ρ = some (.tup (ws.map D.int))) (q : Q (.d (.bl (decide (v ∈ ws)))) ρ) : (opV inD x y ρ).wp Q X :=
  b_opV (z := .d (.bl (decide (v ∈ ws)))) h1 h2 (by
    have e : inSeqD false (.int v) (.tup (ws.map D.int)) = some (.d (.bl (decide (v ∈ ws)))) := by
      unfold inSeqD
      dsimp only
      rw [if_pos ⟨rfl, flat_ints⟩, inS_int]
      rfl
    unfold inD orOp
    rw [e]) q
theorem x_addL {xs ys : List D} (h1 : x.peek ρ = some (.lst xs)) (h2 : y.peek ρ = some (.lst ys)) (hl : xs.length + ys.length ≤ 16777216) (q : Q (.fr (.lst (xs ++ ys))) ρ) : (opV addD x y ρ).wp Q X :=
  b_opV h1 h2 (by
    show (match (if xs.length + ys.length ≤ sizeLine then some (Val.fr (.lst (xs ++ ys))) else none) with | some z => some z | none => addT _ _) = _
    rw [if_pos (show xs.length + ys.length ≤ sizeLine by unfold sizeLine; omega)]) q
end
end DL
set_option maxHeartbeats 2000000
/-! DL19: type names, isinstance, set comprehensions of ints, dict comprehensions. -/
namespace DL
open PySem PySem.Spec PyProof.Rows L2
variable [TabT]
section
variable {X : Cx} {W : WX} {pos : Pos}
theorem de_bty {x : Str} {n : String} (hg : Gl X x) (hm : X.mg x = none) (hv : bootBuiltins x = some (.type n)) (hn : x ≠ "__name__" := by decide) (hd : (x == ("__debug__" : Str)) = false := by decide) : DE X W (.Name x pos) (eC (.ty n)) :=
  de_const (t := tC .non) (pe_bltn (v := .ty n) hg hm hv rfl hn hd) fun _ => .ty n
end
/-! ### isinstance -/
def tyN : D → Option String
  | .non => some "NoneType"
  | .bl _ => some "bool"
  | .int _ => some "int"
  | .str _ => some "str"
  | .tup _ => some "tuple"
  | .lst _ => some "list"
  | .dic _ _ => some "dict"
  | _ => none
/-- the answer, for the types that the texts ask for -/
def isB (t n : String) : Option Bool :=
  if n = "int" then some (t == "int" || t == "bool") else if n = "bool" ∨ n = "str" ∨ n = "tuple" ∨ n = "list" ∨ n = "dict" then some (t == n) else none
def isiD : List D → Option Val
  | [a, .ty n] => match tyN a with
    | some t => (isB t n).map fun b => .d (.bl b)
    | none => none
  | _ => none
theorem isB_ok {a : D} {t n : String} {b : Bool} (e : tyN a = some t) (h : isB t n = some b) : kitB t n = some b := by
  have ht : t = "NoneType" ∨ t = "bool" ∨ t = "int" ∨ t = "str" ∨ t = "tuple" ∨ t = "list" ∨ t = "dict" := by
    cases a <;> simp_all [tyN]
  have hn : n = "int" ∨ n = "bool" ∨ n = "str" ∨ n = "tuple" ∨ n = "list" ∨ n = "dict" := by
    unfold isB at h
    split at h
    · rename_i z; exact .inl z
    · split at h
      · rename_i z; exact .inr z
      · cases h
  rcases ht with rfl | rfl | rfl | rfl | rfl | rfl | rfl <;> rcases hn with rfl | rfl | rfl | rfl | rfl | rfl <;> (revert h; revert b; decide +kernel)
theorem tyX_of {K : PySem.W.Frag} {F H : Hp} {v : V} {a : D} {t : String} (s : Same F H) (r : RepT K F H v a) (e : tyN a = some t) : TyX K H v (.type t) := by
  cases a with
  | non => cases e; obtain rfl := r.non; exact .base .non
  | bl b => cases e; obtain rfl := r.bl; exact .base (.bl b)
  | int i => cases e; obtain rfl := r.int; exact .base (.int i)
  | str x => cases e; obtain rfl := r.str; exact .base (.str x)
  | tup ds =>
    cases e
    obtain ⟨p, xs, rfl, q, _⟩ := r.tup s
    rcases q with (q | ⟨o, q⟩) | ⟨o, its, n, q, c, _⟩
    · exact .base (.tup q)
    · exact .fTuple q
    · exact .kTuple q c
  | lst ds => cases e; obtain ⟨p, xs, rfl, q, _⟩ := r.lst; exact .base (.lst q)
  | dic ks ds =>
    cases e
    obtain ⟨p, xs, rfl, q, _⟩ := r.dic
    rcases q with q | ⟨o, q⟩
    · exact .base (.dK q)
    · exact .fDict q
  | _ => cases e
theorem cs_isi {K : PySem.W.Frag} : CallS K (rIsi K) isiD := by
  intro F H vs as z Q s ra e q
  unfold isiD at e
  split at e
  · rename_i a n
    obtain ⟨v, w, rfl, r1, r2⟩ := rep2 ra
    have hw : w = .ty n := by cases (show Rep K F w (.ty n) from r2); rfl
    subst hw
    split at e
    · rename_i t ht
      cases hb : isB t n with
      | none => rw [hb] at e; cases e
      | some b =>
        rw [hb] at e; cases e
        exact ⟨v, .ty n, .type t, .type n, b, rfl, .ty n, tyX_of s r1 ht, kit_ty (isB_ok ht hb), vn_bl s q⟩
    · cases e
  · cases e
/-! ### set comprehensions of ints -/
/-! ### comprehensions, whatever they fill -/
def compA {α : Type} (own : List Nat) (tg : Val → SM) (tt : M Bool) (step : α → M α) : List D → α → M α
  | [], acc, ρ => .ok acc ρ
  | d :: ds, acc, ρ => match tg (.d d) ρ with
    | .nx ρ1 => match tt ρ1 with
      | .ok b ρ2 => if b = true then (match step acc ρ2 with
        | .ok acc' ρ3 => compA own tg tt step ds acc' (wipeD ρ3 own)
        | _ => .bad) else compA own tg tt step ds acc (wipeD ρ2 own)
      | _ => .bad
    | _ => .bad
def eGc {α : Type} (own : List Nat) (f : IM) (tg : Val → SM) (tt : M Bool) (step : α → M α) (a0 : α) : M α := fun ρ => (f ρ).bind fun src ρ1 =>
  if inB own ρ1 = true ∧ src.1.length < 16777216 then
    (match compA own tg tt step src.1 a0 (wipeD (lockS src.2 ρ1) own) with
    | .ok ys ρ2 => .ok ys (unlk src.2 ρ1 (backD (lockS src.2 ρ1) ρ2 own))
    | _ => .bad)
  else .bad
/-! ### dict comprehensions -/
def dcStep (kx vx : EM) (acc : List Key × List D) : M (List Key × List D) := fun ρ => (kx ρ).bind fun y ρ1 => (vx ρ1).bind fun z ρ2 => match y, z with
  | .d y, .d z => match keyD y with
    | some k => if acc.1.any (fun j => decide (j = k)) = true then .ok (acc.1, dSet acc.1 acc.2 k z) ρ2 else .ok (acc.1 ++ [k], acc.2 ++ [z]) ρ2
    | none => .bad
  | _, _ => .bad
def eDc (own : List Nat) (f : IM) (tg : Val → SM) (tt : M Bool) (kx vx : EM) : EM := fun ρ => (eGc own f tg tt (dcStep kx vx) ([], []) ρ).bind fun a ρ' => .ok (.fr (.dic a.1 a.2)) ρ'
/-! ### set comprehensions -/
def scStep (el : EM) (acc : List Int) : M (List Int) := fun ρ => (el ρ).bind fun y ρ1 => match y with
  | .d (.int k) => if acc.length + 1 < 4096 then .ok (acc ++ [k]) ρ1 else .bad
  | _ => .bad
def eSc (own : List Nat) (f : IM) (tg : Val → SM) (tt : M Bool) (el : EM) : M (List Int) := eGc own f tg tt (scStep el) []
/-- sorted({..}), len({..}) -/
def eSortSc (own : List Nat) (f : IM) (tg : Val → SM) (tt : M Bool) (el : EM) : EM := fun ρ => (eSc own f tg tt el ρ).bind fun ns ρ' => .ok (.fr (.lst ((sortSetI ns).map D.int))) ρ'
end DL
set_option maxHeartbeats 2000000
namespace PySem
open Sem (wp)
open AutoSeq1 (wpAny_loadPart')
set_option maxHeartbeats 1000000 in
theorem enumNew {v : Value} {o : Obj} {H : Heap → Prop} (B : Begins v o H) :
    Meets (Builtin.«enumerate.__new__» ⟨[.type "enumerate", v], []⟩) (fun _ R s => H s.heap ∧
      R (.ok (.ret (.ref (s.heap.push o).objs.size))) { s with heap := (s.heap.push o).push { cls := .type "enumerate", data := .fields #[.none, .bool false, .ref s.heap.objs.size, rawInt 0, .none, .none] } }) :=
  .of_wp fun prog w A R s h => by
    obtain ⟨hp, gs, dr, tk, os⟩ := s; obtain ⟨hH, hR⟩ := h
    have sub := sub_enumerate
    have begin : ∀ {A2 : Around} {E : Value → Shared → Prop} {Q : Value → Shared → Prop}, Q (.ref hp.objs.size) ⟨hp.push o, gs, dr, tk, os⟩ → wpAny (model prog w) A2 (pyIter v) Q E ⟨hp, gs, dr, tk, os⟩ :=
      fun q => B.iter prog w _ _ ⟨hp, gs, dr, tk, os⟩ _ hH q
    wp_walk using begin
    refine wpAny_stack_any fun st => wpAny_pure ?_
    split
    · rename_i c _ _ _ _ _
      cases (c == Value.type "enumerate")
      · wp_walk using begin
        exact ⟨_, rfl, hR⟩
      · wp_walk using begin
        exact ⟨_, rfl, hR⟩
    · wp_walk using begin
      exact ⟨_, rfl, hR⟩
theorem enumCall {prog : Program} {w : World} {A : Around} {E : Value → Shared → Prop} {s : Shared} {v : Value} {o : Obj} {H : Heap → Prop} {Q : Value → Shared → Prop} (B : Begins v o H) (hH : H s.heap)
    (k : ∀ h2, IsEnum h2 (s.heap.objs.size + 1) s.heap.objs.size 0 .none → h2.get? s.heap.objs.size = some o → (∀ b u, s.heap.get? b = some u → h2.get? b = some u) → Q (.ref (s.heap.objs.size + 1)) { s with heap := h2 }) :
    wpAny (model prog w) A (call (.type "enumerate") [v]) Q E s := by
  refine callType_new F.called_enumerate (by decide) (F.typeCall_enumerate_1 _) (F.newCall_enumerate_1 _) (fun obj => F.args_object_init_2 obj _) F.entry_enumerate_new (enumNew B) ⟨hH, ?_⟩
  have sz : (s.heap.push o).objs.size = s.heap.objs.size + 1 := Heap.size_push ..
  show _ ∧ _
  rw [sz]
  have new := Heap.get?_push_size (s.heap.push o) (o := { cls := .type "enumerate", data := .fields #[.none, .bool false, .ref s.heap.objs.size, rawInt 0, .none, .none] }) rfl
  rw [sz] at new
  exact ⟨⟨_, new, rfl⟩, k _ new (Heap.get?_push_of_some _ (Heap.get?_push_size _ B.free)) fun b u x => Heap.get?_push_of_some _ (Heap.get?_push_of_some _ x)⟩
theorem enumEndT {prog : Program} {w : World} {A : Around} {E : Value → Shared → Prop} {s : Shared} {e it t : Addr} {i : Nat} {c : Int} {items : Array Value} {old : Value} {Q : Option Value → Shared → Prop} (hA : A.in1.handled = none)
    (en : IsEnum s.heap e it c old) (ti : s.heap.IsTupleIter it t i) (tu : s.heap.IsTuple t items) (no : items[i]? = none) (q : ∀ h2, Heap.ExtBut it s.heap h2 → Q none { s with heap := h2 }) : wpAny (model prog w) A (pyNext (.ref e)) Q E s := by
  have ty : s.TypeIs (.ref e) "enumerate" := ⟨_, en, rfl⟩
  unfold pyNext
  refine wpAny_bind (wpAny_attempt (wpAny_callSpecial?_slot (name := Str.ofString "__next__") ty F.slot_enumerate_next (wpAny_call_entry F.slot_enumerate_next ty F.entry_enumerate_next ?_ (F.args_enumerate_next_1 _))))
  show wpAny _ _ (field (.ref e) 2 >>= _) _ _ _
  refine wpAny_bind (wpAny_field en rfl (x := .ref it) rfl (wpAny_bind (wpAny_nextOf_tuple_end hA ti tu no fun h2 x eb ⟨o, ho, cls⟩ => ?_)))
  exact wpAny_bind (wpAny_isInstance (T := "StopIteration") (b := true) ⟨o, ho, cls⟩ isSubtype_stop (wpAny_pure (q _ eb)))
end PySem
/-! DL20: enumerate, zip, what is walked in a dict. -/
namespace DL
open PySem PySem.Spec PyProof.Rows L2
variable [TabT]
/-- the tuple at a, each item in a new pair -/
def IteT (K : PySem.W.Frag) (a : Addr) : It :=
  ⟨fun i H => ∃ (xs : List V) (x : V), SqT K H a xs ∧ xs[i]? = some x, fun i H v H' => ∃ T x, v = .ref T ∧ H T = none ∧ H' = upd H T (.tup [.int (i : Nat), x]) ∧ ∀ xs, SqT K H a xs → xs[i]? = some x, fun i H => ∃ xs : List V, SqT K H a xs ∧ xs.length ≤ i⟩
theorem turn_enumT {P : Program} {w : World} {K : PySem.W.Frag} {elts : List Expr} {kk : Nat} {tpos : Pos} (a e it : Addr) (n1 : e ≠ it) (n2 : e ≠ a) (n3 : a ≠ it) :
    Turn P w K (.Tuple elts kk tpos) (IteT K a) [e, it] e (fun i h => (∃ old, IsEnum h e it ((i : Nat) : Int) old) ∧ h.IsTupleIter it a i) where
  mem := by simp
  obj := fun i h st b hb => by
    obtain ⟨⟨old, q⟩, o, ho, hc, hd⟩ := st
    rcases List.mem_cons.mp hb with z | z
    · subst z; exact ⟨_, q, fun v r => nomatch r⟩
    · rw [List.mem_singleton] at z; subst z; exact ⟨o, ho, fun v r => by rw [hd] at r; cases r⟩
  keep := fun i h h' st k => ⟨let ⟨old, q⟩ := st.1; ⟨old, k e (by simp) _ q⟩, st.2.at fun o q => k it (by simp) o q⟩
  item := by
    intro X hP hw hK hc i pins s σ H E I hf st hg
    subst hP hw hK
    obtain ⟨⟨old, he⟩, hit⟩ := st
    obtain ⟨xs, x, sx, ex⟩ := hg
    obtain ⟨us, rv, tu, _⟩ := I.tuple sx
    obtain ⟨u, hu, ru⟩ := rv.get ex
    have le : e < s.heap.objs.size := Heap.lt_size he
    have li : it < s.heap.objs.size := let ⟨_, q, _⟩ := hit; Heap.lt_size q
    have hA : X.A.in1.handled = none := I.ok.hd hc
    have lt : i < us.toArray.size := by
      have := (List.getElem?_eq_some_iff.mp hu).1
      simpa using this
    refine wpAny_pyNext_enum_itemD (Draws.tuple hA it a n3 us.toArray) he ⟨hit, tu⟩ lt n1 (by simp [n1, n2]) fun u2 h2 tk px out st2 hT hsz hk => ?_
    obtain rfl : u2 = u := by
      have z : us[i]? = some u2 := by simpa using px
      rw [hu] at z; exact (Option.some.inj z).symm
    refine ⟨_, rfl, wpAny_letOwnedTupleGo_enum (s := { s with heap := h2, toks := tk + 1 }) out fun h3 he3 sb => ?_⟩
    have new : ObjOk X.prog X.w (upd H s.heap.objs.size (.tup [.int (i : Nat), x])) h3 s.heap.objs.size (.tup [.int (i : Nat), x]) :=
      ⟨by show 2 ≤ sizeLine; decide, [.int i tk, u2], .cons ⟨_, rfl⟩ (.cons ru .nil), ⟨_, (sb.2 _ (Nat.ne_of_gt le)).trans hT, rfl, _, rfl⟩⟩
    have I2 : Inv X pins σ (upd H s.heap.objs.size (.tup [.int (i : Nat), x])) { s with heap := h3, toks := tk + 1 } :=
      I.turnedNew (ch := [e, it]) (fun b ob hb q => (sb.2 b (fun z => hb (by simp [z]))).trans (hk b ob (fun z => hb (by simp [z])) (fun z => hb (by simp [z])) q)) hf (Nat.le_refl _) new
    refine ⟨.ref s.heap.objs.size, _, I2, rfl, ⟨_, x, rfl, I.hok.fresh (Nat.le_refl _), rfl, fun ys hy => by rw [I.tuple_inj hy sx]; exact ex⟩, ⟨⟨u2, ?_⟩, st2.1.at fun o q => (sb.2 it (Ne.symm n1)).trans q⟩, fun b hb => ?_⟩
    · rw [show ((i + 1 : Nat) : Int) = (i : Int) + 1 from by omega]; exact he3
    · have lb : b < s.heap.objs.size := by
        rcases List.mem_cons.mp hb with z | z
        · rw [z]; exact le
        · rw [List.mem_singleton.mp z]; exact li
      rw [upd_ne (Nat.ne_of_lt lb)]
      exact (hf b hb).1
  done := by
    intro X hP hw hK hc i pins s σ H E I hf st hg
    subst hP hw hK
    obtain ⟨⟨old, he⟩, hit⟩ := st
    obtain ⟨xs, sx, hx⟩ := hg
    obtain ⟨us, rv, tu, _⟩ := I.tuple sx
    have hA : X.A.in1.handled = none := I.ok.hd hc
    obtain ⟨f0, f1, f2, f3, f4, f5⟩ := hf it (by simp)
    have hl := rv.length
    have hs : us.toArray.size ≤ i := by simp; omega
    exact enumEndT hA he hit tu (by rw [Array.getElem?_eq_none_iff]; exact hs) fun h2 eb => ⟨rfl, I.turned (t' := s.toks) (fun b o hb q => eb b o hb q) f0 f1 f3 f4 f5⟩
  self := fun A i s Q E st h => let ⟨_, q⟩ := st.1; wpAny_pyIter_enum q h
/-- enumerate over a list or a tuple -/
def iEnumA (K : PySem.W.Frag) (ta : TE) : TI := fun σ H R => ta σ H fun v H1 => ∃ a xs, [v] = [.ref a] ∧ ((SqL K H1 a xs ∧ R (Ite K a) H1) ∨ (SqT K H1 a xs ∧ R (IteT K a) H1))
theorem pi_enumA {X : Cx} {e : Expr} {te : TE} {p pos tpos : Pos} {elts : List Expr} {kk : Nat} (hg : Gl X "enumerate") (hm : X.mg "enumerate" = none) (he : PE X e te) (sa : starEach [e] X.env = [(false, eval e X.env)] := by rfl) :
    PI X (.Tuple elts kk tpos) (.Call (.Name "enumerate" p) [e] [] pos) (iEnumA X.K te) := ⟨fun pins s σ H R I h => by
  have ha := pa_cons he (pa_nil (X := X)) sa
  refine Call_ (ld_blt I hg hm boot_enumerate (PyProof.Rows.callWith_type1 (thn (ha.run pos pins s σ H (fun vs H1 => ∃ a xs, vs = [.ref a] ∧ ((SqL X.K H1 a xs ∧ R (Ite X.K a) H1) ∨ (SqT X.K H1 a xs ∧ R (IteT X.K a) H1))) I ?_) fun us s1 ⟨vs, H1, I1, rv, a, xs, ex, q⟩ => ?_) sa rfl))
  · exact h
  subst ex
  rw [Vals.ref1 rv]
  have two : ∀ b ∈ [s1.heap.objs.size + 1, s1.heap.objs.size], FpOk X pins H1 b := fun b hb => by
    have le : s1.heap.objs.size ≤ b := by
      rcases List.mem_cons.mp hb with z | z
      · rw [z]; exact Nat.le_add_right _ _
      · rw [List.mem_singleton.mp z]; exact Nat.le_refl _
    exact I1.fpOk le (I1.hok.fresh le)
  rcases q with ⟨sl, q⟩ | ⟨st, q⟩
  · obtain ⟨its, _, pl, _⟩ := I1.list sl
    refine call_enumerate_list pl.isList fun h2 en li _ keep => wpAny_pyIter_enum en ?_
    exact ⟨_, _, _, _, H1, rfl, I1.kept (t' := s1.toks) keep, turn_enum a (s1.heap.objs.size + 1) s1.heap.objs.size, ⟨⟨.none, en⟩, li, Nat.succ_ne_self _⟩, two, q⟩
  · obtain ⟨its, _, pt, _⟩ := I1.tuple st
    refine enumCall (begins_tuple a its.toArray) pt fun h2 en ob keep => wpAny_pyIter_enum en ?_
    have la : a < s1.heap.objs.size := pt.lt
    have d2 : (s1.heap.objs.size + 1 : Nat) ≠ a := Nat.ne_of_gt (Nat.lt_succ_of_lt la)
    exact ⟨_, _, _, _, H1, rfl, I1.kept (t' := s1.toks) keep, turn_enumT a (s1.heap.objs.size + 1) s1.heap.objs.size (Nat.succ_ne_self _) d2 (Nat.ne_of_lt la), ⟨⟨.none, en⟩, ⟨_, ob, rfl, rfl⟩⟩, two, q⟩⟩
/-! ### the sources -/
def keyToD : Key → D
  | .inl i => .int i
  | .inr x => .str x
/-- a sequence as it is walked: its object, what stays -/
def relQ (K : PySem.W.Frag) (σ : L2.St) : RelT V Src := fun _ F H ρ v src => (∀ i, src.2 = some i → ∃ c m, ρ[i]? = some (.ow c m)) ∧ ∃ a xs, v = .ref a ∧ RepL K F xs src.1 ∧
  ((∀ F' H', Same F' H' → PreI σ src.2 F H F' H' → SqL K H' a xs) ∨ (∀ F' H', Same F' H' → PreI σ src.2 F H F' H' → SqT K H' a xs))
section
variable {X : Cx} {W : WX} {tg e e2 : Expr} {f f2 : EM} {es : List Expr} {g : M (List Val)} {p pos : Pos}
/-- what is known of a sequence's value -/
theorem seq_val {K : PySem.W.Frag} {mg : Str → Option Value} {E : XK} {σ : L2.St} {ρ ρ1 : DEnv} {F H F1 H1 Hb : Hp} {x : Val} {v : V} {R : V → Hp → Prop} (s1 : SR K F1 H1 σ ρ1) (ev : Ev σ ρ F H σ ρ1 F1 H1) (r : VR K σ H F1 H1 ρ1 v x) (q : Out K mg E (relQ K σ) σ ρ F H (seqSrc x ρ1) R) : R v H1 := by
  have lst : ∀ {ds : List D} {F2 : Hp} {ρ2 : DEnv}, SR K F2 H1 σ ρ2 → Rep K F2 v (.lst ds) → relQ K σ H F2 H1 ρ2 v (ds, none) := fun {ds F2 ρ2} s r => by
    cases r with
    | lst e r => exact ⟨(fun _ z => by cases z), _, _, rfl, r, .inl fun F' H' s p => .of (s _ _ (p.1 _ _ e))⟩
  have tup : ∀ {ds : List D} {F2 : Hp} {ρ2 : DEnv}, SR K F2 H1 σ ρ2 → Rep K F2 v (.tup ds) → relQ K σ H F2 H1 ρ2 v (ds, none) := fun {ds F2 ρ2} s r => by
    cases r with
    | tup e r => exact ⟨(fun _ z => by cases z), _, _, rfl, r, .inr fun F' H' s p => (RdLe.of s).sqT ((RdLe.of p.1).sqT e)⟩
  cases x with
  | d x =>
    cases x with
    | lst ds => exact q v F1 H1 s1 ev (lst s1 r)
    | tup ds => exact q v F1 H1 s1 ev (tup s1 r)
    | _ => exact q.elim
  | fr c =>
    cases c with
    | dic ks vs => exact q.elim
    | lst ds =>
      obtain ⟨F2, d, e2, s2, ev2, r2⟩ := fz_ok s1 ev r rfl
      cases e2
      exact q v F2 H1 s2 ev2 (lst s2 r2)
  | sl i =>
    unfold seqSrc at q
    dsimp only at q
    have r1 : σ[i]? = some (some v) := r
    split at q
    · rename_i ds hs
      obtain ⟨ov, g1, u, g2, g3⟩ := s1.slot i _ hs
      rw [r1] at g1; cases g1; cases g2
      exact q v F1 H1 s1 ev (lst s1 g3)
    · rename_i ds hs
      obtain ⟨ov, g1, u, g2, g3⟩ := s1.slot i _ hs
      rw [r1] at g1; cases g1; cases g2
      exact q v F1 H1 s1 ev (tup s1 g3)
    · rename_i ds m hs
      obtain ⟨ov, g1, a, g2, g3, xs, g4, g5⟩ := s1.slot i _ hs
      rw [r1] at g1; cases g1; cases g2
      exact q _ F1 H1 s1 ev ⟨fun j z => by cases z; exact ⟨_, _, hs⟩, a, xs, rfl, g5, .inl fun F' H' s p => .of (p.2 i rfl a _ r1 g4)⟩
    · exact q.elim
def enumL (ds : List D) : List D := ds.zipIdx.map fun p => .tup [.int (p.2 : Nat), p.1]
def iEnu (f : EM) : IM := fun ρ => (f ρ).bind fun x ρ1 => (seqSrc x ρ1).bind fun src ρ2 => .ok (enumL src.1, src.2) ρ2
theorem pair_yld {K : PySem.W.Frag} {F H : Hp} {T : Addr} {x y : V} {d d2 : D} (s : Same F H) (n : H T = none) (r : Rep K F x d) (r2 : Rep K F y d2) : ∃ F', Gr F H F' (upd H T (.tup [x, y])) ∧ Rep K F' (.ref T) (.tup [d, d2]) := by
  have gr := Gr.froz (o := .tup [x, y]) s n
  exact ⟨_, gr, .tup (.inl (.inl upd_same)) (.cons (r.mono (.of gr.ext)) (.cons (r2.mono (.of gr.ext)) .nil))⟩
theorem enum_get {ds : List D} {i : Nat} {d : D} (h : ds[i]? = some d) : (enumL ds)[i]? = some (.tup [.int (i : Nat), d]) := by
  unfold enumL
  rw [List.getElem?_map, List.getElem?_zipIdx, h]
  simp
theorem enumL_len {ds : List D} : (enumL ds).length = ds.length := by unfold enumL; rw [List.length_map, List.length_zipIdx]
theorem di_enum {elts : List Expr} {kk : Nat} {tpos : Pos} (hg : Gl X "enumerate") (hm : X.mg "enumerate" = none) (he : DE X W e f) (sa : starEach [e] X.env = [(false, eval e X.env)] := by rfl) :
    DI X W (.Tuple elts kk tpos) (.Call (.Name "enumerate" p) [e] [] pos) (iEnu f) := pi_conseq (pi_enumA hg hm he sa) fun σ H R ⟨F, ρ, sr, q⟩ => by
  refine ⟨F, ρ, sr, (Out.bind (rel := relV X.K σ) q).mono fun v H1 ⟨x, F1, ρ1, e1, s1, ev1, r1, o1⟩ => ?_⟩
  refine seq_val (mg := X.mg) (E := fun c d H => W c d σ H) (R := fun v H1 => ∃ a xs, [v] = [V.ref a] ∧ ((SqL X.K H1 a xs ∧ R (Ite X.K a) H1) ∨ (SqT X.K H1 a xs ∧ R (IteT X.K a) H1))) (Hb := H) s1 ev1 r1 ?_
  refine (Out.bind (rel := relQ X.K σ) o1).mono fun v H2 ⟨src, F2, ρ2, e2, s2, ev2, ⟨hk, a, xs, ea, rl, hq⟩, o2⟩ => ?_
  subst ea
  have pre0 : PreI σ src.2 F2 H2 F2 H2 := ⟨Same.refl _, fun _ _ _ _ _ h => h⟩
  refine ⟨a, xs, rfl, ?_⟩
  rcases hq with hq | hq
  · refine .inl ⟨hq F2 H2 s2.sub pre0, o2 _ F2 H2 s2 ev2 ⟨⟨fun i F3 H3 hi s p => ?_, fun i y F3 H3 H4 hi s p hy => ?_, fun i F3 H3 hi s p => ?_⟩, hk⟩⟩
    · have hl : i < xs.length := by rw [rl.length, ← enumL_len]; exact hi
      exact ⟨xs, xs[i], hq F3 H3 s p, List.getElem?_eq_getElem hl⟩
    · obtain ⟨T, x, rfl, nT, rfl, hx⟩ := hy
      obtain ⟨d, h1, h2⟩ := rl.getV (hx xs (hq F3 H3 s p))
      obtain ⟨F4, gr, rp⟩ := pair_yld s nT (.int (i : Nat)) (h2.mono (.of p.1))
      exact ⟨_, F4, enum_get h1, gr, rp⟩
    · exact ⟨xs, hq F3 H3 s p, by rw [rl.length, ← enumL_len]; exact hi⟩
  · refine .inr ⟨hq F2 H2 s2.sub pre0, o2 _ F2 H2 s2 ev2 ⟨⟨fun i F3 H3 hi s p => ?_, fun i y F3 H3 H4 hi s p hy => ?_, fun i F3 H3 hi s p => ?_⟩, hk⟩⟩
    · have hl : i < xs.length := by rw [rl.length, ← enumL_len]; exact hi
      exact ⟨xs, xs[i], hq F3 H3 s p, List.getElem?_eq_getElem hl⟩
    · obtain ⟨T, x, rfl, nT, rfl, hx⟩ := hy
      obtain ⟨d, h1, h2⟩ := rl.getV (hx xs (hq F3 H3 s p))
      obtain ⟨F4, gr, rp⟩ := pair_yld s nT (.int (i : Nat)) (h2.mono (.of p.1))
      exact ⟨_, F4, enum_get h1, gr, rp⟩
    · exact ⟨xs, hq F3 H3 s p, by rw [rl.length, ← enumL_len]; exact hi⟩
/-! ### a dict's keys; whatever is walked -/
def dicSrc (x : Val) (ρ : DEnv) : R Src := (x.fzA ρ).bind fun y ρ1 => match y with
  | .d (.dic ks _) => .ok (ks.map keyToD, none) ρ1
  | _ => .bad
def isDic (ρ : DEnv) (x : Val) : Bool := match x.peek ρ with
  | some (.dic _ _) => true
  | _ => false
def anySrc (x : Val) (ρ : DEnv) : R Src := if isDic ρ x = true then dicSrc x ρ else seqSrc x ρ
def iAny (f : EM) : IM := fun ρ => (f ρ).bind anySrc
end
end DL
set_option maxHeartbeats 2000000
/-! DL21: statements that are not reached; more rules to read by. -/
namespace DL
open PySem PySem.Spec PyProof.Rows L2
variable [TabT]
section
variable {X : Cx} {W : WX}
/-- a statement that must not be reached -/
def sBad : SM := fun _ => .bad
theorem ds_bad {st : Stmt} : DS X W st sBad := ⟨fun pins s σ H D I ⟨F, ρ, sr, q⟩ => q.elim⟩
end
theorem CR_isi {X : Cx} : CallR X (.builtin "isinstance") (rIsi X.K) := call_isi
end DL
set_option maxHeartbeats 2000000
/-! DL22: reading dicts, sets, enumerate, slices, chains. -/
namespace DL
open PySem PySem.Spec PyProof.Rows L2
section
variable {ρ ρ' as : DEnv} {i : Nat} {x y : Val} {d a b : D} {c : Cont} {m : Md} {f g h : EM} {t u : M Bool} {l r : OM} {op op' : D → D → Option Val} {Q : Val → DEnv → Prop} {QB : Bool → DEnv → Prop} {QO : Option Int → DEnv → Prop} {QI : Src → DEnv → Prop} {X : Ex → DEnv → Prop} {P : Po}
/-! the slots written out anew behind a call, a comprehension -/
def PB (ρ : DEnv) (G : DEnv → Prop) : Prop := G ρ
theorem b_pb {G : DEnv → Prop} (e : ρ = ρ') (q : G ρ') : PB ρ G := by subst e; exact q
theorem b_callFP {Fm : FM} {xs : List Val} (h1 : argSlots ρ xs = some as) (h2 : lentOnce xs = true) (q : (Fm as).wp (fun x as' => PB (putBack ρ xs as') fun ρ1 => Q x ρ1) (fun x as' => X x (putBack ρ xs as'))) : (callF Fm xs ρ).wp Q X := b_callF h1 h2 q
/-! slices -/
theorem b_sl (q : (f ρ).wp (fun x ρ1 => (l ρ1).wp (fun lo ρ2 => (r ρ2).wp (fun hi ρ3 => (unV (fun d => sliceD d lo hi) x ρ3).wp Q X) X) X) X) : (eSl f l r ρ).wp Q X :=
  b_bind (R.wp_mono q (fun _ _ h => b_bind (R.wp_mono h (fun _ _ h => b_bind h) fun _ _ h => h)) fun _ _ h => h)
theorem b_oNone (q : QO none ρ) : (oNone ρ).wp QO X := q
def oV (x : Val) : OM := fun ρ1 => match x with
  | .d (.int k) => .ok (some k) ρ1
  | _ => .bad
theorem b_oSome (q : (f ρ).wp (fun x ρ1 => (oV x ρ1).wp QO X) X) : (oSome f ρ).wp QO X := b_bind (R.wp_mono q (fun x ρ1 h => by cases x <;> first | exact h | (rename_i d; cases d <;> exact h)) fun _ _ h => h)
theorem b_oV {k : Int} (q : QO (some k) ρ) : (oV (.d (.int k)) ρ).wp QO X := q
/-! is None -/
def isnV (x : Val) : EM := fun ρ1 => match x with
  | .sl _ => .bad
  | x => .ok (.d (.bl (isNonV x))) ρ1
def notnV (x : Val) : EM := fun ρ1 => match x with
  | .sl _ => .bad
  | x => .ok (.d (.bl (!isNonV x))) ρ1
theorem b_isN (q : (f ρ).wp (fun x ρ1 => (isnV x ρ1).wp Q X) X) : (eIsN f ρ).wp Q X := b_bind q
theorem b_notN (q : (f ρ).wp (fun x ρ1 => (notnV x ρ1).wp Q X) X) : (eNotN f ρ).wp Q X := b_bind q
theorem b_isnD (q : Q (.d (.bl (isNonV (.d d)))) ρ) : (isnV (.d d) ρ).wp Q X := q
theorem b_notnD (q : Q (.d (.bl !(isNonV (.d d)))) ρ) : (notnV (.d d) ρ).wp Q X := q
/-! chains -/
theorem b_chain (q : (f ρ).wp (fun x ρ1 => (g ρ1).wp (fun y ρ2 => (opV op x y ρ2).wp (fun z ρ3 => ∃ k, z = .d (.bl k) ∧ (k = true → (h ρ3).wp (fun w ρ4 => (opV op' y w ρ4).wp Q X) X) ∧ (k = false → Q (.d (.bl false)) ρ3)) X) X) X) : (eChain op op' f g h ρ).wp Q X :=
  b_bind (R.wp_mono q (fun x ρ1 h1 => b_bind (R.wp_mono h1 (fun y ρ2 h2 => b_bind (R.wp_mono h2 (fun z ρ3 h3 => by
    obtain ⟨k, rfl, h4, h5⟩ := h3
    cases k
    · exact h5 rfl
    · exact b_bind (h4 rfl)) fun _ _ h => h)) fun _ _ h => h)) fun _ _ h => h)
/-! dicts -/
def ikeys (ks : List Int) : List Key := ks.map Sum.inl
theorem dLook_map {v : Int} {g : Int → D} : ∀ {ks : List Int}, v ∈ ks → dLook (ikeys ks) (ks.map g) (.inl v) = some (g v)
  | [], hv => by simp at hv
  | k :: ks, hv => by
    show dLook (.inl k :: ikeys ks) (g k :: ks.map g) (.inl v) = _
    unfold dLook
    by_cases e : k = v
    · subst e; rw [if_pos rfl]
    · rw [if_neg (fun z => e (Sum.inl.inj z))]
      exact dLook_map (by
        rcases List.mem_cons.mp hv with z | z
        · exact absurd z.symm e
        · exact z)
theorem dLook_no {v : Int} {g : Int → D} : ∀ {ks : List Int}, v ∉ ks → dLook (ikeys ks) (ks.map g) (.inl v) = none
  | [], hv => rfl
  | k :: ks, hv => by
    show dLook (.inl k :: ikeys ks) (g k :: ks.map g) (.inl v) = _
    unfold dLook
    rw [if_neg (fun z => hv (by rw [Sum.inl.inj z]; exact List.mem_cons_self))]
    exact dLook_no fun z => hv (List.mem_cons_of_mem _ z)
theorem x_inD {v : Int} {ks : List Int} {g : Int → D} (h1 : x.peek ρ = some (.int v)) (h2 : y.peek ρ = some (.dic (ikeys ks) (ks.map g))) (q : Q (.d (.bl (decide (v ∈ ks)))) ρ) : (opV inD x y ρ).wp Q X :=
  b_opV (z := .d (.bl (decide (v ∈ ks)))) h1 h2 (by
    show some (Val.d (.bl (dLook (ikeys ks) (ks.map g) (.inl v)).isSome)) = _
    by_cases e : v ∈ ks
    · rw [dLook_map e]; simp [e]
    · rw [dLook_no e]; simp [e]) q
theorem x_ninD {v : Int} {ks : List Int} {g : Int → D} (h1 : x.peek ρ = some (.int v)) (h2 : y.peek ρ = some (.dic (ikeys ks) (ks.map g))) (q : Q (.d (.bl (!decide (v ∈ ks)))) ρ) : (opV ninD x y ρ).wp Q X :=
  b_opV (z := .d (.bl (!decide (v ∈ ks)))) h1 h2 (by
    show some (Val.d (.bl (!(dLook (ikeys ks) (ks.map g) (.inl v)).isSome))) = _
    by_cases e : v ∈ ks
    · rw [dLook_map e]; simp [e]
    · rw [dLook_no e]; simp [e]) q
/-! what is walked -/
theorem b_ienu (q : (f ρ).wp (fun x ρ1 => (seqSrc x ρ1).wp (fun src ρ2 => QI (enumL src.1, src.2) ρ2) X) X) : (iEnu f ρ).wp QI X := b_bind (R.wp_mono q (fun _ _ h => b_bind h) fun _ _ h => h)
theorem b_iany (q : (f ρ).wp (fun x ρ1 => (anySrc x ρ1).wp QI X) X) : (iAny f ρ).wp QI X := b_bind q
theorem b_anyDic {ks : List Key} {vs : List D} (e : x.peek ρ = some (.dic ks vs)) (e2 : x.fzA ρ = .ok (.d (.dic ks vs)) ρ') (q : QI (ks.map keyToD, none) ρ') : (anySrc x ρ).wp QI X := by
  unfold anySrc isDic
  rw [e]
  dsimp only
  rw [if_pos rfl]
  unfold dicSrc
  rw [e2]
  exact q
theorem b_anySeq (e : isDic ρ x = false) (q : (seqSrc x ρ).wp QI X) : (anySrc x ρ).wp QI X := by
  unfold anySrc
  rw [e, if_neg (by decide)]
  exact q
theorem keys_ints {ks : List Int} : (ikeys ks).map keyToD = ks.map D.int := by unfold ikeys; rw [List.map_map]; rfl
theorem b_seqT {ds : List D} (q : QI (ds, none) ρ) : (seqSrc (.d (.tup ds)) ρ).wp QI X := q
theorem b_seqL {ds : List D} (q : QI (ds, none) ρ) : (seqSrc (.d (.lst ds)) ρ).wp QI X := q
theorem b_seqF {ds : List D} (q : QI (ds, none) ρ) : (seqSrc (.fr (.lst ds)) ρ).wp QI X := q
theorem b_seqO {ds : List D} (e : ρ[i]? = some (.ow (.lst ds) m)) (q : QI (ds, some i) ρ) : (seqSrc (.sl i) ρ).wp QI X := by
  unfold seqSrc
  dsimp only
  rw [e]
  exact q
theorem s_gsCons {g : Val → SM} {h : List D → SM} {ds : List D} (q : (g (.d d) ρ).wp { P with nx := fun ρ1 => (h ds ρ1).wp P }) : (gsCons g h (d :: ds) ρ).wp P := by
  show ((g (.d d) ρ).thenS (h ds)).wp P
  cases e : g (.d d) ρ <;> rw [e] at q <;> exact q
theorem s_gsNil (q : P.nx ρ) : (gsNil [] ρ).wp P := q
theorem s_tupG {n : Nat} {h : List D → SM} {ds : List D} (e : x.peek ρ = some (.tup ds)) (hl : ds.length = n) (q : (h ds ρ).wp P) : (tupG n h x ρ).wp P := by
  unfold tupG
  rw [e]
  dsimp only
  rw [if_pos hl]
  exact q
/-! comprehensions, whatever they fill -/
theorem b_gc {α : Type} {own : List Nat} {fi : IM} {tg : Val → SM} {tt : M Bool} {st : α → M α} {a0 : α} {QA : α → DEnv → Prop} (q : (fi ρ).wp (fun src ρ1 => inB own ρ1 = true ∧ src.1.length < 16777216 ∧ (compA own tg tt st src.1 a0 (wipeD (lockS src.2 ρ1) own)).wp (fun ys ρ2 => QA ys (unlk src.2 ρ1 (backD (lockS src.2 ρ1) ρ2 own))) fun _ _ => False) X) : (eGc own fi tg tt st a0 ρ).wp QA X := by
  refine b_bind (R.wp_mono q (fun src ρ1 h => ?_) fun _ _ h => h)
  obtain ⟨h1, h2, h3⟩ := h
  rw [if_pos ⟨h1, h2⟩]
  cases e : compA own tg tt st src.1 a0 (wipeD (lockS src.2 ρ1) own) with
  | ok ys ρ2 => rw [e] at h3; exact h3
  | ex x ρ2 => rw [e] at h3; exact h3.elim
  | bad => rw [e] at h3; exact h3.elim
/-- {int of d for d in ds}, sorted -/
theorem b_sortSc {own : List Nat} {fi : IM} {tg : Val → SM} {tt : M Bool} {el : EM} (q : (fi ρ).wp (fun src ρ1 => inB own ρ1 = true ∧ src.1.length < 16777216 ∧ (compA own tg tt (scStep el) src.1 [] (wipeD (lockS src.2 ρ1) own)).wp (fun ns ρ2 => Q (.fr (.lst ((sortSetI ns).map D.int))) (unlk src.2 ρ1 (backD (lockS src.2 ρ1) ρ2 own))) fun _ _ => False) X) : (eSortSc own fi tg tt el ρ).wp Q X := b_bind (b_gc q)
theorem b_dc {own : List Nat} {fi : IM} {tg : Val → SM} {tt : M Bool} {kx vx : EM} (q : (fi ρ).wp (fun src ρ1 => inB own ρ1 = true ∧ src.1.length < 16777216 ∧ (compA own tg tt (dcStep kx vx) src.1 ([], []) (wipeD (lockS src.2 ρ1) own)).wp (fun a ρ2 => Q (.fr (.dic a.1 a.2)) (unlk src.2 ρ1 (backD (lockS src.2 ρ1) ρ2 own))) fun _ _ => False) X) : (eDc own fi tg tt kx vx ρ).wp Q X := b_bind (b_gc q)
theorem b_dcStep {kx vx : EM} {acc : List Key × List D} {QA : List Key × List D → DEnv → Prop} (q : (kx ρ).wp (fun y ρ1 => ∃ k, y = .d (.int k) ∧ (vx ρ1).wp (fun z ρ2 => ∃ d, z = .d d ∧ QA (if acc.1.any (fun j => decide (j = (Sum.inl k : Key))) = true then (acc.1, dSet acc.1 acc.2 (.inl k) d) else (acc.1 ++ [.inl k], acc.2 ++ [d])) ρ2) X) X) : (dcStep kx vx acc ρ).wp QA X := b_bind (R.wp_mono q (fun y ρ1 h => by
  obtain ⟨k, rfl, h⟩ := h
  refine b_bind (R.wp_mono h (fun z ρ2 h => ?_) fun _ _ h => h)
  obtain ⟨d, rfl, h⟩ := h
  show R.wp (if _ then _ else _) QA X
  split
  · rename_i e; rw [if_pos e] at h; exact h
  · rename_i e; rw [if_neg e] at h; exact h) fun _ _ h => h)
/-- .. over what a typed list stands for -/
theorem comp_map {β : Type} {own : List Nat} {tg : Val → SM} {tt : M Bool} {el : EM} {QD : List D → DEnv → Prop} {XD : Ex → DEnv → Prop} {bs : List β} {dd : β → D} (p : β → Bool) (g : β → D)
    (h : ∀ b ∈ bs, (tg (.d (dd b)) ρ).wp { nx := fun ρ1 => (tt ρ1).wp (fun k ρ2 => k = p b ∧ (k = false → wipeD ρ2 own = ρ) ∧ (k = true → (el ρ2).wp (fun y ρ3 => y = .d (g b) ∧ wipeD ρ3 own = ρ) fun _ _ => False)) fun _ _ => False, rt := fun _ _ => False })
    (q : QD ((bs.filter p).map g) ρ) : (compD own tg tt el (bs.map dd) [] ρ).wp QD XD := by
  refine comp_inv (fun k acc ρ' => ρ' = ρ ∧ acc = ((bs.take k).filter p).map g) (bs.map dd) 0 [] ρ ⟨rfl, rfl⟩ (fun j d acc ρ' hj hI => ?_) fun acc ρ' hI => ?_
  · obtain ⟨rfl, rfl⟩ := hI
    rw [List.getElem?_map] at hj
    obtain ⟨b, hb, rfl⟩ := Option.map_eq_some_iff.mp hj
    have tk : bs.take (0 + j + 1) = bs.take (0 + j) ++ [b] := by rw [Nat.zero_add, List.take_add_one, hb]; rfl
    have h1 := h b (List.mem_of_getElem? hb)
    cases e1 : tg (.d (dd b)) ρ' with
    | nx ρ1 =>
      rw [e1] at h1
      refine R.wp_mono (Q' := _) h1 (fun b ρ2 h2 => ?_) fun _ _ h => h
      obtain ⟨hb, h3, h4⟩ := h2
      refine ⟨fun hf => ⟨h3 hf, ?_⟩, fun ht => R.wp_mono (h4 ht) (fun y ρ3 h5 => ?_) fun _ _ h => h⟩
      · rw [tk, List.filter_append]
        subst hf
        simp [hb.symm]
      · obtain ⟨rfl, e⟩ := h5
        refine ⟨_, rfl, e, ?_⟩
        rw [tk, List.filter_append]
        subst ht
        simp [hb.symm]
    | rt x ρ1 => rw [e1] at h1; exact h1.elim
    | bk ρ1 => rw [e1] at h1; exact h1.elim
    | ct ρ1 => rw [e1] at h1; exact h1.elim
    | ex x ρ1 => rw [e1] at h1; exact h1.elim
    | bad => rw [e1] at h1; exact h1.elim
  · obtain ⟨rfl, rfl⟩ := hI
    rw [Nat.zero_add, List.length_map, List.take_length]
    exact q
theorem bls_map : ∀ (bs : List Bool), blsD (bs.map D.bl) = some bs
  | [] => rfl
  | b :: bs => by
    show (blsD (bs.map D.bl)).map _ = _
    rw [bls_map bs]
    rfl
def SelK (idx : List Nat) (xs : List Val) (G : List Val → Prop) : Prop := ∃ zs, selL idx xs = some zs ∧ G zs
theorem b_selK {idx : List Nat} {xs zs : List Val} {G : List Val → Prop} (e : selL idx xs = some zs) (q : G zs) : SelK idx xs G := ⟨zs, e, q⟩
theorem b_callK {idx : List Nat} {Fm : FM} {gl gk : M (List Val)} (q : (gl ρ).wp (fun xs ρ1 => (gk ρ1).wp (fun ys ρ2 => SelK idx (xs ++ ys) fun zs => (callF Fm zs ρ2).wp Q X) X) X) : (eCallK idx Fm gl gk ρ).wp Q X := by
  refine b_bind (R.wp_mono q (fun xs ρ1 h => b_bind (R.wp_mono h (fun ys ρ2 h => ?_) fun _ _ h => h)) fun _ _ h => h)
  obtain ⟨zs, e, h⟩ := h
  rw [e]
  exact h
/-! truth values in the middle of something -/
def BlK (x : Val) (G : Bool → Prop) : Prop := ∃ k, x = .d (.bl k) ∧ G k
theorem b_blK {k : Bool} {G : Bool → Prop} (q : G k) : BlK (.d (.bl k)) G := ⟨k, rfl, q⟩
def DtK (x : Val) (G : D → Prop) : Prop := ∃ d, x = .d d ∧ G d
theorem b_dtK {d : D} {G : D → Prop} (q : G d) : DtK (.d d) G := ⟨d, rfl, q⟩
def IntK (x : Val) (G : Int → Prop) : Prop := ∃ k, x = .d (.int k) ∧ G k
theorem b_intK {k : Int} {G : Int → Prop} (q : G k) : IntK (.d (.int k)) G := ⟨k, rfl, q⟩
/-- the two ways of a test -/
def Way (k : Bool) (A B : Prop) : Prop := (k = true → A) ∧ (k = false → B)
theorem way_t {k : Bool} {A B : Prop} (e : k = true) (q : A) : Way k A B := ⟨fun _ => q, fun h => by rw [e] at h; cases h⟩
theorem way_f {k : Bool} {A B : Prop} (e : k = false) (q : B) : Way k A B := ⟨fun h => (by rw [e] at h; cases h), fun _ => q⟩
theorem b_eAndK (q : (f ρ).wp (fun x ρ1 => BlK x fun k => Way k ((g ρ1).wp Q X) (Q (.d (.bl false)) ρ1)) X) : (eAnd f g ρ).wp Q X := b_eAnd (R.wp_mono q (fun _ _ ⟨k, e, h⟩ => ⟨k, e, h.1, h.2⟩) fun _ _ h => h)
theorem b_eOrK (q : (f ρ).wp (fun x ρ1 => BlK x fun k => Way k (Q (.d (.bl true)) ρ1) ((g ρ1).wp Q X)) X) : (eOr f g ρ).wp Q X := b_eOr (R.wp_mono q (fun _ _ ⟨k, e, h⟩ => ⟨k, e, h.1, h.2⟩) fun _ _ h => h)
theorem b_eNotK (q : (f ρ).wp (fun x ρ1 => BlK x fun k => Q (.d (.bl !k)) ρ1) X) : (eNot f ρ).wp Q X := b_eNot q
theorem b_chainK (q : (f ρ).wp (fun x ρ1 => (g ρ1).wp (fun y ρ2 => (opV op x y ρ2).wp (fun z ρ3 => BlK z fun k => Way k ((h ρ3).wp (fun w ρ4 => (opV op' y w ρ4).wp Q X) X) (Q (.d (.bl false)) ρ3)) X) X) X) : (eChain op op' f g h ρ).wp Q X := by
  refine b_chain (R.wp_mono q (fun x ρ1 h1 => R.wp_mono h1 (fun y ρ2 h2 => R.wp_mono h2 (fun z ρ3 h3 => ?_) fun _ _ h => h) fun _ _ h => h) fun _ _ h => h)
  obtain ⟨k, e, h4⟩ := h3
  exact ⟨k, e, h4.1, h4.2⟩
theorem b_andW (q : (t ρ).wp (fun k ρ1 => Way k ((u ρ1).wp QB X) (QB false ρ1)) X) : (tAndM t u ρ).wp QB X := b_and q
theorem b_orW (q : (t ρ).wp (fun k ρ1 => Way k (QB true ρ1) ((u ρ1).wp QB X)) X) : (tOrM t u ρ).wp QB X := b_or q
theorem b_eIfW (q : (t ρ).wp (fun k ρ1 => Way k ((f ρ1).wp Q X) ((g ρ1).wp Q X)) X) : (eIf t f g ρ).wp Q X := b_eIf q
theorem s_ifW {s1 s2 : SM} (q : (t ρ).wp (fun k ρ1 => Way k ((s1 ρ1).wp P) ((s2 ρ1).wp P)) P.ex) : (sIf t s1 s2 ρ).wp P := s_if q
theorem b_dcStepK {kx vx : EM} {acc : List Key × List D} {QA : List Key × List D → DEnv → Prop} (q : (kx ρ).wp (fun y ρ1 => IntK y fun k => (vx ρ1).wp (fun z ρ2 => DtK z fun d => QA (if acc.1.any (fun j => decide (j = (Sum.inl k : Key))) = true then (acc.1, dSet acc.1 acc.2 (.inl k) d) else (acc.1 ++ [.inl k], acc.2 ++ [d])) ρ2) X) X) : (dcStep kx vx acc ρ).wp QA X := b_dcStep q
/-- what is walked by a comprehension: the slots are there, not too many items -/
def CompK (own : List Nat) (ρ : DEnv) (n : Nat) (G : Prop) : Prop := inB own ρ = true ∧ n < 16777216 ∧ G
theorem b_compK {own : List Nat} {n : Nat} {G : Prop} (h1 : inB own ρ = true) (h2 : n < 16777216) (q : G) : CompK own ρ n G := ⟨h1, h2, q⟩
theorem b_lcK {own : List Nat} {fi : IM} {tg : Val → SM} {tt : M Bool} {el : EM} (q : (fi ρ).wp (fun src ρ1 => CompK own ρ1 src.1.length ((compD own tg tt el src.1 [] (wipeD (lockS src.2 ρ1) own)).wp (fun ys ρ2 => PB (unlk src.2 ρ1 (backD (lockS src.2 ρ1) ρ2 own)) fun ρ3 => Q (.fr (.lst ys)) ρ3) fun _ _ => False)) X) : (eLc own fi tg tt el ρ).wp Q X := b_lc q
theorem b_sortScK {own : List Nat} {fi : IM} {tg : Val → SM} {tt : M Bool} {el : EM} (q : (fi ρ).wp (fun src ρ1 => CompK own ρ1 src.1.length ((compA own tg tt (scStep el) src.1 [] (wipeD (lockS src.2 ρ1) own)).wp (fun ns ρ2 => PB (unlk src.2 ρ1 (backD (lockS src.2 ρ1) ρ2 own)) fun ρ3 => Q (.fr (.lst ((sortSetI ns).map D.int))) ρ3) fun _ _ => False)) X) : (eSortSc own fi tg tt el ρ).wp Q X := b_sortSc q
theorem b_dcK {own : List Nat} {fi : IM} {tg : Val → SM} {tt : M Bool} {kx vx : EM} (q : (fi ρ).wp (fun src ρ1 => CompK own ρ1 src.1.length ((compA own tg tt (dcStep kx vx) src.1 ([], []) (wipeD (lockS src.2 ρ1) own)).wp (fun a ρ2 => PB (unlk src.2 ρ1 (backD (lockS src.2 ρ1) ρ2 own)) fun ρ3 => Q (.fr (.dic a.1 a.2)) ρ3) fun _ _ => False)) X) : (eDc own fi tg tt kx vx ρ).wp Q X := b_dc q
theorem x_lrg {i j : Int} (h1 : x.peek ρ = some (.int i)) (h2 : y.peek ρ = some (.int j)) (h : rgIn i j = true) (q : Q (.fr (.lst (rgL i j))) ρ) : (opV lrgD x y ρ).wp Q X :=
  b_opV h1 h2 (by unfold lrgD; exact if_pos h) q
end
end DL
set_option maxHeartbeats 2000000
/-! DL23: a dict comprehension put under a name; tests for None. -/
namespace DL
open PySem PySem.Spec PyProof.Rows L2
end DL
set_option maxHeartbeats 2000000
/-! DL24: repr of single values, an empty dict. -/
namespace DL
open PySem PySem.Spec PyProof.Rows L2
variable [TabT]
def reprX : List D → Option Val
  | [.bl b] => some (.d (.str (if b then "True" else "False")))
  | [.non] => some (.d (.str "None"))
  | [.str x] => if (reprText x).length ≤ sizeLine then some (.d (.str (reprText x))) else none
  | xs => reprD xs
def rReprX (K : PySem.W.Frag) : List V → Hp → VK → Prop := fun xs H Q => (∃ b, xs = [.bl b] ∧ Q (.str (if b then "True" else "False")) H) ∨ (xs = [.non] ∧ Q (.str "None") H) ∨ (∃ x, xs = [.str x] ∧ (reprText x).length ≤ sizeLine ∧ Q (.str (reprText x)) H) ∨
  (rReprD K xs H Q ∨ ∃ i, xs = [.int i] ∧ i.natAbs.log2 < 1920 ∧ Q (.str (toString i)) H)
theorem CR_reprX {X : Cx} (hG : X.A.guards = some []) (hu : X.A.units + 64 < cLine) : CallR X (.builtin "repr") (rReprX X.K) := by
  intro pins s σ H xs us Q I r h
  rcases h with ⟨b, rfl, q⟩ | ⟨rfl, q⟩ | ⟨x, rfl, hx, q⟩ | h
  · obtain ⟨u, rfl, ru⟩ := vals1 r
    cases (show u = Value.bool b from ru)
    exact PySem.P.repr_of_bool ⟨.str _, H, I.tok _, ⟨_, rfl⟩, q⟩
  · obtain ⟨u, rfl, ru⟩ := vals1 r
    cases (show u = Value.none from ru)
    exact PySem.P.repr_of_none ⟨.str _, H, I.tok _, ⟨_, rfl⟩, q⟩
  · obtain ⟨u, rfl, ru⟩ := vals1 r
    obtain ⟨t, rfl⟩ := (show ∃ t, u = Value.str x t from ru)
    exact PySem.P.repr_of_str ⟨.str _, H, I.tok _, ⟨_, rfl⟩, q⟩ hx
  · exact CR_repr hG hu pins s σ H xs us Q I r h
theorem cs_reprX {K : PySem.W.Frag} : CallS K (rReprX K) reprX := by
  intro F H vs as z Q s ra e q
  unfold reprX at e
  split at e
  · cases e
    obtain ⟨v, rfl, r⟩ := rep1 ra
    obtain rfl := r.bl
    exact .inl ⟨_, rfl, vn_str s q⟩
  · cases e
    obtain ⟨v, rfl, r⟩ := rep1 ra
    obtain rfl := r.non
    exact .inr (.inl ⟨rfl, vn_str s q⟩)
  · split at e
    · rename_i hx
      cases e
      obtain ⟨v, rfl, r⟩ := rep1 ra
      obtain rfl := r.str
      exact .inr (.inr (.inl ⟨_, rfl, hx, vn_str s q⟩))
    · cases e
  · exact .inr (.inr (.inr (cs_repr F H vs _ z Q s ra e q)))
section
variable {X : Cx} {W : WX} {pos : Pos}
def eNewD : EM := fun ρ => .ok (.fr (.dic [] [])) ρ
theorem b_newD {ρ : DEnv} {Q : Val → DEnv → Prop} {Xx : Ex → DEnv → Prop} (q : Q (.fr (.dic [] [])) ρ) : (eNewD ρ).wp Q Xx := q
end
end DL
set_option maxHeartbeats 1000000
/-! DL25: if and for within a generator's body; yield from a list. -/
namespace L2
open PySem PySem.Spec PyProof.Rows GenW
end L2
set_option maxHeartbeats 1000000
/-! DL26: yield from a list. -/
namespace L2
open PySem PySem.Spec PyProof.Rows GenW
end L2
set_option maxHeartbeats 1000000
/-! DL27: generators' bodies, read by functions of the slots and of what is out. -/
namespace DL
open PySem PySem.Spec PyProof.Rows L2
variable [TabT]
inductive GRS where
  | nx (ds : List D) (ρ : DEnv) | rt (ds : List D) (x : Val) (ρ : DEnv) | bk (ds : List D) (ρ : DEnv) | ct (ds : List D) (ρ : DEnv) | ex (x : Ex) (ρ : DEnv) | bad
abbrev GM := List D → DEnv → GRS
def R.bindG {α : Type} (r : R α) (g : α → DEnv → GRS) : GRS := match r with
  | .ok a ρ => g a ρ
  | .ex x ρ => .ex x ρ
  | .bad => .bad
def OutG (K : PySem.W.Frag) (mg : Str → Option Value) (W : WX) (σ : L2.St) (ρ : DEnv) (F H : Hp) (r : GRS) (D : GEnds) : Prop :=
  match r with
  | .nx ds ρ' => ∀ ys σ' F' H', SR K F' H' σ' ρ' → Ev σ ρ F H σ' ρ' F' H' → RepL K F' ys ds → D.nx ys σ' H'
  | .bk ds ρ' => ∀ ys σ' F' H', SR K F' H' σ' ρ' → Ev σ ρ F H σ' ρ' F' H' → RepL K F' ys ds → D.bk ys σ' H'
  | .ct ds ρ' => ∀ ys σ' F' H', SR K F' H' σ' ρ' → Ev σ ρ F H σ' ρ' F' H' → RepL K F' ys ds → D.ct ys σ' H'
  | .rt ds x ρ' => ∀ ys v σ' F' H', SR K F' H' σ' ρ' → Ev σ ρ F H σ' ρ' F' H' → RepL K F' ys ds → VR K σ' H F' H' ρ' v x → D.rt ys v H'
  | .ex x ρ' => ∀ cls dd σ' F' H', SR K F' H' σ' ρ' → Ev σ ρ F H σ' ρ' F' H' → XR K mg F' x cls dd → W cls dd σ' H'
  | .bad => False
section
variable {K : PySem.W.Frag} {mg : Str → Option Value} {W : WX} {σ σ1 : L2.St} {ρ ρ1 : DEnv} {F H F1 H1 : Hp}
theorem OutG.from {r : GRS} {D : GEnds} (h : OutG K mg W σ ρ F H r D) (ev : Ev σ ρ F H σ1 ρ1 F1 H1) : OutG K mg W σ1 ρ1 F1 H1 r D := by
  cases r with
  | nx ds ρ' => exact fun ys σ' F' H' s e => h ys σ' F' H' s (ev.trans e)
  | bk ds ρ' => exact fun ys σ' F' H' s e => h ys σ' F' H' s (ev.trans e)
  | ct ds ρ' => exact fun ys σ' F' H' s e => h ys σ' F' H' s (ev.trans e)
  | rt ds x ρ' => exact fun ys v σ' F' H' s e y r => h ys v σ' F' H' s (ev.trans e) y (r.base ev.dom)
  | ex x ρ' => exact fun c d σ' F' H' s e r => h c d σ' F' H' s (ev.trans e) r
  | bad => exact h
theorem Out.bindG {α β : Type} {rel : RelT β α} {r : R α} {g : α → DEnv → GRS} {D : GEnds} (h : OutG K mg W σ ρ F H (r.bindG g) D) :
    Out K mg (fun c d H => W c d σ H) rel σ ρ F H r (fun v H1 => ∃ x F1 ρ1, r = .ok x ρ1 ∧ SR K F1 H1 σ ρ1 ∧ Ev σ ρ F H σ ρ1 F1 H1 ∧ rel H F1 H1 ρ1 v x ∧ OutG K mg W σ ρ F H (g x ρ1) D) := by
  cases r with
  | ok x ρ' => exact fun v F' H' s e r => ⟨x, F', ρ', rfl, s, e, r, h⟩
  | ex x ρ' => exact fun c d F' H' s e r => h c d σ F' H' s e r
  | bad => exact h
end
section
variable {X : Cx} {W : WX} {e c : Expr} {f : EM} {t : M Bool} {st : Stmt} {sts sts' : List Stmt} {g h : GM} {pos yp : Pos}
/-- a statement that hands out nothing -/
def gPl (g : SM) : GM := fun ds ρ => match g ρ with
  | .nx ρ' => .nx ds ρ'
  | .rt x ρ' => .rt ds x ρ'
  | .bk ρ' => .bk ds ρ'
  | .ct ρ' => .ct ds ρ'
  | .ex x ρ' => .ex x ρ'
  | .bad => .bad
def gSkip : GM := .nx
def gSeq (g h : GM) : GM := fun ds ρ => match g ds ρ with
  | .nx ds' ρ' => h ds' ρ'
  | r => r
def gIf (t : M Bool) (g h : GM) : GM := fun ds ρ => (t ρ).bindG fun b ρ1 => if b = true then g ds ρ1 else h ds ρ1
def gYield (f : EM) : GM := fun ds ρ => if ds.length < 16777216 then (fz f ρ).bindG fun x ρ1 => match x with
  | .d d => .nx (ds ++ [d]) ρ1
  | _ => .bad else .bad
/-- yield from a list that is new -/
def gFromL (f : EM) : GM := fun ds ρ => (f ρ).bindG fun x ρ1 => match x with
  | .fr (.lst es) => if ds.length + es.length ≤ 16777216 then .nx (ds ++ es) ρ1 else .bad
  | _ => .bad
/-! ### for -/
def unlkG (lk : Option Nat) (ρ0 : DEnv) : GRS → GRS
  | .nx ds ρ => .nx ds (unlk lk ρ0 ρ)
  | .bk ds ρ => .bk ds (unlk lk ρ0 ρ)
  | .ct ds ρ => .ct ds (unlk lk ρ0 ρ)
  | .rt _ _ _ => .bad
  | .ex x ρ => .ex x (unlk lk ρ0 ρ)
  | .bad => .bad
theorem OutG.lock {K : PySem.W.Frag} {mg : Str → Option Value} {σ : L2.St} {ρ : DEnv} {F H : Hp} {lk : Option Nat} {r : GRS} {D : GEnds} (sr : SR K F H σ ρ) (h : OutG K mg W σ ρ F H (unlkG lk ρ r) D) : OutG K mg W σ (lockS lk ρ) F H r D := by
  cases r with
  | nx ds ρ' => exact fun ys σ' F' H' s e => let ⟨s2, e2⟩ := unlk_ok sr s e; h ys σ' F' H' s2 e2
  | bk ds ρ' => exact fun ys σ' F' H' s e => let ⟨s2, e2⟩ := unlk_ok sr s e; h ys σ' F' H' s2 e2
  | ct ds ρ' => exact fun ys σ' F' H' s e => let ⟨s2, e2⟩ := unlk_ok sr s e; h ys σ' F' H' s2 e2
  | ex x ρ' => exact fun c d σ' F' H' s e r => let ⟨s2, e2⟩ := unlk_ok sr s e; h c d σ' F' H' s2 e2 r
  | bad => exact h
  | rt ds x ρ' => exact h.elim
def loopG (tg : Val → SM) (body : GM) : List D → GM
  | [], ys, ρ => .nx ys ρ
  | d :: ds, ys, ρ => match tg (.d d) ρ with
    | .nx ρ1 => match body ys ρ1 with
      | .nx ys2 ρ2 => loopG tg body ds ys2 ρ2
      | .ct ys2 ρ2 => loopG tg body ds ys2 ρ2
      | .bk ys2 ρ2 => .nx ys2 ρ2
      | r => r
    | _ => .bad
def gFor (f : IM) (tg : Val → SM) (body : GM) : GM := fun ys ρ => (f ρ).bindG fun src ρ1 => unlkG src.2 ρ1 (loopG tg body src.1 ys (lockS src.2 ρ1))
end
end DL
set_option maxHeartbeats 1000000
/-! DL28: generator defs, and list(g(..)). -/
namespace DL
open PySem PySem.Spec PyProof.Rows L2
variable [TabT]
def OutL (K : PySem.W.Frag) (σ : L2.St) (as : DEnv) (F H : Hp) (r : RF) (Q : List V → Hp → Prop) : Prop := match r with
  | .ret (.fr (.lst ds)) as' => ∀ ys F' H', SR K F' H' σ as' → Ev σ as F H σ as' F' H' → RepL K F' ys ds → Q ys H'
  | _ => False
def spL (K : PySem.W.Frag) (n : Nat) (Fm : FM) : SpG := fun vs H Q _ => ∃ F as, SR K F H (vs.map some) as ∧ as.length = n ∧ OutL K (vs.map some) as F H (Fm as) Q
structure GenFn (P : Program) (w : World) (K : PySem.W.Frag) (mg : Str → Option Value) (base : Heap) (k : Nat) (f : Addr) (fd : FuncData) (ps : List Str) (Fm : FM) : Prop where
  fn : L2.GFn P w K mg base k f fd ps (spL K ps.length Fm)
  lst : ∀ as, (∃ ds as', Fm as = .ret (.fr (.lst ds)) as') ∨ Fm as = .bad
theorem GenFn.mono {P : Program} {w : World} {K : PySem.W.Frag} {mg : Str → Option Value} {base : Heap} {j k : Nat} {f : Addr} {fd : FuncData} {ps : List Str} {Fm : FM} (G : GenFn P w K mg base j f fd ps Fm) (h : j ≤ k) : GenFn P w K mg base k f fd ps Fm := by
  refine ⟨⟨G.fn.len, fun A outer s H args us vs Q E hr e0 hb r hsp => codeAny_mono (G.fn.run A outer s H args us vs Q E (hr.mono h) e0 hb r hsp) fun r s' hq => ?_⟩, G.lst⟩
  cases r with
  | error e => exact hq
  | ok fl =>
    cases fl with
    | next => exact hq
    | brk => exact hq
    | cont => exact hq
    | ret u =>
      obtain ⟨a, g, c, h1, h2, h3, h4, h5, h6, h7, h8, h9, hS⟩ := hq
      exact ⟨a, g, c, h1, h2, h3, h4, h5, h6, h7, h8, h9, fun A S s2 hr => hS A S s2 (hr.mono h)⟩
end DL
set_option maxHeartbeats 1000000
/-! DL29: d.get(k, x), d.get(k). -/
namespace DL
open PySem PySem.Spec PyProof.Rows L2
variable [TabT]
def isDicB (x : Option D) : Bool := match x with
  | some (.dic _ _) => true
  | _ => false
def getV (x y z : Val) : EM := fun ρ => match x.peek ρ, y.peek ρ, z with
  | some (.dic ks vs), some k, .d d => match keyD k with
    | some j => .ok (.d ((dLook ks vs j).getD d)) ρ
    | none => .bad
  | _, _, _ => .bad
def eGet2 (f g h : EM) : EM := fun ρ => (f ρ).bind fun x ρ1 => if isDicB (x.peek ρ1) = true then (g ρ1).bind fun y ρ2 => (fz h ρ2).bind fun z ρ3 => getV x y z ρ3 else .bad
end DL
set_option maxHeartbeats 1000000
/-! DL30: dict(pairs). -/
namespace DL
open PySem PySem.Spec PyProof.Rows L2
variable [TabT]
def stepP (acc : List Key × List D) (kd : Key × D) : List Key × List D := match dPut acc.1 acc.2 kd.1 kd.2 with
  | .dic ks ds => (ks, ds)
  | .lst _ => acc
def mergeD (acc : List Key × List D) (kds : List (Key × D)) : List Key × List D := kds.foldl stepP acc
end DL
set_option maxHeartbeats 1000000
/-! DL31: xs[a::k] of a list. -/
namespace L2
open PySem PySem.Spec PyProof.Rows
def stepIx (lo st : Option Int) (n : Nat) : List Nat := sliceRange (sliceBounds lo none st n).1 (sliceBounds lo none st n).2.1 (sliceBounds lo none st n).2.2
def stepL {α : Type} (xs : List α) (lo st : Option Int) : List α := (stepIx lo st xs.length).filterMap (xs[·]?)
end L2
namespace DL
open PySem PySem.Spec PyProof.Rows L2
variable [TabT]
theorem RepL.step {K : PySem.W.Frag} {F : Hp} {vs : List V} {ds : List D} (r : RepL K F vs ds) (lo st : Option Int) : RepL K F (stepL vs lo st) (stepL ds lo st) := by
  unfold stepL
  rw [r.length]
  generalize stepIx lo st ds.length = ix
  induction ix with
  | nil => exact .nil
  | cons i ix ih =>
    rw [List.filterMap_cons, List.filterMap_cons]
    cases h : ds[i]? with
    | none =>
      have : vs[i]? = none := by
        have := List.getElem?_eq_none_iff.mp h
        exact List.getElem?_eq_none_iff.mpr (by rw [r.length]; exact this)
      rw [this]; exact ih
    | some d =>
      obtain ⟨v, hv, rv⟩ := r.get h
      rw [hv]; exact .cons rv ih
end DL
set_option maxHeartbeats 1000000
/-! DL32: zip of two lists or two tuples. -/
namespace DL
open PySem PySem.Spec PyProof.Rows L2 RZ
variable [TabT]
def zipL (ds es : List D) : List D := (ds.zip es).map fun p => .tup [p.1, p.2]
def zpSrc (xs : List Val) : M Src := fun ρ => match xs with
  | [.d (.lst ds), .d (.lst es)] => .ok (zipL ds es, none) ρ
  | [.d (.tup ds), .d (.tup es)] => .ok (zipL ds es, none) ρ
  | _ => .bad
def iZp (f g : EM) : IM := fun ρ => ((aCons (fz f) (aCons (fz g) aNil)) ρ).bind zpSrc
end DL
set_option maxHeartbeats 1000000
/-! DL33: list(g(k=..)) of a generator def. -/
namespace DL
open PySem PySem.Spec PyProof.Rows L2
end DL
set_option maxHeartbeats 1000000
/-! DL34: is, is not between booleans. -/
namespace DL
open PySem PySem.Spec PyProof.Rows L2
variable [TabT]
def isBD : D → D → Option Val
  | .bl a, .bl b => some (.d (.bl (decide (a = b))))
  | _, _ => none
def isnotBD : D → D → Option Val
  | .bl a, .bl b => some (.d (.bl (!decide (a = b))))
  | _, _ => none
end DL
set_option maxHeartbeats 1000000
/-! DL35: {k: v, ..} of written keys and values. -/
namespace DL
open PySem PySem.Spec PyProof.Rows L2
variable [TabT]
def eDispC (kds : List (Key × D)) : EM := fun ρ => .ok (.fr (.dic (mergeD ([], []) kds).1 (mergeD ([], []) kds).2)) ρ
/-- keys and values, as they stand in the text -/
inductive KVC : List (Key × V) → List (Key × D) → Prop
  | nil : KVC [] []
  | int {k : Key} {i : Int} {a : List (Key × V)} {b : List (Key × D)} : KVC a b → KVC ((k, .int i) :: a) ((k, .int i) :: b)
  | str {k : Key} {i : Str} {a : List (Key × V)} {b : List (Key × D)} : KVC a b → KVC ((k, .str i) :: a) ((k, .str i) :: b)
theorem KVC.rep {K : PySem.W.Frag} {F : Hp} : ∀ {a : List (Key × V)} {b : List (Key × D)}, KVC a b → Paired (fun (a : Key × V) (b : Key × D) => a.1 = b.1 ∧ Rep K F a.2 b.2) a b
  | _, _, .nil => .nil
  | _, _, .int h => .cons ⟨rfl, .int _⟩ h.rep
  | _, _, .str h => .cons ⟨rfl, .str _⟩ h.rep
end DL
set_option maxHeartbeats 1000000
/-! DL36: range with a step. -/
namespace DL
open PySem PySem.Spec PyProof.Rows L2
end DL
set_option maxHeartbeats 1000000
/-! DL37: T.get(k, x), T a dict of the module with text keys and int values. -/
namespace L2
open PySem PySem.Spec PyProof.Rows
def tabGet (ks : List (Str × Int)) (z : Str) : Option Int := (ks.find? fun k => k.1 == z).map (·.2)
end L2
namespace DL
open PySem PySem.Spec PyProof.Rows L2
variable [TabT]
def tabD (ks : List (Str × Int)) (s : Str) (d : D) : D := match tabGet ks s with
  | some i => .int i
  | none => d
def getKV (ks : List (Str × Int)) (y z : Val) : EM := fun ρ => match y.peek ρ, z with
  | some (.str s), .d d => .ok (.d (tabD ks s d)) ρ
  | _, _ => .bad
def eGetK (ks : List (Str × Int)) (g h : EM) : EM := fun ρ => (g ρ).bind fun y ρ1 => (fz h ρ1).bind fun z ρ2 => getKV ks y z ρ2
end DL
set_option maxHeartbeats 1000000
/-! DL38: reading rules for generators' bodies and for DL29..DL37. -/
namespace DL
open PySem PySem.Spec PyProof.Rows L2
structure PoG where
  nx : List D → DEnv → Prop
  bk : List D → DEnv → Prop := fun _ _ => False
  ct : List D → DEnv → Prop := fun _ _ => False
def GRS.wp (r : GRS) (P : PoG) : Prop := match r with
  | .nx ds ρ => P.nx ds ρ
  | .bk ds ρ => P.bk ds ρ
  | .ct ds ρ => P.ct ds ρ
  | _ => False
def NoX : Ex → DEnv → Prop := fun _ _ => False
section
variable {P : PoG} {ρ ρ1 : DEnv} {ds : List D} {g h : GM} {f : EM} {t : M Bool} {α : Type}
theorem g_bind {r : R α} {k : α → DEnv → GRS} (q : r.wp (fun a ρ => (k a ρ).wp P) NoX) : (r.bindG k).wp P := by
  cases r with
  | ok a ρ => exact q
  | ex x ρ => exact q.elim
  | bad => exact q.elim
theorem g_seq (q : (g ds ρ).wp { P with nx := fun ds1 ρ1 => (h ds1 ρ1).wp P }) : (gSeq g h ds ρ).wp P := by
  unfold gSeq
  cases e : g ds ρ with
  | nx ds1 ρ1 => rw [e] at q; exact q
  | bk ds1 ρ1 => rw [e] at q; exact q
  | ct ds1 ρ1 => rw [e] at q; exact q
  | rt ds1 x ρ1 => rw [e] at q; exact q.elim
  | ex x ρ1 => rw [e] at q; exact q.elim
  | bad => rw [e] at q; exact q.elim
theorem g_skip (q : P.nx ds ρ) : (gSkip ds ρ).wp P := q
theorem g_pl {s : SM} (q : (s ρ).wp { nx := fun ρ1 => P.nx ds ρ1, rt := fun _ _ => False, bk := fun ρ1 => P.bk ds ρ1, ct := fun ρ1 => P.ct ds ρ1 }) : (gPl s ds ρ).wp P := by
  unfold gPl
  cases e : s ρ with
  | nx ρ1 => rw [e] at q; exact q
  | bk ρ1 => rw [e] at q; exact q
  | ct ρ1 => rw [e] at q; exact q
  | rt x ρ1 => rw [e] at q; exact q.elim
  | ex x ρ1 => rw [e] at q; exact q.elim
  | bad => rw [e] at q; exact q.elim
theorem g_if (q : (t ρ).wp (fun k ρ1 => Way k ((g ds ρ1).wp P) ((h ds ρ1).wp P)) NoX) : (gIf t g h ds ρ).wp P := g_bind (R.wp_mono q (fun k ρ1 w => by
  cases k with
  | true => exact w.1 rfl
  | false => exact w.2 rfl) fun _ _ z => z)
theorem g_yield (hl : ds.length < 16777216) (q : (fz f ρ).wp (fun x ρ1 => DtK x fun d => P.nx (ds ++ [d]) ρ1) NoX) : (gYield f ds ρ).wp P := by
  unfold gYield
  rw [if_pos hl]
  exact g_bind (R.wp_mono q (fun x ρ1 ⟨d, e, z⟩ => by subst e; exact z) fun _ _ z => z)
theorem g_fromL (q : (f ρ).wp (fun x ρ1 => ∃ es, x = .fr (.lst es) ∧ ds.length + es.length ≤ 16777216 ∧ P.nx (ds ++ es) ρ1) NoX) : (gFromL f ds ρ).wp P :=
  g_bind (R.wp_mono q (fun x ρ1 ⟨es, e, hl, z⟩ => by subst e; dsimp only; rw [if_pos hl]; exact z) fun _ _ z => z)
theorem g_for {fi : IM} {tg : Val → SM} {body : GM} (q : (fi ρ).wp (fun src ρ1 => (unlkG src.2 ρ1 (loopG tg body src.1 ds (lockS src.2 ρ1))).wp P) NoX) : (gFor fi tg body ds ρ).wp P := g_bind q
end
section
variable {ρ : DEnv} {x y z : Val} {d : D} {f g h : EM} {Q : Val → DEnv → Prop} {QI : Src → DEnv → Prop} {X : Ex → DEnv → Prop}
theorem b_get2 (q : (f ρ).wp (fun x ρ1 => isDicB (x.peek ρ1) = true ∧ (g ρ1).wp (fun y ρ2 => (fz h ρ2).wp (fun z ρ3 => (getV x y z ρ3).wp Q X) X) X) X) : (eGet2 f g h ρ).wp Q X :=
  b_bind (R.wp_mono q (fun x ρ1 ⟨e, k⟩ => by rw [if_pos e]; exact b_bind (R.wp_mono k (fun _ _ k => b_bind k) fun _ _ z => z)) fun _ _ z => z)
theorem x_getV {v : Int} {ks : List Int} {r : Int → D} (h1 : x.peek ρ = some (.dic (ikeys ks) (ks.map r))) (h2 : y.peek ρ = some (.int v)) (q : Q (.d (if v ∈ ks then r v else d)) ρ) : (getV x y (.d d) ρ).wp Q X := by
  unfold getV
  rw [h1, h2]
  show (R.ok (Val.d ((dLook (ikeys ks) (ks.map r) (.inl v)).getD d)) ρ).wp Q X
  by_cases e : v ∈ ks
  · rw [dLook_map e]; rw [if_pos e] at q; exact q
  · rw [dLook_no e]; rw [if_neg e] at q; exact q
theorem b_getK {ks : List (Str × Int)} (q : (g ρ).wp (fun y ρ2 => (fz h ρ2).wp (fun z ρ3 => (getKV ks y z ρ3).wp Q X) X) X) : (eGetK ks g h ρ).wp Q X := b_bind (R.wp_mono q (fun _ _ k => b_bind k) fun _ _ z => z)
theorem b_dispC {kds : List (Key × D)} (q : Q (.fr (.dic (mergeD ([], []) kds).1 (mergeD ([], []) kds).2)) ρ) : (eDispC kds ρ).wp Q X := q
theorem b_zp (q : ((aCons (fz f) (aCons (fz g) aNil)) ρ).wp (fun xs ρ1 => (zpSrc xs ρ1).wp QI X) X) : (iZp f g ρ).wp QI X := b_bind q
theorem b_zpL {ds es : List D} (q : QI (zipL ds es, none) ρ) : (zpSrc [.d (.lst ds), .d (.lst es)] ρ).wp QI X := q
theorem b_zpT {ds es : List D} (q : QI (zipL ds es, none) ρ) : (zpSrc [.d (.tup ds), .d (.tup es)] ρ).wp QI X := q
end
end DL
set_option maxHeartbeats 1000000
/-! DL39: reading without a split; literal loops; loops over typed lists. -/
namespace DL
open PySem PySem.Spec PyProof.Rows L2
section
variable {ρ ρ' : DEnv} {i : Nat} {x y : Val} {d : D} {f g h : EM} {t u : M Bool} {op op' : D → D → Option Val} {Q : Val → DEnv → Prop} {QB : Bool → DEnv → Prop} {QI : Src → DEnv → Prop} {X : Ex → DEnv → Prop} {P : Po}
def AndV (Q : Val → DEnv → Prop) (k : Bool) (ρ1 : DEnv) : Val → DEnv → Prop := fun y ρ2 => BlK y fun k2 => ρ2 = ρ1 ∧ Q (.d (.bl (k && k2))) ρ1
def OrV (Q : Val → DEnv → Prop) (k : Bool) (ρ1 : DEnv) : Val → DEnv → Prop := fun y ρ2 => BlK y fun k2 => ρ2 = ρ1 ∧ Q (.d (.bl (k || k2))) ρ1
theorem b_andV {k k2 : Bool} (q : Q (.d (.bl (k && k2))) ρ) : AndV Q k ρ (.d (.bl k2)) ρ := ⟨k2, rfl, rfl, q⟩
theorem b_orV {k k2 : Bool} (q : Q (.d (.bl (k || k2))) ρ) : OrV Q k ρ (.d (.bl k2)) ρ := ⟨k2, rfl, rfl, q⟩
theorem b_eAnd2 (q : (f ρ).wp (fun x ρ1 => BlK x fun k => (g ρ1).wp (AndV Q k ρ1) fun _ _ => False) X) : (eAnd f g ρ).wp Q X := by
  refine b_eAnd (R.wp_mono q (fun x ρ1 h => ?_) fun _ _ h => h)
  obtain ⟨k, rfl, h⟩ := h
  refine ⟨k, rfl, fun hk => ?_, fun hk => ?_⟩
  · subst hk
    refine R.wp_mono h (fun y ρ2 h2 => ?_) fun _ _ z => z.elim
    obtain ⟨k2, rfl, rfl, h3⟩ := h2
    exact h3
  · subst hk
    cases e : g ρ1 with
    | ok y ρ2 =>
      rw [e] at h
      obtain ⟨k2, rfl, rfl, h3⟩ := h
      exact h3
    | ex y ρ2 => rw [e] at h; exact h.elim
    | bad => rw [e] at h; exact h.elim
theorem b_eOr2 (q : (f ρ).wp (fun x ρ1 => BlK x fun k => (g ρ1).wp (OrV Q k ρ1) fun _ _ => False) X) : (eOr f g ρ).wp Q X := by
  refine b_eOr (R.wp_mono q (fun x ρ1 h => ?_) fun _ _ h => h)
  obtain ⟨k, rfl, h⟩ := h
  refine ⟨k, rfl, fun hk => ?_, fun hk => ?_⟩
  · subst hk
    cases e : g ρ1 with
    | ok y ρ2 =>
      rw [e] at h
      obtain ⟨k2, rfl, rfl, h3⟩ := h
      exact h3
    | ex y ρ2 => rw [e] at h; exact h.elim
    | bad => rw [e] at h; exact h.elim
  · subst hk
    refine R.wp_mono h (fun y ρ2 h2 => ?_) fun _ _ z => z.elim
    obtain ⟨k2, rfl, rfl, h3⟩ := h2
    exact h3
theorem b_chain2 (q : (f ρ).wp (fun x ρ1 => (g ρ1).wp (fun y ρ2 => (opV op x y ρ2).wp (fun z ρ3 => BlK z fun k => (h ρ3).wp (fun w ρ4 => (opV op' y w ρ4).wp (AndV Q k ρ3) fun _ _ => False) fun _ _ => False) X) X) X) : (eChain op op' f g h ρ).wp Q X := by
  refine b_chain (R.wp_mono q (fun x ρ1 h1 => R.wp_mono h1 (fun y ρ2 h2 => R.wp_mono h2 (fun z ρ3 h3 => ?_) fun _ _ h => h) fun _ _ h => h) fun _ _ h => h)
  obtain ⟨k, rfl, h4⟩ := h3
  refine ⟨k, rfl, fun hk => ?_, fun hk => ?_⟩
  · subst hk
    refine R.wp_mono h4 (fun w ρ4 h5 => R.wp_mono h5 (fun v ρ5 h6 => ?_) fun _ _ z => z.elim) fun _ _ z => z.elim
    obtain ⟨k2, rfl, rfl, h7⟩ := h6
    exact h7
  · subst hk
    cases e : h ρ3 with
    | ok w ρ4 =>
      rw [e] at h4
      have h4 : (opV op' y w ρ4).wp _ _ := h4
      cases e2 : opV op' y w ρ4 with
      | ok v ρ5 =>
        rw [e2] at h4
        obtain ⟨k2, rfl, rfl, h7⟩ := h4
        exact h7
      | ex y ρ2 => rw [e2] at h4; exact h4.elim
      | bad => rw [e2] at h4; exact h4.elim
    | ex y ρ2 => rw [e] at h4; exact h4.elim
    | bad => rw [e] at h4; exact h4.elim
/-- loops over a written list -/
theorem loop_nil {tg : Val → SM} {body : SM} (q : P.nx ρ) : (loopD tg body [] ρ).wp P := q
theorem loop_cons {tg : Val → SM} {body : SM} {ds : List D} (q : (tg (.d d) ρ).wp { nx := fun ρ1 => (body ρ1).wp { P with nx := fun ρ2 => (loopD tg body ds ρ2).wp P, ct := fun ρ2 => (loopD tg body ds ρ2).wp P, bk := P.nx }, rt := fun _ _ => False }) : (loopD tg body (d :: ds) ρ).wp P := by
  unfold loopD
  cases e1 : tg (.d d) ρ with
  | nx ρ1 =>
    rw [e1] at q
    have q : (body ρ1).wp _ := q
    dsimp only
    cases e2 : body ρ1 <;> rw [e2] at q <;> first | exact q | exact q.elim
  | rt x ρ1 => rw [e1] at q; exact q.elim
  | bk ρ1 => rw [e1] at q; exact q.elim
  | ct ρ1 => rw [e1] at q; exact q.elim
  | ex x ρ1 => rw [e1] at q; exact q.elim
  | bad => rw [e1] at q; exact q.elim
/-- a loop over what a typed list stands for -/
theorem loop_map {β : Type} {tg : Val → SM} {body : SM} {bs : List β} {dd : β → D} (I : Nat → DEnv → Prop) (h0 : I 0 ρ)
    (hs : ∀ (j : Nat) (b : β) ρ, bs[j]? = some b → I j ρ → (tg (.d (dd b)) ρ).wp { nx := fun ρ1 => (body ρ1).wp { P with nx := I (j + 1), ct := I (j + 1), bk := P.nx }, rt := fun _ _ => False })
    (he : ∀ ρ, I bs.length ρ → P.nx ρ) : (loopD tg body (bs.map dd) ρ).wp P := by
  refine loop_inv I _ 0 _ h0 (fun j dd' ρ hj hI => ?_) fun ρ hI => ?_
  · rw [List.getElem?_map] at hj
    obtain ⟨b, hb, rfl⟩ := Option.map_eq_some_iff.mp hj
    rw [Nat.zero_add] at hI ⊢
    exact hs j b ρ hb hI
  · rw [Nat.zero_add, List.length_map] at hI
    exact he ρ hI
/-- comprehensions over a written list -/
theorem comp_nil {own : List Nat} {tg : Val → SM} {tt : M Bool} {el : EM} {acc : List D} {QD : List D → DEnv → Prop} {XD : Ex → DEnv → Prop} (q : QD acc ρ) : (compD own tg tt el [] acc ρ).wp QD XD := q
theorem comp_cons {own : List Nat} {tg : Val → SM} {tt : M Bool} {el : EM} {acc ds : List D} {QD : List D → DEnv → Prop} {XD : Ex → DEnv → Prop}
    (q : (tg (.d d) ρ).wp { nx := fun ρ1 => (tt ρ1).wp (fun b ρ2 => Way b ((el ρ2).wp (fun y ρ3 => DtK y fun yd => PB (wipeD ρ3 own) fun ρ4 => (compD own tg tt el ds (acc ++ [yd]) ρ4).wp QD XD) fun _ _ => False) (PB (wipeD ρ2 own) fun ρ4 => (compD own tg tt el ds acc ρ4).wp QD XD)) fun _ _ => False, rt := fun _ _ => False }) : (compD own tg tt el (d :: ds) acc ρ).wp QD XD := by
  unfold compD
  cases e1 : tg (.d d) ρ with
  | nx ρ1 =>
    rw [e1] at q
    have q : (tt ρ1).wp _ _ := q
    dsimp only
    cases e2 : tt ρ1 with
    | ok b ρ2 =>
      rw [e2] at q
      have q : Way b _ _ := q
      dsimp only
      cases b with
      | false => rw [if_neg (by decide)]; exact q.2 rfl
      | true =>
        rw [if_pos rfl]
        have h2 := q.1 rfl
        cases e3 : el ρ2 with
        | ok y ρ3 =>
          rw [e3] at h2
          obtain ⟨yd, rfl, h3⟩ := h2
          exact h3
        | ex x ρ3 => rw [e3] at h2; exact h2.elim
        | bad => rw [e3] at h2; exact h2.elim
    | ex x ρ2 => rw [e2] at q; exact q.elim
    | bad => rw [e2] at q; exact q.elim
  | rt x ρ1 => rw [e1] at q; exact q.elim
  | bk ρ1 => rw [e1] at q; exact q.elim
  | ct ρ1 => rw [e1] at q; exact q.elim
  | ex x ρ1 => rw [e1] at q; exact q.elim
  | bad => rw [e1] at q; exact q.elim
theorem compN {own : List Nat} {tg : Val → SM} {tt : M Bool} {el : EM} {acc ds : List D} {QD : List D → DEnv → Prop} {XD : Ex → DEnv → Prop} (e : ρ = ρ') (q : (compD own tg tt el ds acc ρ').wp QD XD) : (compD own tg tt el ds acc ρ).wp QD XD := by subst e; exact q
theorem loopN {tg : Val → SM} {body : SM} {ds : List D} (e : ρ = ρ') (q : (loopD tg body ds ρ').wp P) : (loopD tg body ds ρ).wp P := by subst e; exact q
/-- what one item of a comprehension gives -/
structure ItK (k0 : Bool) (g0 : D) (own : List Nat) (ρ : DEnv) (el : EM) (k : Bool) (ρ2 : DEnv) : Prop where
  t : k = k0
  w : k = false → wipeD ρ2 own = ρ
  e : k = true → (el ρ2).wp (fun y ρ3 => y = .d g0 ∧ wipeD ρ3 own = ρ) fun _ _ => False
theorem b_itK {k : Bool} {g0 : D} {own : List Nat} {ρ ρ2 : DEnv} {el : EM} (hw : wipeD ρ2 own = ρ) (q : k = true → (el ρ2).wp (fun y ρ3 => y = .d g0 ∧ wipeD ρ3 own = ρ) fun _ _ => False) : ItK k g0 own ρ el k ρ2 := ⟨rfl, fun _ => hw, q⟩
theorem comp_mapK {β : Type} {own : List Nat} {tg : Val → SM} {tt : M Bool} {el : EM} {QD : List D → DEnv → Prop} {XD : Ex → DEnv → Prop} {bs : List β} {dd : β → D} {p : β → Bool} {g : β → D}
    (h : ∀ b ∈ bs, (tg (.d (dd b)) ρ).wp { nx := fun ρ1 => (tt ρ1).wp (ItK (p b) (g b) own ρ el) fun _ _ => False, rt := fun _ _ => False })
    (q : QD ((bs.filter p).map g) ρ) : (compD own tg tt el (bs.map dd) [] ρ).wp QD XD := by
  refine comp_map p g (fun b hb => ?_) q
  have h1 := h b hb
  cases e : tg (.d (dd b)) ρ with
  | nx ρ1 =>
    rw [e] at h1
    exact R.wp_mono (Q' := _) h1 (fun k ρ2 h2 => ⟨h2.t, h2.w, h2.e⟩) fun _ _ z => z
  | rt x ρ1 => rw [e] at h1; exact h1.elim
  | bk ρ1 => rw [e] at h1; exact h1.elim
  | ct ρ1 => rw [e] at h1; exact h1.elim
  | ex x ρ1 => rw [e] at h1; exact h1.elim
  | bad => rw [e] at h1; exact h1.elim
/-- without a test -/
theorem comp_all {β : Type} {own : List Nat} {tg : Val → SM} {el : EM} {QD : List D → DEnv → Prop} {XD : Ex → DEnv → Prop} {bs : List β} {dd : β → D} {g : β → D}
    (h : ∀ b ∈ bs, (tg (.d (dd b)) ρ).wp { nx := fun ρ1 => (el ρ1).wp (fun y ρ3 => y = .d (g b) ∧ wipeD ρ3 own = ρ) fun _ _ => False, rt := fun _ _ => False })
    (q : QD (bs.map g) ρ) : (compD own tg tYesD el (bs.map dd) [] ρ).wp QD XD := by
  refine comp_inv (fun k acc ρ' => ρ' = ρ ∧ acc = (bs.take k).map g) (bs.map dd) 0 [] ρ ⟨rfl, rfl⟩ (fun j d acc ρ' hj hI => ?_) fun acc ρ' hI => ?_
  · obtain ⟨rfl, rfl⟩ := hI
    rw [List.getElem?_map] at hj
    obtain ⟨b, hb, rfl⟩ := Option.map_eq_some_iff.mp hj
    have tk : bs.take (0 + j + 1) = bs.take (0 + j) ++ [b] := by rw [Nat.zero_add, List.take_add_one, hb]; rfl
    have h1 := h b (List.mem_of_getElem? hb)
    cases e1 : tg (.d (dd b)) ρ' with
    | nx ρ1 =>
      rw [e1] at h1
      refine ⟨fun z => (by cases z), fun _ => R.wp_mono (Q' := _) h1 (fun y ρ2 h2 => ?_) fun _ _ h => h⟩
      obtain ⟨rfl, e⟩ := h2
      exact ⟨_, rfl, e, by rw [tk, List.map_append]; rfl⟩
    | rt x ρ1 => rw [e1] at h1; exact h1.elim
    | bk ρ1 => rw [e1] at h1; exact h1.elim
    | ct ρ1 => rw [e1] at h1; exact h1.elim
    | ex x ρ1 => rw [e1] at h1; exact h1.elim
    | bad => rw [e1] at h1; exact h1.elim
  · obtain ⟨rfl, rfl⟩ := hI
    rw [Nat.zero_add, List.length_map, List.take_length]
    exact q
theorem b_itV {d : D} {own : List Nat} {ρ3 : DEnv} (hw : wipeD ρ3 own = ρ) : (Val.d d = .d d ∧ wipeD ρ3 own = ρ) := ⟨rfl, hw⟩
/-- what one item of a dict comprehension gives -/
structure DiK (k0 : Bool) (i0 : Int) (g0 : D) (own : List Nat) (ρ : DEnv) (kx vx : EM) (k : Bool) (ρ2 : DEnv) : Prop where
  t : k = k0
  w : k = false → wipeD ρ2 own = ρ
  e : k = true → (kx ρ2).wp (fun x ρ3 => x = .d (.int i0) ∧ (vx ρ3).wp (fun y ρ4 => y = .d g0 ∧ wipeD ρ4 own = ρ) fun _ _ => False) fun _ _ => False
theorem b_diK {k : Bool} {i0 : Int} {g0 : D} {own : List Nat} {ρ ρ2 : DEnv} {kx vx : EM} (hw : wipeD ρ2 own = ρ) (q : k = true → (kx ρ2).wp (fun x ρ3 => x = .d (.int i0) ∧ (vx ρ3).wp (fun y ρ4 => y = .d g0 ∧ wipeD ρ4 own = ρ) fun _ _ => False) fun _ _ => False) : DiK k i0 g0 own ρ kx vx k ρ2 := ⟨rfl, fun _ => hw, q⟩
theorem b_diV {i0 : Int} {G : Prop} (q : G) : (Val.d (.int i0) = .d (.int i0) ∧ G) := ⟨rfl, q⟩
end
end DL
set_option maxHeartbeats 1000000
/-! DL40: more rules of reading. -/
namespace DL
open PySem PySem.Spec PyProof.Rows L2
section
variable {ρ ρ' : DEnv} {i : Nat} {x y : Val} {d : D} {f g h : EM} {t u : M Bool} {op op' : D → D → Option Val} {Q : Val → DEnv → Prop} {QB : Bool → DEnv → Prop} {QI : Src → DEnv → Prop} {X : Ex → DEnv → Prop} {P : Po}
def IsDK (x : Val) (ρ1 : DEnv) (G : Prop) : Prop := isDicB (x.peek ρ1) = true ∧ G
theorem b_isDK {G : Prop} (e : isDicB (x.peek ρ) = true) (q : G) : IsDK x ρ G := ⟨e, q⟩
theorem b_get2K (q : (f ρ).wp (fun x ρ1 => IsDK x ρ1 ((g ρ1).wp (fun y ρ2 => (fz h ρ2).wp (fun z ρ3 => (getV x y z ρ3).wp Q X) X) X)) X) : (eGet2 f g h ρ).wp Q X := b_get2 q
def SameK (ρ1 ρ2 : DEnv) (G : Prop) : Prop := ρ2 = ρ1 ∧ G
theorem b_same {G : Prop} (q : G) : SameK ρ ρ G := ⟨rfl, q⟩
theorem s_tupGL {n : Nat} {h : List D → SM} {ds : List D} (e : x.peek ρ = some (.lst ds)) (hl : ds.length = n) (q : (h ds ρ).wp P) : (tupG n h x ρ).wp P := by
  unfold tupG
  rw [e]
  dsimp only
  rw [if_pos hl]
  exact q
def FrLK (x : Val) (n : Nat) (G : List D → Prop) : Prop := ∃ es, x = .fr (.lst es) ∧ n + es.length ≤ 16777216 ∧ G es
theorem g_fromLK {P : PoG} {ds : List D} (q : (f ρ).wp (fun x ρ1 => FrLK x ds.length fun es => P.nx (ds ++ es) ρ1) NoX) : (gFromL f ds ρ).wp P := g_fromL q
theorem compD_app {own : List Nat} {tg : Val → SM} {tt : M Bool} {el : EM} : ∀ (ds acc : List D) (ρ : DEnv), compD own tg tt el ds acc ρ = (match compD own tg tt el ds [] ρ with | .ok ys ρ' => .ok (acc ++ ys) ρ' | .ex x ρ' => .ex x ρ' | .bad => .bad)
  | [], acc, ρ => by
    show R.ok acc ρ = R.ok (acc ++ []) ρ
    rw [List.append_nil]
  | d :: ds, acc, ρ => by
    simp only [compD]
    cases tg (.d d) ρ with
    | nx ρ1 =>
      dsimp only
      cases tt ρ1 with
      | ok b ρ2 =>
        dsimp only
        cases b with
        | false => rw [if_neg (by decide), if_neg (by decide)]; exact compD_app ds acc _
        | true =>
          rw [if_pos rfl, if_pos rfl]
          cases el ρ2 with
          | ok y ρ3 =>
            cases y with
            | d yd =>
              dsimp only
              rw [compD_app ds (acc ++ [yd]), compD_app ds ([] ++ [yd])]
              cases compD own tg tt el ds [] (wipeD ρ3 own) <;> simp
            | fr c => rfl
            | sl i => rfl
          | ex x ρ3 => rfl
          | bad => rfl
      | ex x ρ2 => rfl
      | bad => rfl
    | rt x ρ1 => rfl
    | bk ρ1 => rfl
    | ct ρ1 => rfl
    | ex x ρ1 => rfl
    | bad => rfl
theorem comp_cons0 {own : List Nat} {tg : Val → SM} {tt : M Bool} {el : EM} {ds : List D} {QD : List D → DEnv → Prop} {XD : Ex → DEnv → Prop}
    (q : (tg (.d d) ρ).wp { nx := fun ρ1 => (tt ρ1).wp (fun b ρ2 => Way b ((el ρ2).wp (fun y ρ3 => DtK y fun yd => PB (wipeD ρ3 own) fun ρ4 => (compD own tg tt el ds [] ρ4).wp (fun ys ρ5 => QD (yd :: ys) ρ5) XD) fun _ _ => False) (PB (wipeD ρ2 own) fun ρ4 => (compD own tg tt el ds [] ρ4).wp QD XD)) fun _ _ => False, rt := fun _ _ => False }) : (compD own tg tt el (d :: ds) [] ρ).wp QD XD := by
  refine comp_cons ?_
  cases e1 : tg (.d d) ρ with
  | nx ρ1 =>
    rw [e1] at q
    have q : (tt ρ1).wp _ _ := q
    refine R.wp_mono (Q' := _) q (fun b ρ2 w => ⟨fun hb => R.wp_mono (w.1 hb) (fun y ρ3 ⟨yd, e, h⟩ => ⟨yd, e, ?_⟩) fun _ _ z => z, w.2⟩) fun _ _ z => z
    have h : (compD own tg tt el ds [] (wipeD ρ3 own)).wp (fun ys ρ5 => QD (yd :: ys) ρ5) XD := h
    show (compD own tg tt el ds ([] ++ [yd]) (wipeD ρ3 own)).wp QD XD
    rw [compD_app]
    cases e : compD own tg tt el ds [] (wipeD ρ3 own) with
    | ok ys ρ' => rw [e] at h; exact h
    | ex x ρ' => rw [e] at h; exact h
    | bad => rw [e] at h; exact h
  | rt x ρ1 => rw [e1] at q; exact q.elim
  | bk ρ1 => rw [e1] at q; exact q.elim
  | ct ρ1 => rw [e1] at q; exact q.elim
  | ex x ρ1 => rw [e1] at q; exact q.elim
  | bad => rw [e1] at q; exact q.elim
theorem b_mkT1 {a0 : D} (q : Q (.d (.tup [a0])) ρ) : (mkTup [.d a0] ρ).wp Q X := b_mkTup rfl (Nat.le_of_ble_eq_true rfl) q
theorem b_mkL1 {a0 : D} (q : Q (.fr (.lst [a0])) ρ) : (mkLst [.d a0] ρ).wp Q X := b_mkLst rfl (Nat.le_of_ble_eq_true rfl) q
theorem b_mkT2 {a0 a1 : D} (q : Q (.d (.tup [a0, a1])) ρ) : (mkTup [.d a0, .d a1] ρ).wp Q X := b_mkTup rfl (Nat.le_of_ble_eq_true rfl) q
theorem b_mkL2 {a0 a1 : D} (q : Q (.fr (.lst [a0, a1])) ρ) : (mkLst [.d a0, .d a1] ρ).wp Q X := b_mkLst rfl (Nat.le_of_ble_eq_true rfl) q
theorem b_mkT3 {a0 a1 a2 : D} (q : Q (.d (.tup [a0, a1, a2])) ρ) : (mkTup [.d a0, .d a1, .d a2] ρ).wp Q X := b_mkTup rfl (Nat.le_of_ble_eq_true rfl) q
theorem b_mkL3 {a0 a1 a2 : D} (q : Q (.fr (.lst [a0, a1, a2])) ρ) : (mkLst [.d a0, .d a1, .d a2] ρ).wp Q X := b_mkLst rfl (Nat.le_of_ble_eq_true rfl) q
theorem b_mkT4 {a0 a1 a2 a3 : D} (q : Q (.d (.tup [a0, a1, a2, a3])) ρ) : (mkTup [.d a0, .d a1, .d a2, .d a3] ρ).wp Q X := b_mkTup rfl (Nat.le_of_ble_eq_true rfl) q
theorem b_mkL4 {a0 a1 a2 a3 : D} (q : Q (.fr (.lst [a0, a1, a2, a3])) ρ) : (mkLst [.d a0, .d a1, .d a2, .d a3] ρ).wp Q X := b_mkLst rfl (Nat.le_of_ble_eq_true rfl) q
theorem b_mkT5 {a0 a1 a2 a3 a4 : D} (q : Q (.d (.tup [a0, a1, a2, a3, a4])) ρ) : (mkTup [.d a0, .d a1, .d a2, .d a3, .d a4] ρ).wp Q X := b_mkTup rfl (Nat.le_of_ble_eq_true rfl) q
theorem b_mkL5 {a0 a1 a2 a3 a4 : D} (q : Q (.fr (.lst [a0, a1, a2, a3, a4])) ρ) : (mkLst [.d a0, .d a1, .d a2, .d a3, .d a4] ρ).wp Q X := b_mkLst rfl (Nat.le_of_ble_eq_true rfl) q
theorem b_mkT6 {a0 a1 a2 a3 a4 a5 : D} (q : Q (.d (.tup [a0, a1, a2, a3, a4, a5])) ρ) : (mkTup [.d a0, .d a1, .d a2, .d a3, .d a4, .d a5] ρ).wp Q X := b_mkTup rfl (Nat.le_of_ble_eq_true rfl) q
theorem b_mkL6 {a0 a1 a2 a3 a4 a5 : D} (q : Q (.fr (.lst [a0, a1, a2, a3, a4, a5])) ρ) : (mkLst [.d a0, .d a1, .d a2, .d a3, .d a4, .d a5] ρ).wp Q X := b_mkLst rfl (Nat.le_of_ble_eq_true rfl) q
/-! the words of what follows, kept short -/
@[reducible] def Po.wnx (P : Po) (n : DEnv → Prop) : Po := { P with nx := n }
@[reducible] def Po.wlp (P : Po) (n : DEnv → Prop) : Po := { P with nx := n, ct := n, bk := P.nx }
@[reducible] def Po.tgt (n : DEnv → Prop) : Po := { nx := n, rt := fun _ _ => False }
@[reducible] def Po.fn (Q : Val → DEnv → Prop) (X : Ex → DEnv → Prop) (as : DEnv) : Po := { nx := fun ρ => (DL.finish (.d .non) as ρ).wp Q X, rt := fun x ρ => (DL.finish x as ρ).wp Q X, ex := fun x ρ => X x (argsBack as ρ) }
@[reducible] def PoG.wnx (P : PoG) (n : List D → DEnv → Prop) : PoG := { P with nx := n }
@[reducible] def PoG.pl (P : PoG) (ds : List D) : Po := { nx := fun ρ1 => P.nx ds ρ1, rt := fun _ _ => False, bk := fun ρ1 => P.bk ds ρ1, ct := fun ρ1 => P.ct ds ρ1 }
theorem s_seqNW {s1 s2 : SM} (e : ρ = ρ') (q : (s1 ρ').wp (P.wnx fun ρ1 => (s2 ρ1).wp P)) : (sSeq s1 s2 ρ).wp P := s_seqN e q
theorem s_gsConsW {g : Val → SM} {h : List D → SM} {ds : List D} (q : (g (.d d) ρ).wp (P.wnx fun ρ1 => (h ds ρ1).wp P)) : (gsCons g h (d :: ds) ρ).wp P := s_gsCons q
theorem loop_consW {tg : Val → SM} {body : SM} {ds : List D} (q : (tg (.d d) ρ).wp (Po.tgt fun ρ1 => (body ρ1).wp (P.wlp fun ρ2 => (loopD tg body ds ρ2).wp P))) : (loopD tg body (d :: ds) ρ).wp P := loop_cons q
theorem f_fnW {np nl : Nat} {body : SM} {as : DEnv} (hl : as.length = np) (q : (body (as ++ List.replicate nl .un)).wp (Po.fn Q X as)) : (fnD np nl body as).wp Q X := f_fn hl q
theorem g_seqW {P : PoG} {g h : GM} {ds : List D} (q : (g ds ρ).wp (P.wnx fun ds1 ρ1 => (h ds1 ρ1).wp P)) : (gSeq g h ds ρ).wp P := g_seq q
theorem g_plW {P : PoG} {ds : List D} {s : SM} (q : (s ρ).wp (P.pl ds)) : (gPl s ds ρ).wp P := g_pl q
end
end DL
/-! DL41: the rules of reading with one premise, as instances. -/
namespace DL
open PySem PySem.Spec PyProof.Rows L2
class St (g : Prop) (n : outParam Prop) : Prop where
  ap : n → g
section
variable {α β : Type} {ρ ρ' ρ1 as : DEnv} {i : Nat} {x y z : Val} {d a b : D} {c : Cont} {m : Md} {f g h : EM} {t u : M Bool} {l r : OM} {op op' : D → D → Option Val} {Q : Val → DEnv → Prop} {QB : Bool → DEnv → Prop} {QL : List Val → DEnv → Prop} {QO : Option Int → DEnv → Prop} {QI : Src → DEnv → Prop} {X : Ex → DEnv → Prop} {P : Po} {s : SM} {gl : M (List Val)}
instance st_b_op  : St ((eOp op f g ρ).wp Q X) ((f ρ).wp (fun x ρ1 => (g ρ1).wp (fun y ρ2 => (opV op x y ρ2).wp Q X) X) X) := ⟨b_op⟩
instance st_b_cb {op : List D → Option Val} : St ((eCallB op gl ρ).wp Q X) ((gl ρ).wp (fun x ρ1 => (callV op x ρ1).wp Q X) X) := ⟨b_cb⟩
instance st_b_un {op : D → Option Val} : St ((eUn op f ρ).wp Q X) ((f ρ).wp (fun x ρ1 => (unV op x ρ1).wp Q X) X) := ⟨b_un⟩
instance st_b_call {Fm : FM} : St ((eCall Fm gl ρ).wp Q X) ((gl ρ).wp (fun x ρ1 => (callF Fm x ρ1).wp Q X) X) := ⟨b_call⟩
instance st_b_cons  : St ((aCons f gl ρ).wp QL X) ((f ρ).wp (fun x ρ1 => (gl ρ1).wp (fun xs ρ2 => QL (x :: xs) ρ2) X) X) := ⟨b_cons⟩
instance st_b_nil  : St ((aNil ρ).wp QL X) (QL [] ρ) := ⟨b_nil⟩
instance st_b_C  : St ((eC d ρ).wp Q X) (Q (.d d) ρ) := ⟨b_C⟩
instance st_b_tup  : St ((eTup gl ρ).wp Q X) ((gl ρ).wp (fun x ρ1 => (mkTup x ρ1).wp Q X) X) := ⟨b_tup⟩
instance st_b_lst  : St ((eLst gl ρ).wp Q X) ((gl ρ).wp (fun x ρ1 => (mkLst x ρ1).wp Q X) X) := ⟨b_lst⟩
instance st_b_fz  : St ((DL.fz f ρ).wp Q X) ((f ρ).wp (fun x ρ1 => (x.fzA ρ1).wp Q X) X) := ⟨b_fz⟩
instance st_b_nsl  : St ((DL.nsl f ρ).wp Q X) ((f ρ).wp (fun x ρ1 => (nslV x ρ1).wp Q X) X) := ⟨b_nsl⟩
instance st_b_nslD  : St ((nslV (.d d) ρ).wp Q X) (Q (.d d) ρ) := ⟨b_nslD⟩
instance st_b_nslF  : St ((nslV (.fr c) ρ).wp Q X) (Q (.fr c) ρ) := ⟨b_nslF⟩
instance st_b_nslS  : St ((nslV (.sl i) ρ).wp Q X) (((Val.sl i).fz ρ).wp Q X) := ⟨b_nslS⟩
instance st_b_tst  : St ((tst f ρ).wp QB X) ((f ρ).wp (fun x ρ1 => (bT x ρ1).wp QB X) X) := ⟨b_tst⟩
instance st_b_bT {k : Bool} : St ((bT (.d (.bl k)) ρ).wp QB X) (QB k ρ) := ⟨b_bT⟩
instance st_b_not  : St ((tNotM t ρ).wp QB X) ((t ρ).wp (fun k ρ1 => QB (!k) ρ1) X) := ⟨b_not⟩
instance st_b_rng {QI : Src → DEnv → Prop} : St ((iRng gl ρ).wp QI X) ((gl ρ).wp (fun xs ρ1 => (rngV xs ρ1).wp QI X) X) := ⟨b_rng⟩
instance st_b_iseq {QI : Src → DEnv → Prop} : St ((iSeq f ρ).wp QI X) ((f ρ).wp (fun x ρ1 => (seqSrc x ρ1).wp QI X) X) := ⟨b_iseq⟩
instance st_b_yes  : St ((tYesD ρ).wp QB X) (QB true ρ) := ⟨b_yes⟩
instance st_s_skip  : St ((sSkip ρ).wp P) (P.nx ρ) := ⟨s_skip⟩
instance st_s_drop  : St ((sDrop f ρ).wp P) ((f ρ).wp (fun _ ρ1 => P.nx ρ1) P.ex) := ⟨s_drop⟩
instance st_s_ret  : St ((sRet f ρ).wp P) ((f ρ).wp (fun x ρ1 => P.rt x ρ1) P.ex) := ⟨s_ret⟩
instance st_s_retN  : St ((sRetN ρ).wp P) (P.rt (.d .non) ρ) := ⟨s_retN⟩
instance st_s_break  : St ((sBreak ρ).wp P) (P.bk ρ) := ⟨s_break⟩
instance st_s_cont  : St ((sCont ρ).wp P) (P.ct ρ) := ⟨s_cont⟩
instance st_s_asg  : St ((sAsg i f ρ).wp P) ((f ρ).wp (fun x ρ1 => (asgV i x ρ1).wp P) P.ex) := ⟨s_asg⟩
instance st_s_par {is : List Nat} : St ((sPar is gl ρ).wp P) ((gl ρ).wp (fun xs ρ1 => (asgs is xs ρ1).wp P) P.ex) := ⟨s_par⟩
instance st_s_tgt {G : Val → SM} : St ((sTgt f G ρ).wp P) ((f ρ).wp (fun x ρ1 => (G x ρ1).wp P) P.ex) := ⟨s_tgt⟩
instance st_s_for {fi : IM} {tg : Val → SM} {body : SM} : St ((sFor fi tg body ρ).wp P) ((fi ρ).wp (fun src ρ1 => (unlkS src.2 ρ1 (loopD tg body src.1 (lockS src.2 ρ1))).wp P) P.ex) := ⟨s_for⟩
instance st_s_loop {tg : Val → SM} {body : SM} {ds : List D} : St ((unlkS none ρ' (loopD tg body ds ρ)).wp P) ((loopD tg body ds ρ).wp P) := ⟨s_loop⟩
instance st_s_store {k : EM} : St ((sStore i k f ρ).wp P) ((f ρ).wp (StoreK i k P) P.ex) := ⟨s_store⟩
instance st_s_asgsN  : St ((asgs [] [] ρ).wp P) (P.nx ρ) := ⟨s_asgsN⟩
instance st_f_d  : St ((finish (.d d) as ρ).wp Q X) (Q (.d d) (argsBack as ρ)) := ⟨f_d⟩
instance st_f_fr  : St ((finish (.fr c) as ρ).wp Q X) (Q (.fr c) (argsBack as ρ)) := ⟨f_fr⟩
instance st_b_sl  : St ((eSl f l r ρ).wp Q X) ((f ρ).wp (fun x ρ1 => (l ρ1).wp (fun lo ρ2 => (r ρ2).wp (fun hi ρ3 => (unV (fun d => sliceD d lo hi) x ρ3).wp Q X) X) X) X) := ⟨b_sl⟩
instance st_b_oNone  : St ((oNone ρ).wp QO X) (QO none ρ) := ⟨b_oNone⟩
instance st_b_oSome  : St ((oSome f ρ).wp QO X) ((f ρ).wp (fun x ρ1 => (oV x ρ1).wp QO X) X) := ⟨b_oSome⟩
instance st_b_oV {k : Int} : St ((oV (.d (.int k)) ρ).wp QO X) (QO (some k) ρ) := ⟨b_oV⟩
instance st_b_isN  : St ((eIsN f ρ).wp Q X) ((f ρ).wp (fun x ρ1 => (isnV x ρ1).wp Q X) X) := ⟨b_isN⟩
instance st_b_notN  : St ((eNotN f ρ).wp Q X) ((f ρ).wp (fun x ρ1 => (notnV x ρ1).wp Q X) X) := ⟨b_notN⟩
instance st_b_isnD  : St ((isnV (.d d) ρ).wp Q X) (Q (.d (.bl (isNonV (.d d)))) ρ) := ⟨b_isnD⟩
instance st_b_notnD  : St ((notnV (.d d) ρ).wp Q X) (Q (.d (.bl !(isNonV (.d d)))) ρ) := ⟨b_notnD⟩
instance st_b_ienu  : St ((iEnu f ρ).wp QI X) ((f ρ).wp (fun x ρ1 => (seqSrc x ρ1).wp (fun src ρ2 => QI (enumL src.1, src.2) ρ2) X) X) := ⟨b_ienu⟩
instance st_b_newD {ρ : DEnv} {Q : Val → DEnv → Prop} {Xx : Ex → DEnv → Prop} : St ((eNewD ρ).wp Q Xx) (Q (.fr (.dic [] [])) ρ) := ⟨b_newD⟩
instance st_b_iany  : St ((iAny f ρ).wp QI X) ((f ρ).wp (fun x ρ1 => (anySrc x ρ1).wp QI X) X) := ⟨b_iany⟩
instance st_b_seqT {ds : List D} : St ((seqSrc (.d (.tup ds)) ρ).wp QI X) (QI (ds, none) ρ) := ⟨b_seqT⟩
instance st_s_gsCons {g : Val → SM} {h : List D → SM} {ds : List D} : St ((gsCons g h (d :: ds) ρ).wp P) ((g (.d d) ρ).wp { P with nx := fun ρ1 => (h ds ρ1).wp P }) := ⟨s_gsCons⟩
instance st_s_gsNil  : St ((gsNil [] ρ).wp P) (P.nx ρ) := ⟨s_gsNil⟩
instance st_b_seqL {ds : List D} : St ((seqSrc (.d (.lst ds)) ρ).wp QI X) (QI (ds, none) ρ) := ⟨b_seqL⟩
instance st_b_seqF {ds : List D} : St ((seqSrc (.fr (.lst ds)) ρ).wp QI X) (QI (ds, none) ρ) := ⟨b_seqF⟩
instance st_b_callK {idx : List Nat} {Fm : FM} {gl gk : M (List Val)} : St ((eCallK idx Fm gl gk ρ).wp Q X) ((gl ρ).wp (fun xs ρ1 => (gk ρ1).wp (fun ys ρ2 => SelK idx (xs ++ ys) fun zs => (callF Fm zs ρ2).wp Q X) X) X) := ⟨b_callK⟩
instance st_b_blK {k : Bool} {G : Bool → Prop} : St (BlK (.d (.bl k)) G) (G k) := ⟨b_blK⟩
instance st_b_dtK {d : D} {G : D → Prop} : St (DtK (.d d) G) (G d) := ⟨b_dtK⟩
instance st_b_intK {k : Int} {G : Int → Prop} : St (IntK (.d (.int k)) G) (G k) := ⟨b_intK⟩
instance st_b_eAnd2  : St ((eAnd f g ρ).wp Q X) ((f ρ).wp (fun x ρ1 => BlK x fun k => (g ρ1).wp (AndV Q k ρ1) fun _ _ => False) X) := ⟨b_eAnd2⟩
instance st_b_eOr2  : St ((eOr f g ρ).wp Q X) ((f ρ).wp (fun x ρ1 => BlK x fun k => (g ρ1).wp (OrV Q k ρ1) fun _ _ => False) X) := ⟨b_eOr2⟩
instance st_b_eNotK  : St ((eNot f ρ).wp Q X) ((f ρ).wp (fun x ρ1 => BlK x fun k => Q (.d (.bl !k)) ρ1) X) := ⟨b_eNotK⟩
instance st_b_chain2  : St ((eChain op op' f g h ρ).wp Q X) ((f ρ).wp (fun x ρ1 => (g ρ1).wp (fun y ρ2 => (opV op x y ρ2).wp (fun z ρ3 => BlK z fun k => (h ρ3).wp (fun w ρ4 => (opV op' y w ρ4).wp (AndV Q k ρ3) fun _ _ => False) fun _ _ => False) X) X) X) := ⟨b_chain2⟩
instance st_b_and2  : St ((tAndM t u ρ).wp QB X) ((t ρ).wp (fun k ρ1 => (u ρ1).wp (AndK QB k ρ1) fun _ _ => False) X) := ⟨b_and2⟩
instance st_b_or2  : St ((tOrM t u ρ).wp QB X) ((t ρ).wp (fun k ρ1 => (u ρ1).wp (OrK QB k ρ1) fun _ _ => False) X) := ⟨b_or2⟩
instance st_b_eIfW  : St ((eIf t f g ρ).wp Q X) ((t ρ).wp (fun k ρ1 => Way k ((f ρ1).wp Q X) ((g ρ1).wp Q X)) X) := ⟨b_eIfW⟩
instance st_s_ifW {s1 s2 : SM} : St ((sIf t s1 s2 ρ).wp P) ((t ρ).wp (fun k ρ1 => Way k ((s1 ρ1).wp P) ((s2 ρ1).wp P)) P.ex) := ⟨s_ifW⟩
instance st_b_lcK {own : List Nat} {fi : IM} {tg : Val → SM} {tt : M Bool} {el : EM} : St ((eLc own fi tg tt el ρ).wp Q X) ((fi ρ).wp (fun src ρ1 => CompK own ρ1 src.1.length ((compD own tg tt el src.1 [] (wipeD (lockS src.2 ρ1) own)).wp (fun ys ρ2 => PB (unlk src.2 ρ1 (backD (lockS src.2 ρ1) ρ2 own)) fun ρ3 => Q (.fr (.lst ys)) ρ3) fun _ _ => False)) X) := ⟨b_lcK⟩
instance st_b_sortScK {own : List Nat} {fi : IM} {tg : Val → SM} {tt : M Bool} {el : EM} : St ((eSortSc own fi tg tt el ρ).wp Q X) ((fi ρ).wp (fun src ρ1 => CompK own ρ1 src.1.length ((compA own tg tt (scStep el) src.1 [] (wipeD (lockS src.2 ρ1) own)).wp (fun ns ρ2 => PB (unlk src.2 ρ1 (backD (lockS src.2 ρ1) ρ2 own)) fun ρ3 => Q (.fr (.lst ((sortSetI ns).map D.int))) ρ3) fun _ _ => False)) X) := ⟨b_sortScK⟩
instance st_b_dcK {own : List Nat} {fi : IM} {tg : Val → SM} {tt : M Bool} {kx vx : EM} : St ((eDc own fi tg tt kx vx ρ).wp Q X) ((fi ρ).wp (fun src ρ1 => CompK own ρ1 src.1.length ((compA own tg tt (dcStep kx vx) src.1 ([], []) (wipeD (lockS src.2 ρ1) own)).wp (fun a ρ2 => PB (unlk src.2 ρ1 (backD (lockS src.2 ρ1) ρ2 own)) fun ρ3 => Q (.fr (.dic a.1 a.2)) ρ3) fun _ _ => False)) X) := ⟨b_dcK⟩
instance st_b_dcStepK {kx vx : EM} {acc : List Key × List D} {QA : List Key × List D → DEnv → Prop} : St ((dcStep kx vx acc ρ).wp QA X) ((kx ρ).wp (fun y ρ1 => IntK y fun k => (vx ρ1).wp (fun z ρ2 => DtK z fun d => QA (if acc.1.any (fun j => decide (j = (Sum.inl k : Key))) = true then (acc.1, dSet acc.1 acc.2 (.inl k) d) else (acc.1 ++ [.inl k], acc.2 ++ [d])) ρ2) X) X) := ⟨b_dcStepK⟩
instance st_b_andK {k k2 : Bool} : St (AndK QB k ρ k2 ρ) (QB (k && k2) ρ) := ⟨b_andK⟩
instance st_b_orK {k k2 : Bool} : St (OrK QB k ρ k2 ρ) (QB (k || k2) ρ) := ⟨b_orK⟩
instance st_b_andV {k k2 : Bool} : St (AndV Q k ρ (.d (.bl k2)) ρ) (Q (.d (.bl (k && k2))) ρ) := ⟨b_andV⟩
instance st_b_orV {k k2 : Bool} : St (OrV Q k ρ (.d (.bl k2)) ρ) (Q (.d (.bl (k || k2))) ρ) := ⟨b_orV⟩
instance st_b_get2K  : St ((eGet2 f g h ρ).wp Q X) ((f ρ).wp (fun x ρ1 => IsDK x ρ1 ((g ρ1).wp (fun y ρ2 => (fz h ρ2).wp (fun z ρ3 => (getV x y z ρ3).wp Q X) X) X)) X) := ⟨b_get2K⟩
instance st_b_same {G : Prop} : St (SameK ρ ρ G) (G) := ⟨b_same⟩
instance st_b_mkT1 {a0 : D} : St ((mkTup [.d a0] ρ).wp Q X) (Q (.d (.tup [a0])) ρ) := ⟨b_mkT1⟩
instance st_b_mkT2 {a0 a1 : D} : St ((mkTup [.d a0, .d a1] ρ).wp Q X) (Q (.d (.tup [a0, a1])) ρ) := ⟨b_mkT2⟩
instance st_b_mkT3 {a0 a1 a2 : D} : St ((mkTup [.d a0, .d a1, .d a2] ρ).wp Q X) (Q (.d (.tup [a0, a1, a2])) ρ) := ⟨b_mkT3⟩
instance st_b_mkT4 {a0 a1 a2 a3 : D} : St ((mkTup [.d a0, .d a1, .d a2, .d a3] ρ).wp Q X) (Q (.d (.tup [a0, a1, a2, a3])) ρ) := ⟨b_mkT4⟩
instance st_b_mkT5 {a0 a1 a2 a3 a4 : D} : St ((mkTup [.d a0, .d a1, .d a2, .d a3, .d a4] ρ).wp Q X) (Q (.d (.tup [a0, a1, a2, a3, a4])) ρ) := ⟨b_mkT5⟩
instance st_b_mkT6 {a0 a1 a2 a3 a4 a5 : D} : St ((mkTup [.d a0, .d a1, .d a2, .d a3, .d a4, .d a5] ρ).wp Q X) (Q (.d (.tup [a0, a1, a2, a3, a4, a5])) ρ) := ⟨b_mkT6⟩
instance st_b_mkL1 {a0 : D} : St ((mkLst [.d a0] ρ).wp Q X) (Q (.fr (.lst [a0])) ρ) := ⟨b_mkL1⟩
instance st_b_mkL2 {a0 a1 : D} : St ((mkLst [.d a0, .d a1] ρ).wp Q X) (Q (.fr (.lst [a0, a1])) ρ) := ⟨b_mkL2⟩
instance st_b_mkL3 {a0 a1 a2 : D} : St ((mkLst [.d a0, .d a1, .d a2] ρ).wp Q X) (Q (.fr (.lst [a0, a1, a2])) ρ) := ⟨b_mkL3⟩
instance st_b_mkL4 {a0 a1 a2 a3 : D} : St ((mkLst [.d a0, .d a1, .d a2, .d a3] ρ).wp Q X) (Q (.fr (.lst [a0, a1, a2, a3])) ρ) := ⟨b_mkL4⟩
instance st_b_mkL5 {a0 a1 a2 a3 a4 : D} : St ((mkLst [.d a0, .d a1, .d a2, .d a3, .d a4] ρ).wp Q X) (Q (.fr (.lst [a0, a1, a2, a3, a4])) ρ) := ⟨b_mkL5⟩
instance st_b_mkL6 {a0 a1 a2 a3 a4 a5 : D} : St ((mkLst [.d a0, .d a1, .d a2, .d a3, .d a4, .d a5] ρ).wp Q X) (Q (.fr (.lst [a0, a1, a2, a3, a4, a5])) ρ) := ⟨b_mkL6⟩
instance st_g_seqW {P : PoG} {g h : GM} {ds : List D} : St ((gSeq g h ds ρ).wp P) ((g ds ρ).wp (P.wnx fun ds1 ρ1 => (h ds1 ρ1).wp P)) := ⟨g_seqW⟩
instance st_s_gsConsW {g : Val → SM} {h : List D → SM} {ds : List D} : St ((gsCons g h (d :: ds) ρ).wp P) ((g (.d d) ρ).wp (P.wnx fun ρ1 => (h ds ρ1).wp P)) := ⟨s_gsConsW⟩
instance st_g_fromLK {P : PoG} {ds : List D} : St ((gFromL f ds ρ).wp P) ((f ρ).wp (fun x ρ1 => FrLK x ds.length fun es => P.nx (ds ++ es) ρ1) NoX) := ⟨g_fromLK⟩
instance st_g_skip {P : PoG} {ds : List D} : St ((gSkip ds ρ).wp P) (P.nx ds ρ) := ⟨g_skip⟩
instance st_g_plW {P : PoG} {ds : List D} {s : SM} : St ((gPl s ds ρ).wp P) ((s ρ).wp (P.pl ds)) := ⟨g_plW⟩
instance st_g_if {P : PoG} {ds : List D} {g h : GM} : St ((gIf t g h ds ρ).wp P) ((t ρ).wp (fun k ρ1 => Way k ((g ds ρ1).wp P) ((h ds ρ1).wp P)) NoX) := ⟨g_if⟩
instance st_g_for {P : PoG} {ds : List D} {fi : IM} {tg : Val → SM} {body : GM} : St ((gFor fi tg body ds ρ).wp P) ((fi ρ).wp (fun src ρ1 => (unlkG src.2 ρ1 (loopG tg body src.1 ds (lockS src.2 ρ1))).wp P) NoX) := ⟨g_for⟩
instance st_b_zp  : St ((iZp f g ρ).wp QI X) (((aCons (fz f) (aCons (fz g) aNil)) ρ).wp (fun xs ρ1 => (zpSrc xs ρ1).wp QI X) X) := ⟨b_zp⟩
instance st_b_zpL {ds es : List D} : St ((zpSrc [.d (.lst ds), .d (.lst es)] ρ).wp QI X) (QI (zipL ds es, none) ρ) := ⟨b_zpL⟩
instance st_b_zpT {ds es : List D} : St ((zpSrc [.d (.tup ds), .d (.tup es)] ρ).wp QI X) (QI (zipL ds es, none) ρ) := ⟨b_zpT⟩
instance st_loop_nil {tg : Val → SM} {body : SM} : St ((loopD tg body [] ρ).wp P) (P.nx ρ) := ⟨loop_nil⟩
instance st_loop_consW {tg : Val → SM} {body : SM} {ds : List D} : St ((loopD tg body (d :: ds) ρ).wp P) ((tg (.d d) ρ).wp (Po.tgt fun ρ1 => (body ρ1).wp (P.wlp fun ρ2 => (loopD tg body ds ρ2).wp P))) := ⟨loop_consW⟩
instance st_b_getK {ks : List (Str × Int)} : St ((eGetK ks g h ρ).wp Q X) ((g ρ).wp (fun y ρ2 => (fz h ρ2).wp (fun z ρ3 => (getKV ks y z ρ3).wp Q X) X) X) := ⟨b_getK⟩
instance st_b_dispC {kds : List (Key × D)} : St ((eDispC kds ρ).wp Q X) (Q (.fr (.dic (mergeD ([], []) kds).1 (mergeD ([], []) kds).2)) ρ) := ⟨b_dispC⟩
instance st_b_ok {a : α} {QA : α → DEnv → Prop} : St ((R.ok a ρ).wp QA X) (QA a ρ) := ⟨b_ok⟩
instance st_int_addD {i j : Int} : St ((opV addD (.d (.int i)) (.d (.int j)) ρ).wp Q X) (Q (.d (.int (i + j))) ρ) := ⟨fun q => b_opV rfl rfl rfl q⟩
instance st_int_subD {i j : Int} : St ((opV subD (.d (.int i)) (.d (.int j)) ρ).wp Q X) (Q (.d (.int (i - j))) ρ) := ⟨fun q => b_opV rfl rfl rfl q⟩
instance st_int_ltD {i j : Int} : St ((opV ltD (.d (.int i)) (.d (.int j)) ρ).wp Q X) (Q (.d (.bl (decide (i < j)))) ρ) := ⟨fun q => b_opV rfl rfl rfl q⟩
instance st_int_leD {i j : Int} : St ((opV leD (.d (.int i)) (.d (.int j)) ρ).wp Q X) (Q (.d (.bl (decide (i ≤ j)))) ρ) := ⟨fun q => b_opV rfl rfl rfl q⟩
instance st_int_gtD {i j : Int} : St ((opV gtD (.d (.int i)) (.d (.int j)) ρ).wp Q X) (Q (.d (.bl (decide (j < i)))) ρ) := ⟨fun q => b_opV rfl rfl rfl q⟩
instance st_int_geD {i j : Int} : St ((opV geD (.d (.int i)) (.d (.int j)) ρ).wp Q X) (Q (.d (.bl (decide (j ≤ i)))) ρ) := ⟨fun q => b_opV rfl rfl rfl q⟩
instance st_int_eqV {i j : Int} : St ((opV eqV' (.d (.int i)) (.d (.int j)) ρ).wp Q X) (Q (.d (.bl (decide (i = j)))) ρ) := ⟨fun q => b_opV rfl rfl rfl q⟩
instance st_int_neV {i j : Int} : St ((opV neV' (.d (.int i)) (.d (.int j)) ρ).wp Q X) (Q (.d (.bl (!decide (i = j)))) ρ) := ⟨fun q => b_opV rfl rfl rfl q⟩
instance (priority := low) st_str_eqV {i j : Str} : St ((opV eqV' (.d (.str i)) (.d (.str j)) ρ).wp Q X) (Q (.d (.bl (decide (i = j)))) ρ) := ⟨fun q => b_opV rfl rfl rfl q⟩
instance (priority := low) st_str_neV {i j : Str} : St ((opV neV' (.d (.str i)) (.d (.str j)) ρ).wp Q X) (Q (.d (.bl (!decide (i = j)))) ρ) := ⟨fun q => b_opV rfl rfl rfl q⟩
end
end DL
set_option maxHeartbeats 1000000
/-! DL42: whether data of any depth stands in a list or a tuple. -/
namespace DL
open PySem PySem.Spec PyProof.Rows L2
/-! on data -/
end DL
set_option maxHeartbeats 1000000
/-! DL43: four names at once. -/
namespace DL
open PySem PySem.Spec PyProof.Rows L2
end DL
set_option maxHeartbeats 1000000
/-! DL44: sorted() of ints, in a list or a tuple. -/
namespace DL
open PySem PySem.Spec PyProof.Rows L2
end DL
set_option maxHeartbeats 1000000
/-! DL45: xs.count(x) of an own list. -/
namespace DL
open PySem PySem.Spec PyProof.Rows L2
end DL
set_option maxHeartbeats 1000000
/-! DL46: a == b == c. -/
namespace DL
open PySem PySem.Spec PyProof.Rows L2
end DL
set_option maxHeartbeats 1000000
/-! DL47: repr of great data of small parts: at most 100 signs a part. -/
namespace DL
open PySem PySem.Spec PyProof.Rows L2
end DL
set_option maxHeartbeats 1000000
/-! DL48: d.items() walked. -/
namespace DL
open PySem PySem.Spec PyProof.Rows L2
variable [TabT]
def itemsL (ks : List Key) (ds : List D) : List D := (ks.zip ds).map fun p => .tup [keyToD p.1, p.2]
def itmSrc (x : Val) (ρ : DEnv) : R Src := (x.fzA ρ).bind fun y ρ1 => match y with
  | .d (.dic ks ds) => .ok (itemsL ks ds, none) ρ1
  | _ => .bad
def iItm (f : EM) : IM := fun ρ => (f ρ).bind itmSrc
/-! ### its reading -/
section
variable {ρ : DEnv} {QI : Src → DEnv → Prop} {X : Ex → DEnv → Prop}
theorem b_iitm {f : EM} (q : (f ρ).wp (fun x ρ1 => (itmSrc x ρ1).wp QI X) X) : (iItm f ρ).wp QI X := b_bind q
theorem b_itmD {ks : List Key} {ds : List D} (q : QI (itemsL ks ds, none) ρ) : (itmSrc (.d (.dic ks ds)) ρ).wp QI X := q
instance st_iitm {f : EM} : St ((iItm f ρ).wp QI X) ((f ρ).wp (fun x ρ1 => (itmSrc x ρ1).wp QI X) X) := ⟨b_iitm⟩
instance st_itmD {ks : List Key} {ds : List D} : St ((itmSrc (.d (.dic ks ds)) ρ).wp QI X) (QI (itemsL ks ds, none) ρ) := ⟨b_itmD⟩
end
end DL
set_option maxHeartbeats 1000000
/-! DL49: methods of a list that any expression gives: count, index; remove of an own list of ints. -/
namespace DL
open PySem PySem.Spec PyProof.Rows L2
variable [TabT]
def isLstB (x : Option D) : Bool := match x with
  | some (.lst _) => true
  | _ => false
def opLV (op : D → D → Option Val) (g : EM) (x : Val) : EM := fun ρ1 => if isLstB (x.peek ρ1) = true then (g ρ1).bind fun y ρ2 => opV op x y ρ2 else .bad
def eOpL (op : D → D → Option Val) (f g : EM) : EM := fun ρ => (f ρ).bind fun x ρ1 => opLV op g x ρ1
/-! ### remove -/
end DL
/-! GN1: what sleeps is left alone by what does not wake it: a run that would end, were each sleeper's next step a dead end, ends alike beside the sleepers. -/
namespace SW
open PySem PyProof.Rows
def stump (F : Frame) : Frame := .ret (fun _ => .unsupported "dud") none false [] F.where_.1 F.where_.2 []
def dud : GenState → GenState
  | .suspended _ _ c p fs cl => .suspended (fun _ => .unsupported "dud") [] c p (fs.map stump) cl
  | .fresh c => .fresh c
  | .running => .running
  | .finished => .finished
def slp : GenState → Bool
  | .suspended .. => true
  | _ => false
theorem dud_id {x : GenState} (h : slp x = false) : dud x = x := by cases x <;> first | rfl | cases h
/-- g sleeps in G -/
def Slps (G : Array GenState) (g : Nat) : Prop := ∃ x, G[g]? = some x ∧ slp x = true
/-- no frame of a sleeper -/
def Fine (G : Array GenState) (fs : List Frame) : Prop := ∀ g k l c p, Frame.gen g k l c p ∈ fs → ¬ Slps G g
/-- a: the sleepers are duds; b: they are themselves -/
structure Sw (G a b : Array GenState) : Prop where
  size : b.size = a.size
  le : G.size ≤ a.size
  at_ : ∀ (g : Nat) (x : GenState), G[g]? = some x → slp x = true → a[g]? = some (dud x) ∧ b[g]? = some x
  same : ∀ g : Nat, ¬ Slps G g → b[g]? = a[g]?
  fine : ∀ (g : Nat) k l c p fs cl, a[g]? = some (.suspended k l c p fs cl) → Fine G fs
theorem Fine.nil {G : Array GenState} : Fine G [] := fun _ _ _ _ _ h => by simp at h
theorem Fine.app {G : Array GenState} {fs gs : List Frame} (h : Fine G fs) (h2 : Fine G gs) : Fine G (fs ++ gs) := fun g k l c p m => by
  rcases List.mem_append.mp m with z | z
  · exact h g k l c p z
  · exact h2 g k l c p z
theorem Fine.ret {G : Array GenState} {k : Result → Sem PySem.Fin} {h : Option Value} {g : Bool} {l kp : List Value} {c : Code} {p : Pos} : Fine G [.ret k h g l c p kp] := fun _ _ _ _ _ m => by
  have := List.mem_singleton.mp m
  cases this
theorem Sw.start (G : Array GenState) : Sw G (G.map dud) G := by
  refine ⟨by simp, by simp, fun g x e hx => ⟨by simp [e], e⟩, fun g hg => ?_, fun g k l c p fs cl e => ?_⟩
  · rw [Array.getElem?_map]
    cases e : G[g]? with
    | none => rfl
    | some x =>
      have : slp x = false := by
        cases h : slp x with
        | false => rfl
        | true => exact absurd ⟨x, e, h⟩ hg
      rw [Option.map_some, dud_id this]
  · rw [Array.getElem?_map, Option.map_eq_some_iff] at e
    obtain ⟨x, _, hx⟩ := e
    cases x with
    | suspended k0 l0 c0 p0 fs0 cl0 =>
      cases hx
      intro g' k' l' c' p' hm
      obtain ⟨F, _, hF⟩ := List.mem_map.mp hm
      cases hF
    | fresh c0 => cases hx
    | running => cases hx
    | finished => cases hx
theorem Sw.set {G a b : Array GenState} (h : Sw G a b) {g : Nat} (hg : ¬ Slps G g) {x : GenState} (hx : ∀ k l c p fs cl, x = .suspended k l c p fs cl → Fine G fs) : Sw G (a.setIfInBounds g x) (b.setIfInBounds g x) := by
  refine ⟨by simp [h.size], by simp [h.le], fun g' y e hy => ?_, fun g' hg' => ?_, fun g' k l c p fs cl e => ?_⟩
  · have ne : g ≠ g' := fun z => hg ⟨y, by rw [z]; exact e, hy⟩
    rw [Array.getElem?_setIfInBounds_ne ne, Array.getElem?_setIfInBounds_ne ne]
    exact h.at_ g' y e hy
  · rw [Array.getElem?_setIfInBounds, Array.getElem?_setIfInBounds, h.size, h.same g' hg']
  · rw [Array.getElem?_setIfInBounds] at e
    split at e
    · split at e
      · exact hx k l c p fs cl (by simpa using e)
      · cases e
    · exact h.fine g' k l c p fs cl e
theorem Sw.push {G a b : Array GenState} (h : Sw G a b) {c : Code} : Sw G (a.push (.fresh c)) (b.push (.fresh c)) := by
  refine ⟨by simp [h.size], by simp; have := h.le; omega, fun g' y e hy => ?_, fun g' hg' => ?_, fun g' k l c' p fs cl e => ?_⟩
  · obtain ⟨h1, h2⟩ := h.at_ g' y e hy
    have l1 : g' < a.size := (Array.getElem?_eq_some_iff.mp h1).1
    rw [Array.getElem?_push, Array.getElem?_push, h.size, if_neg (by omega), if_neg (by omega)]
    exact ⟨h1, h2⟩
  · rw [Array.getElem?_push, Array.getElem?_push, h.size, h.same g' hg']
  · rw [Array.getElem?_push] at e
    split at e
    · cases e
    · exact h.fine g' k l c' p fs cl e
/-- two states that differ in the sleepers alone -/
structure SwS (G : Array GenState) (s u : Shared) : Prop where
  heap : u.heap = s.heap
  drawn : u.drawn = s.drawn
  toks : u.toks = s.toks
  os : u.os = s.os
  sw : Sw G s.gens u.gens
theorem SwS.set {G : Array GenState} {s u : Shared} (h : SwS G s u) {g : Nat} (hg : ¬ Slps G g) {x : GenState} (hx : ∀ k l c p fs cl, x = .suspended k l c p fs cl → Fine G fs) : SwS G (s.setGen g x) (u.setGen g x) :=
  ⟨h.heap, h.drawn, h.toks, h.os, h.sw.set hg hx⟩
end SW
/-! GN2: the same, for pieces of code. -/
set_option maxHeartbeats 1000000
/-! GN3: a generator's body, run turn by turn beside its consumer. -/
namespace DL
open PySem PySem.Spec PyProof.Rows L2 GenW
variable [TabT]
/-- what a generator's run does, seen by its consumer: what is not its own stays -/
structure EvW (σ : L2.St) (ρ : DEnv) (F H : Hp) (σ' : L2.St) (ρ' : DEnv) (F' H' : Hp) : Prop where
  ext : Same F F'
  keep : ∀ a o, H a = some o → ¬ Ow σ ρ a → NT o → H' a = some o
  newF : ∀ a, F a = none → F' a ≠ none → H a = none ∨ Ow σ ρ a
  dom : ∀ a, H a ≠ none → H' a ≠ none
  own' : ∀ a, Ow σ' ρ' a → H a = none ∨ Ow σ ρ a
theorem EvW.refl {σ : L2.St} {ρ : DEnv} {F H : Hp} : EvW σ ρ F H σ ρ F H := ⟨Same.refl _, fun _ _ e _ _ => e, fun _ e n => absurd e n, fun _ h => h, fun _ h => .inr h⟩
theorem EvW.trans {σ σ1 σ2 : L2.St} {ρ ρ1 ρ2 : DEnv} {F F1 F2 H H1 H2 : Hp} (a : EvW σ ρ F H σ1 ρ1 F1 H1) (b : EvW σ1 ρ1 F1 H1 σ2 ρ2 F2 H2) : EvW σ ρ F H σ2 ρ2 F2 H2 where
  ext := a.ext.trans b.ext
  keep := fun x o e n nt => by
    refine b.keep x o (a.keep x o e n nt) (fun m => ?_) nt
    rcases a.own' x m with z | z
    · rw [e] at z; cases z
    · exact n z
  newF := fun x e n => by
    by_cases q : F1 x = none
    · rcases b.newF x q n with z | z
      · cases hx : H x with
        | none => exact .inl rfl
        | some o => exact absurd z (a.dom x (by rw [hx]; simp))
      · exact a.own' x z
    · exact a.newF x e q
  dom := fun x h => b.dom x (a.dom x h)
  own' := fun x h => by
    rcases b.own' x h with z | z
    · cases hx : H x with
      | none => exact .inl rfl
      | some o => exact absurd z (a.dom x (by rw [hx]; simp))
    · exact a.own' x z
theorem EvW.of {σ σ1 : L2.St} {ρ ρ1 : DEnv} {F F1 H H1 : Hp} (e : Ev σ ρ F H σ1 ρ1 F1 H1) : EvW σ ρ F H σ1 ρ1 F1 H1 := ⟨e.ext, fun a o h n nt => e.keep a o h (fun m => n m.ow) nt, e.newF, e.dom, e.own'⟩
/-- another word for a slot's mode -/
theorem EvW.mode {σ σ1 : L2.St} {ρ ρ1 : DEnv} {F F1 H H1 : Hp} (e : EvW σ ρ F H σ1 ρ1 F1 H1) {i : Nat} {c : Cont} {m m' : Md} (h : ρ1[i]? = some (.ow c m)) : EvW σ ρ F H σ1 (ρ1.set i (.ow c m')) F1 H1 := by
  refine ⟨e.ext, e.keep, e.newF, e.dom, fun a z => e.own' a (ow_mode (fun j c1 m1 q => ?_) z)⟩
  by_cases hj : i = j
  · subst hj; rw [List.getElem?_set_self (List.getElem?_eq_some_iff.mp h).1] at q; cases q; exact ⟨_, h⟩
  · rw [List.getElem?_set_ne hj] at q; exact ⟨m1, q⟩
/-- a consumer of a generator: the contexts in which the generator's frame may be seen (they differ in their roots alone), what is wanted of a wake, what is handed out in all -/
structure Cons where
  prog : Program
  w : World
  K : PySem.W.Frag
  mg : Str → Option Value
  env : Env
  A : Around
  XX : Cx → Prop
  Pay : Cx → L2.St → DEnv → Hp → List D → Prop
  Ds : List D
  L : Nat
  eL : ∀ X, XX X → X.s_0.heap.objs.size = L
  eex : ∀ X, XX X → X.ex = []
  pa : List Addr
  epa : ∀ X, XX X → X.pn.map (·.1) = pa
  eprog : ∀ X, XX X → X.prog = prog
  ew : ∀ X, XX X → X.w = w
  eK : ∀ X, XX X → X.K = K
  emg : ∀ X, XX X → X.mg = mg
  eenv : ∀ X, XX X → X.env = env
  eA : ∀ X, XX X → X.A = A
/-- what stays true of a generator's run, beside its slots: lists that loops hold locked, frozen parts of before -/
structure Hst where
  hs : List (Nat × Cont × Addr × HO) := []
  Fs : List Hp := []
structure Hst.At (Z : Hst) (σ : L2.St) (ρ : DEnv) (F H : Hp) : Prop where
  lk : ∀ i c a o, (i, c, a, o) ∈ Z.hs → ρ[i]? = some (.ow c .lck) ∧ σ[i]? = some (some (.ref a)) ∧ H a = some o
  fs : ∀ F0 ∈ Z.Fs, Same F0 F
theorem Hst.At.ev {Z : Hst} {K : PySem.W.Frag} {σ σ' : L2.St} {ρ ρ' : DEnv} {F H F' H' : Hp} (h : Z.At σ ρ F H) (sr : SR K F H σ ρ) (ev : Ev σ ρ F H σ' ρ' F' H') : Z.At σ' ρ' F' H' := by
  refine ⟨fun i c a o hm => ?_, fun F0 hF => (h.fs F0 hF).trans ev.ext⟩
  obtain ⟨h1, h2, h3⟩ := h.lk i c a o hm
  obtain ⟨b1, c', b2, b3⟩ := ev.bor i c .lck h1 (by decide)
  obtain rfl := b3 rfl
  obtain ⟨ov, w1, a', w2, w3, w4⟩ := sr.slot i _ h1
  rw [h2] at w1
  cases w1
  cases w2
  refine ⟨b2, by rw [b1]; exact h2, ev.keep a o h3 (fun ⟨j, c1, m1, z1, z2, z3⟩ => ?_) (CRep.nt h3 w4)⟩
  have := sr.dist i j _ _ _ _ a h1 z1 h2 z3
  subst this
  rw [h1] at z1; cases z1; exact z2 rfl
/-- how matters stand while the generator runs; w: at the last wake -/
structure Sit (C : Cons) (ip : List (Addr × Obj)) (X : Cx) (σw : L2.St) (ρw : DEnv) (Fw : Hp) (σ : L2.St) (ρ : DEnv) (F H : Hp) (ds : List D) (n : Nat) (s : Shared) : Prop where
  fam : C.XX X
  pay : C.Pay X σw ρw Fw ds
  fuel : n + ds.length = sizeLine
  inv : Inv X ip σ H s
  sr : SR C.K F H σ ρ
  ev : EvW σw ρw Fw X.H_0 σ ρ F H
  ap : ∀ p ∈ ip, p.1 ∉ C.pa
def LY (C : Cons) : Protocol := fun n s₀ v s kap => ∃ ip X σw ρw Fw σ ρ F H x d ds, Sit C ip X σw ρw Fw σ ρ F H ds (n + 1) s ∧ RelV x v ∧ Rep C.K F x d ∧ (ds ++ [d]) <+: C.Ds ∧
  ∀ X' F' s', Sit C ip X' σ ρ F' σ ρ F' X'.H_0 (ds ++ [d]) n s' → Same F F' → (∀ a o, Ow σ ρ a → H a = some o → X'.H_0 a = some o) → kap (.send .none) s'
def LR (C : Cons) : GenEnd := fun n s₀ r s => (r = .ok (.ret .none) ∨ r = .ok .next) ∧ ∃ X σw ρw Fw σ ρ F H, Sit C [] X σw ρw Fw σ ρ F H C.Ds n s
def Grows (ds : List D) : GRS → Prop
  | .nx es _ => ds <+: es
  | .bk es _ => ds <+: es
  | .ct es _ => ds <+: es
  | .rt es _ _ => ds <+: es
  | _ => True
section
variable {C : Cons} {X : Cx} {ip : List (Addr × Obj)} {σw σ σ' : L2.St} {ρw ρ ρ' : DEnv} {Fw F F' H H' : Hp} {ds : List D} {n : Nat} {s s' : Shared}
theorem Cons.pt (C : Cons) {e : Expr} {t : TT} (hX : C.XX X) (h : PT X e t) {Q : Bool → Hp → Prop} (I : Inv X ip σ H s) (q : t σ H Q) : wpAny (model C.prog C.w) C.A (isTrue e C.env (eval e C.env)) (TP X ip σ Q) X.xe s := by
  rw [← C.eprog X hX, ← C.ew X hX, ← C.eA X hX, ← C.eenv X hX]
  exact h.run ip s σ H Q I q
end
end DL
set_option maxHeartbeats 1000000
/-! GN4: the statements of a generator's body, turn by turn. -/
namespace DL
open PySem PySem.Spec PyProof.Rows L2 GenW
variable [TabT]
section
variable {C : Cons} {st : Stmt} {rest : List Stmt}
theorem Grows.le {ds es : List D} (h : ds <+: es) {r : GRS} (g : Grows es r) : Grows ds r := by
  cases r with
  | nx a b => exact h.trans g
  | bk a b => exact h.trans g
  | ct a b => exact h.trans g
  | rt a x b => exact h.trans g
  | ex a b => trivial
  | bad => trivial
end
end DL
set_option maxHeartbeats 1000000
/-! GN5: for, in a generator's body that is run turn by turn. -/
namespace DL
open PySem PySem.Spec PyProof.Rows L2 GenW
variable [TabT]
section
variable {C : Cons}
/-- what a loop adds to the story -/
def Hst.lock (Z : Hst) (lk : Option (Nat × Cont × Addr × HO)) (F : Hp) : Hst := { hs := (match lk with | some x => x :: Z.hs | none => Z.hs), Fs := F :: Z.Fs }
theorem EvW.lock {σ σ1 : L2.St} {ρ ρ1 : DEnv} {F F1 H H1 : Hp} {lk : Option Nat} (e : EvW σ ρ F H σ1 ρ1 F1 H1) : EvW σ ρ F H σ1 (lockS lk ρ1) F1 H1 := by
  unfold lockS
  split
  · exact e
  · split
    · rename_i q; exact e.mode q
    · exact e
end
end DL
set_option maxHeartbeats 1000000
/-! GN6: yield from a new list, turn by turn. -/
namespace DL
open PySem PySem.Spec PyProof.Rows L2 GenW
end DL
set_option maxHeartbeats 1000000
/-! GN17 (ahead of GN7): a sleeping generator's cells, kept by its consumer as things that are known to the object. -/
namespace DL
open PySem PySem.Spec PyProof.Rows L2 GenW
variable [TabT]
/-- the cells of a generator's frame -/
def GCell (qual : Str) (scope : Scope) (L : Nat) (f : Addr) (cd : Value) (c : Addr) : Prop := ∃ x, (envOfC qual scope L f cd).cells.lookup x = some c
end DL
set_option maxHeartbeats 1000000
/-! GN7: a generator def, run turn by turn beside its consumer. -/
namespace DL
open PySem PySem.Spec PyProof.Rows L2 GenW
/-! ### the heap of before -/
def cutH (h : Heap) (L : Nat) : Heap := { h with objs := h.objs.extract 0 L }
def cutS (s : Shared) (L : Nat) : Shared := { s with heap := cutH s.heap L }
section
variable {P : Program} {w : World} {K : PySem.W.Frag} {mg : Str → Option Value} {base : Heap} {N : List Str} {qual : Str} {scope : Scope} {f : Addr} {cd : Value} {A : Around} {outer : List Env} {L : Nat} {pn : List (Addr × Obj)}
abbrev XK0 : XK := fun _ _ _ => False
/-- the consumer of a generator def's call -/
def consOf (P : Program) (w : World) (K : PySem.W.Frag) (mg : Str → Option Value) (base : Heap) (N : List Str) (qual : Str) (scope : Scope) (f : Addr) (cd : Value) (A : Around) (outer : List Env) (L : Nat) (pa : List Addr) (Pay : Cx → L2.St → DEnv → Hp → List D → Prop) (Ds : List D) : Cons where
  prog := P
  w := w
  K := K
  mg := mg
  env := envOfC qual scope L f cd
  A := A.deeper (envOfC qual scope L f cd)
  XX := fun X => ∃ sR HR pnR, pnR.map (·.1) = pa ∧ sR.heap.objs.size = L ∧ X = gcxOf P w K mg base N qual scope f cd A outer sR HR XK0 pnR
  Pay := Pay
  Ds := Ds
  L := L
  eL := by rintro X ⟨sR, HR, pnR, hp, h, rfl⟩; exact h
  eex := by rintro X ⟨sR, HR, pnR, hp, h, rfl⟩; rfl
  pa := pa
  epa := by rintro X ⟨sR, HR, pnR, hp, h, rfl⟩; exact hp
  eprog := by rintro X ⟨sR, HR, pnR, hp, h, rfl⟩; rfl
  ew := by rintro X ⟨sR, HR, pnR, hp, h, rfl⟩; rfl
  eK := by rintro X ⟨sR, HR, pnR, hp, h, rfl⟩; rfl
  emg := by rintro X ⟨sR, HR, pnR, hp, h, rfl⟩; rfl
  eenv := by rintro X ⟨sR, HR, pnR, hp, h, rfl⟩; rw [← h]; rfl
  eA := by rintro X ⟨sR, HR, pnR, hp, h, rfl⟩; rw [← h]; rfl
end
end DL
set_option maxHeartbeats 1000000
/-! GN8: the rule for a generator def that is consumed item by item. -/
namespace DL
open PySem PySem.Spec PyProof.Rows L2 GenW
variable [TabT]
/-- no slot owns anything -/
def AllD (ρ : DEnv) : Prop := ∀ (i : Nat) (c : Cont) (m : Md), ρ[i]? ≠ some (Slot.ow c m)
/-- what the call of a generator def gives: a generator that has not begun, and how it goes at its first wake -/
def LMade (P : Program) (w : World) (K : PySem.W.Frag) (mg : Str → Option Value) (base : Heap) (N : List Str) (qual : Str) (scope : Scope) (f : Addr) (cd : Value) (k : Nat) (outer : List Env) (F : Hp) (s : Shared) (σ0 : L2.St) (ρ0 : DEnv) (Ds : List D) (u : Value) (s' : Shared) : Prop :=
  ∃ (a : Addr) (g : Nat) (c : Code) (go fo : Obj) (nm qn : Value), u = .ref a ∧ s.heap.objs.size < a ∧ go.cls = .type "generator" ∧ go.data = .fields #[.int g 0, nm, qn] ∧ go.slots = #[] ∧ s'.heap.get? a = some go ∧ s'.heap.get? s.heap.objs.size = some fo ∧ (∀ v, fo.data ≠ .cell v) ∧ s'.gens[g]? = some (.fresh c) ∧ s'.os = s.os ∧ AllBare s'.gens ∧ s'.heap.NoLimit ∧ (∀ b o, s.heap.get? b = some o → s'.heap.get? b = some o) ∧ (∀ c, GCell qual scope s.heap.objs.size f cd c → s.heap.objs.size < c ∧ c < a ∧ ∃ v, s'.heap.IsCell c v) ∧
    ∀ (Aw : Around) (Pay : Cx → L2.St → DEnv → Hp → List D → Prop) (s2 : Shared) (H2 F2 : Hp) (ex : List (Addr × Obj)), Room k Aw → Env0 P w K mg base Aw outer s2 H2 → s2.heap.get? s.heap.objs.size = some fo → s2.heap.get? a = some go → H2 s.heap.objs.size = none → H2 a = none → (∀ c, GCell qual scope s.heap.objs.size f cd c → s2.heap.get? c = s'.heap.get? c ∧ H2 c = none) → Same F F2 → Same F2 H2 → TabOk F2 H2 →
      (∀ p ∈ ex, s2.heap.get? p.1 = some p.2 ∧ H2 p.1 = none ∧ p.1 ≠ s.heap.objs.size ∧ p.1 ∉ frs outer ∧ ∀ v, p.2.data ≠ .cell v) →
      Pay (gcxOf P w K mg base N qual scope f cd Aw outer (cutS s2 s.heap.objs.size) H2 XK0 ((a, go) :: ex)) σ0 ρ0 F2 [] →
      Seg (model P w) Aw (LR (consOf P w K mg base N qual scope f cd Aw outer s.heap.objs.size (a :: ex.map (·.1)) Pay Ds)) (LY (consOf P w K mg base N qual scope f cd Aw outer s.heap.objs.size (a :: ex.map (·.1)) Pay Ds)) sizeLine s2 c ((model P w).den c) [] s2
structure LGen (P : Program) (w : World) (K : PySem.W.Frag) (mg : Str → Option Value) (base : Heap) (k : Nat) (f : Addr) (fd : FuncData) (ps : List Str) (nl : Nat) (g : GM) : Prop where
  run : ∀ (A : Around) (outer : List Env) (s : Shared) (H F : Hp) (args : Args) (us : List Value) (vs : List V) (as : DEnv) (Ds : List D) (ρ' : DEnv), Room k A → Env0 P w K mg base A outer s H → BindsTo s fd args (ps.zip us) → Vals vs us → vs.length = ps.length → SR K F H (vs.map some) as → AllD as → (∀ b ∈ frs outer, b < s.heap.objs.size) →
    g [] (as ++ List.replicate nl .un) = .nx Ds ρ' →
    codeAny (model P w) A (.call (.ref f) args) (fun r s' => match r with | .ok (.ret u) => ∃ N qual scope cd, LMade P w K mg base N qual scope f cd k outer F s (start N vs) (as ++ List.replicate nl .un) Ds u s' | _ => False) s
end DL
set_option maxHeartbeats 1000000
/-! GN9: the consumer's side of a turn. -/
namespace DL
open PySem PySem.Spec PyProof.Rows L2 GenW
variable [TabT]
/-- what the consumer does between two turns, seen by the generator -/
structure EvK (Ke : Addr → Prop) (σ : L2.St) (ρ : DEnv) (F H : Hp) (σ' : L2.St) (ρ' : DEnv) (F' H' : Hp) : Prop where
  ext : Same F F'
  keep : ∀ a o, H a = some o → ¬ Ow σ ρ a → ¬ Ke a → NT o → H' a = some o
  newF : ∀ a, F a = none → F' a ≠ none → H a = none ∨ Ow σ ρ a ∨ Ke a
  own' : ∀ a, Ow σ' ρ' a → H a = none ∨ Ow σ ρ a ∨ Ke a
theorem EvK.of {Ke : Addr → Prop} {σ σ1 : L2.St} {ρ ρ1 : DEnv} {F F1 H H1 : Hp} (e : Ev σ ρ F H σ1 ρ1 F1 H1) : EvK Ke σ ρ F H σ1 ρ1 F1 H1 := ⟨e.ext, fun a o h n _ nt => e.keep a o h (fun m => n m.ow) nt, fun a h n => (e.newF a h n).imp id .inl, fun a z => (e.own' a z).imp id .inl⟩
end DL
set_option maxHeartbeats 1000000
/-! GN10: from turn to turn. -/
namespace DL
open PySem PySem.Spec PyProof.Rows L2 GenW
end DL
set_option maxHeartbeats 1000000
/-! GN11: next(g), seen by the consumer. -/
namespace DL
open PySem PySem.Spec PyProof.Rows L2 GenW
end DL
set_option maxHeartbeats 1000000
/-! GN12: what is run while a generator sleeps; its arguments. -/
namespace DL
open PySem PySem.Spec PyProof.Rows L2 GenW
variable [TabT]
/-! ### the arguments: data alone -/
def dSlots : List Val → Option DEnv
  | [] => some []
  | .d x :: xs => match dSlots xs with
    | some as => some (.d x :: as)
    | none => none
  | _ => none
end DL
set_option maxHeartbeats 1000000
/-! GN13: for x in g(..). -/
namespace DL
open PySem PySem.Spec PyProof.Rows L2 GenW
end DL
set_option maxHeartbeats 1000000
/-! GN14: [.. for x in g(..)]: its reading. -/
namespace DL
open PySem PySem.Spec PyProof.Rows L2 GenW
end DL
set_option maxHeartbeats 1000000
/-! GN15: [.. for x in g(..)]. -/
namespace DL
open PySem PySem.Spec PyProof.Rows L2 GenW
end DL
set_option maxHeartbeats 1000000
/-! GN16: a generator def as a source of items, by its reading as a list. -/
namespace DL
open PySem PySem.Spec PyProof.Rows L2 GenW
variable [TabT]
/-! ### levels, cells -/
theorem LMade.mono {P : Program} {w : World} {K : PySem.W.Frag} {mg : Str → Option Value} {base : Heap} {N : List Str} {qual : Str} {scope : Scope} {f : Addr} {cd : Value} {j k : Nat} {outer : List Env} {F : Hp} {s : Shared} {σ0 : L2.St} {ρ0 : DEnv} {Ds : List D} {u : Value} {s' : Shared} (h : j ≤ k) (m : LMade P w K mg base N qual scope f cd j outer F s σ0 ρ0 Ds u s') : LMade P w K mg base N qual scope f cd k outer F s σ0 ρ0 Ds u s' := by
  obtain ⟨a, g, c, go, fo, nm, qn, h1, h2, h3, h4, h5, h6, h7, h8, h9, h10, h11, h12, h13, h14, hS⟩ := m
  exact ⟨a, g, c, go, fo, nm, qn, h1, h2, h3, h4, h5, h6, h7, h8, h9, h10, h11, h12, h13, h14, fun Aw Pay s2 H2 F2 ex hr => hS Aw Pay s2 H2 F2 ex (hr.mono h)⟩
theorem LGen.mono {P : Program} {w : World} {K : PySem.W.Frag} {mg : Str → Option Value} {base : Heap} {j k : Nat} {f : Addr} {fd : FuncData} {ps : List Str} {nl : Nat} {g : GM} (G : LGen P w K mg base j f fd ps nl g) (h : j ≤ k) : LGen P w K mg base k f fd ps nl g := by
  refine ⟨fun A outer s H F args us vs as Ds ρ' hr e0 hb r hl sr ha hf hg => codeAny_mono (G.run A outer s H F args us vs as Ds ρ' (hr.mono h) e0 hb r hl sr ha hf hg) fun r s' hq => ?_⟩
  cases r with
  | error e => exact hq
  | ok fl =>
    cases fl with
    | next => exact hq
    | brk => exact hq
    | cont => exact hq
    | ret u =>
      obtain ⟨N, qual, scope, cd, m⟩ := hq
      exact ⟨N, qual, scope, cd, m.mono h⟩
def iGenF (Fm : FM) (ga : M (List Val)) : IM := fun ρ => (ga ρ).bind fun xs ρ1 => match dSlots xs with
  | some as => (match Fm as with
    | .ret (.fr (.lst ds)) _ => .ok (ds, none) ρ1
    | _ => .bad)
  | none => .bad
/-! ### its reading -/
def LstK (x : Val) (G : List D → Prop) : Prop := ∃ ds, x = .fr (.lst ds) ∧ G ds
theorem b_lstK {ds : List D} {G : List D → Prop} (q : G ds) : LstK (.fr (.lst ds)) G := ⟨ds, rfl, q⟩
def iGenV (Fm : FM) (xs : List Val) : IM := fun ρ1 => match dSlots xs with
  | some as => (match Fm as with
    | .ret (.fr (.lst ds)) _ => .ok (ds, none) ρ1
    | _ => .bad)
  | none => .bad
theorem b_igen {Fm : FM} {ga : M (List Val)} {ρ : DEnv} {QI : Src → DEnv → Prop} {X : Ex → DEnv → Prop} (q : (ga ρ).wp (fun xs ρ1 => (iGenV Fm xs ρ1).wp QI X) X) : (iGenF Fm ga ρ).wp QI X := b_bind q
theorem b_igenV {Fm : FM} {xs : List Val} {as : DEnv} {ρ : DEnv} {QI : Src → DEnv → Prop} {X : Ex → DEnv → Prop} (e : dSlots xs = some as) (q : (Fm as).wp (fun x _ => LstK x fun ds => QI (ds, none) ρ) fun _ _ => False) : (iGenV Fm xs ρ).wp QI X := by
  unfold iGenV
  rw [e]
  dsimp only
  cases hF : Fm as with
  | ret x as2 =>
    rw [hF] at q
    obtain ⟨ds, rfl, q⟩ := q
    exact q
  | ex x as2 => rw [hF] at q; exact q.elim
  | bad => rw [hF] at q; exact q.elim
instance st_igen {Fm : FM} {ga : M (List Val)} {ρ : DEnv} {QI : Src → DEnv → Prop} {X : Ex → DEnv → Prop} : St ((iGenF Fm ga ρ).wp QI X) ((ga ρ).wp (fun xs ρ1 => (iGenV Fm xs ρ1).wp QI X) X) := ⟨b_igen⟩
instance st_lstK {ds : List D} {G : List D → Prop} : St (LstK (.fr (.lst ds)) G) (G ds) := ⟨b_lstK⟩
end DL
/-! DL50: a lambda of one parameter: made, called. -/
namespace DL
open PySem PySem.Spec PyProof.Rows L2 LamX
end DL
/-! DL51: sorted(xs, key=f): whatever f's calls keep (J). -/
namespace DL
open PySem PySem.Spec PyProof.Rows L2 LamX PySem.W
end DL
/-! DL52: sorted(xs, key=lambda p: body). -/
namespace DL
open PySem PySem.Spec PyProof.Rows L2 LamX
end DL
/-! DL53: sorted(xs, key=lambda p: body), read. -/
namespace DL
open PySem PySem.Spec PyProof.Rows L2 LamX
end DL
/-! DL54: the rule for sorted(e, key=lambda p: body). -/
namespace DL
open PySem PySem.Spec PyProof.Rows L2 LamX
end DL
/-! DL55: a def whose code object is known; list.remove; the law's end with tables of code objects. -/
namespace DL
open PySem PySem.Spec PyProof.Rows L2 LamX
end DL
/-! DL56: list(d), d a dict that the slot owns. -/
namespace DL
open PySem PySem.Spec PyProof.Rows L2
/-! reading rules -/
end DL
/-! DL57: reading sorted(e, key=..). -/
namespace DL
open PySem PySem.Spec PyProof.Rows L2
end DL
/-! DL58: sorted of a list of tuples of any data. -/
namespace DL
open PySem PySem.Spec PyProof.Rows L2
end DL
set_option maxHeartbeats 1000000
/-! DL59: a caught exception stands in the abstract heap; try with except clauses, with names and without. -/
namespace DL
open PySem PySem.Spec PyProof.Rows L2
end DL
set_option maxHeartbeats 1000000
/-! DL60: try with except clauses, on slots. -/
namespace DL
open PySem PySem.Spec PyProof.Rows L2
end DL
set_option maxHeartbeats 1000000
/-! DL61: an exception of a class of the program is made and raised. -/
namespace DL
open PySem PySem.Spec PyProof.Rows L2
variable [TabT]
/-! ### raise -/
/-- raise c(..): ns are the names of the fields, the last one set first -/
def sRaise (c : Str) (ns : List Str) (g : M (List Val)) : SM := fun ρ => (g ρ).bindS fun xs ρ1 => match dsL xs with
  | some ds => if ds.length = ns.length then .ex ⟨c, ns, ds.reverse⟩ ρ1 else .bad
  | none => .bad
end DL
set_option maxHeartbeats 1000000
/-! DL62: isinstance and fields of a caught exception. -/
namespace DL
open PySem PySem.Spec PyProof.Rows L2
end DL
set_option maxHeartbeats 1000000
/-! DL63: a lambda without parameters is made and handed to a def, which calls it. -/
namespace DL
open PySem PySem.Spec PyProof.Rows L2 LamX
/-! ### what the thunk gives -/
abbrev up (i : TabT) (F : Hp) : TabT := { mg := i.mg, T := i.T, FB := F }
end DL
set_option maxHeartbeats 1000000
/-! DL64: a def that calls the lambda it is given; its call. -/
namespace DL
open PySem PySem.Spec PyProof.Rows L2 LamX
end DL
set_option maxHeartbeats 1000000
/-! DL65: what the text of a law knows of its classes of exceptions. -/
namespace DL
open PySem PySem.Spec PyProof.Rows L2
end DL
set_option maxHeartbeats 1000000
/-! DL66: reading try, raise, isinstance and fields of exceptions. -/
namespace DL
open PySem PySem.Spec PyProof.Rows L2
end DL
set_option maxHeartbeats 1000000
/-! DL67: an item of a list as a target among others: xs[i], xs[j] = .. -/
namespace DL
open PySem PySem.Spec PyProof.Rows L2
end DL
set_option maxHeartbeats 1000000
/-! DL68: xs[::-1] of a list and of a tuple. -/
namespace L2
open PySem PySem.Spec PyProof.Rows
end L2
namespace DL
open PySem PySem.Spec PyProof.Rows L2
end DL
set_option maxHeartbeats 1000000
/-! DL69: what a def gives that calls its one parameter. -/
namespace DL
open PySem PySem.Spec PyProof.Rows L2
end DL
set_option maxHeartbeats 1000000
/-! DL70: isinstance of a caught exception by two classes, and by a class that is built in. -/
namespace DL
open PySem PySem.Spec PyProof.Rows L2
end DL
set_option maxHeartbeats 1000000
/-! DL71: reading the call of a def with a lambda. -/
namespace DL
open PySem PySem.Spec PyProof.Rows L2
end DL
set_option maxHeartbeats 2000000
/-! DL72: repr of data with empty dicts in it; == with the empty tuple. -/
namespace DL
open PySem PySem.Spec PyProof.Rows L2
variable [TabT]
section
variable (K : PySem.W.Frag) (H : Hp)
mutual
/-- data at any depth, empty dicts among it -/
inductive Dx : V → PyData → Prop
  | non : Dx .non .none
  | bl (b : Bool) : Dx (.bl b) (.bool b)
  | int (i : Int) : Dx (.int i) (.int i)
  | str (x : Str) : Dx (.str x) (.str x)
  | lst {a : Addr} {xs : List V} {ps : List PyData} : SqL K H a xs → DxL xs ps → Dx (.ref a) (.list ps)
  | tup {a : Addr} {xs : List V} {ps : List PyData} : SqT K H a xs → DxL xs ps → Dx (.ref a) (.tuple ps)
  | dic {a : Addr} : Rd H a (.dK []) → Dx (.ref a) (.dict [])
  | dic1 {a : Addr} {x : Str} {v : V} {p : PyData} : Rd H a (.dK [(.inr x, v)]) → Dx v p → Dx (.ref a) (.dict [(.str x, p)])
  | dici {a : Addr} {x : Int} {v : V} {p : PyData} : Rd H a (.dK [(.inl x, v)]) → Dx v p → Dx (.ref a) (.dict [(.int x, p)])
inductive DxL : List V → List PyData → Prop
  | nil : DxL [] []
  | cons {v : V} {vs : List V} {p : PyData} {ps : List PyData} : Dx v p → DxL vs ps → DxL (v :: vs) (p :: ps)
end
end
section
variable {X : Cx} {pins : List (Addr × Obj)} {σ : L2.St} {H : Hp} {s : Shared}
theorem dic0_at {a : Addr} (I : Inv X pins σ H s) (h : Rd H a (.dK [])) : ∃ o es n, s.heap.get? a = some o ∧ o.cls = .type "dict" ∧ o.data = .dict es n ∧ es.toList = [] ∧ (a == sysModules) = false := by
  obtain ⟨_, hd, vs, rel, o, es, n, g, ex, dt, _, pr, _⟩ := dk_rd I.hok h
  cases rel
  exact ⟨o, es, n, g, ex.1, dt, List.eq_nil_of_length_eq_zero pr.length, hd⟩
theorem dic1_at {a : Addr} {x : Str} {v : V} (I : Inv X pins σ H s) (h : Rd H a (.dK [(.inr x, v)])) : ∃ o es n e t, s.heap.get? a = some o ∧ o.cls = .type "dict" ∧ o.data = .dict es n ∧ es.toList = [e] ∧ e.key = Value.str x t ∧ RelV v e.val ∧ (a == sysModules) = false := by
  obtain ⟨_, hd, vs, rel, o, es, n, g, ex, dt, _, pr, _⟩ := dk_rd I.hok h
  cases rel with
  | cons r1 r2 =>
    cases r2
    obtain ⟨k1, v1⟩ := r1
    generalize he : es.toList = L at pr
    cases pr with
    | cons p1 p2 p3 =>
      cases p3
      rename_i e
      have p1' : Value.isStrOf x e.key = true := by
        have p1 : keyIs _ e.key = true := p1
        rw [← k1] at p1
        exact p1
      obtain ⟨t, ek⟩ := Value.isStrOf_shape (x := x) (v := e.key) p1'
      exact ⟨o, es, n, e, t, g, ex.1, dt, he, ek, by rw [p2]; exact v1, hd⟩
theorem dici_at {a : Addr} {x : Int} {v : V} (I : Inv X pins σ H s) (h : Rd H a (.dK [(.inl x, v)])) : ∃ o es n e t, s.heap.get? a = some o ∧ o.cls = .type "dict" ∧ o.data = .dict es n ∧ es.toList = [e] ∧ e.key = Value.int x t ∧ RelV v e.val ∧ (a == sysModules) = false := by
  obtain ⟨_, hd, vs, rel, o, es, n, g, ex, dt, _, pr, _⟩ := dk_rd I.hok h
  cases rel with
  | cons r1 r2 =>
    cases r2
    obtain ⟨k1, v1⟩ := r1
    generalize he : es.toList = L at pr
    cases pr with
    | cons p1 p2 p3 =>
      cases p3
      rename_i e
      have p1' : Value.isInt x e.key = true := by
        have p1 : keyIs _ e.key = true := p1
        rw [← k1] at p1
        exact p1
      obtain ⟨t, ek⟩ := Value.isInt_shape (k := x) (v := e.key) p1'
      exact ⟨o, es, n, e, t, g, ex.1, dt, he, ek, by rw [p2]; exact v1, hd⟩
/-- what is read, and how it is shown below others -/
structure Shw (P : Program) (w : World) (h : Heap) (u : Value) (p : PyData) : Prop where
  rd : ∃ as, Reads h u p as
  sh : ∃ bs, ReadAtMost h p.depth bs ∧ ReprK P w bs h p.depth u p.shown
structure ShwL (P : Program) (w : World) (h : Heap) (us : List Value) (ps : List PyData) : Prop where
  rd : ∃ as, ReadsAll h us ps as
  sh : ∃ bs, ReadAtMost h (PyData.depthAll ps) bs ∧ ReprAllK P w bs h (PyData.depthAll ps) us (PyData.shownAll ps)
section
variable {P : Program} {w : World} {h : Heap} {a : Addr} {o : Obj} {n : Nat} {its : Array Value} {ps : List PyData}
theorem shw_flat {u : Value} {p : PyData} {as : List Addr} (r : Reads h u p as) (k : ReprIs P w u p.shown) : Shw P w h u p := ⟨⟨_, r⟩, [], (fun _ z => nomatch z), ReprK.of_is k _ _ _⟩
theorem dep_lst : (PyData.list ps).depth = PyData.depthAll ps + 1 := by simp only [PyData.depth]
theorem dep_tup : (PyData.tuple ps).depth = PyData.depthAll ps + 1 := by simp only [PyData.depth]
theorem shw_lst (g : h.get? a = some o) (hc : o.cls = .type "list") (hd : o.data = .seq its n) (c : ShwL P w h its.toList ps) : Shw P w h (.ref a) (.list ps) := by
  obtain ⟨⟨as, ra⟩, bs, hb, hk⟩ := c
  have r := Reads.list g hc hd ra
  refine ⟨⟨_, r⟩, a :: bs, ReadAtMost.cons r (by rw [dep_lst]; exact Nat.le_succ _) hb, ?_⟩
  have fresh : a ∉ bs := not_mem_of_deeper r (by rw [dep_lst]; exact Nat.lt_succ_self _) hb
  rw [dep_lst, show (PyData.list ps).shown = listText (PyData.shownAll ps) by simp only [PyData.shown]]
  obtain ⟨l⟩ := its
  match l, ra, hk, hd with
  | [], ra, hk, hd =>
    cases ra
    exact ReprK.listEmpty g hc hd
  | u :: us, ra, hk, hd => exact ReprK.list g hc hd fresh (by rw [List.size_toArray]; exact hk.length_eq) fun i y z => hk.item i y (by rw [← z, List.getElem?_toArray])
theorem shw_tup (g : h.get? a = some o) (hc : o.cls = .type "tuple") (hd : o.data = .seq its n) (c : ShwL P w h its.toList ps) : Shw P w h (.ref a) (.tuple ps) := by
  obtain ⟨⟨as, ra⟩, bs, hb, hk⟩ := c
  have r := Reads.tuple g hc hd ra
  refine ⟨⟨_, r⟩, a :: bs, ReadAtMost.cons r (by rw [dep_tup]; exact Nat.le_succ _) hb, ?_⟩
  have fresh : a ∉ bs := not_mem_of_deeper r (by rw [dep_tup]; exact Nat.lt_succ_self _) hb
  rw [dep_tup, show (PyData.tuple ps).shown = tupleText (PyData.shownAll ps) by simp only [PyData.shown]]
  exact ReprK.tuple g hc hd fresh hk
theorem dep_dic1 {x : Str} {p : PyData} : (PyData.dict [(.str x, p)]).depth = p.depth + 1 := by
  simp only [PyData.depth, PyData.depthKv]
  omega
theorem shown_dic1 {x : Str} {p : PyData} : (PyData.dict [(.str x, p)]).shown = dictText [reprText x ++ ": " ++ p.shown] := by simp only [PyData.shown, PyData.shownKv]
theorem ent1 {e : DictEntry} {es : Array DictEntry} {x : Str} {t : Tok} {p : PyData} {bs : List Addr} (ee : es.toList = [e]) (ek : e.key = Value.str x t) (hx : (reprText x).length ≤ sizeLine) (k : ReprK P w bs h p.depth e.val p.shown) : ReprEntriesK P w bs h p.depth es.toList [reprText x ++ ": " ++ p.shown] := by
  rw [ee]
  refine .cons ?_ k .nil
  rw [ek]
  exact ReprK.of_is (ReprIs.str x t hx) _ _ _
theorem rd_dic1 {e : DictEntry} {es : Array DictEntry} {x : Str} {t : Tok} {p : PyData} {as : List Addr} (g : h.get? a = some o) (hc : o.cls = .type "dict") (hd : o.data = .dict es n) (ee : es.toList = [e]) (ek : e.key = Value.str x t) (r : Reads h e.val p as) : ∃ as, Reads h (.ref a) (.dict [(.str x, p)]) as :=
  ⟨_, Reads.dict (kvs := [(.str x, p)]) g hc hd (by rw [ee, List.map_singleton, ek]; exact .cons (.str x t) .nil) (by rw [ee, List.map_singleton]; exact .cons r .nil)⟩
theorem shw_dic1 {e : DictEntry} {es : Array DictEntry} {x : Str} {t : Tok} {p : PyData} (g : h.get? a = some o) (hc : o.cls = .type "dict") (hd : o.data = .dict es n) (ee : es.toList = [e]) (ek : e.key = Value.str x t) (low : (a == sysModules) = false) (hx : (reprText x).length ≤ sizeLine) (c : Shw P w h e.val p) : Shw P w h (.ref a) (.dict [(.str x, p)]) := by
  obtain ⟨⟨as, ra⟩, bs, hb, hk⟩ := c
  obtain ⟨as2, r⟩ := rd_dic1 g hc hd ee ek ra
  refine ⟨⟨_, r⟩, a :: bs, ReadAtMost.cons r (by rw [dep_dic1]; exact Nat.le_succ _) hb, ?_⟩
  have fresh : a ∉ bs := not_mem_of_deeper r (by rw [dep_dic1]; exact Nat.lt_succ_self _) hb
  rw [dep_dic1, shown_dic1]
  exact ReprK.dict g hc hd low fresh (ent1 ee ek hx hk)
theorem dic1_len {x : Str} {p : PyData} (hz : (PyData.dict [(.str x, p)]).shown.length ≤ sizeLine) : (reprText x).length ≤ sizeLine ∧ p.shown.length ≤ sizeLine := by
  rw [shown_dic1] at hz
  have h1 := Nat.le_trans (dictText_mem_le (ps := [reprText x ++ ": " ++ p.shown]) List.mem_cons_self) hz
  rw [Str.length_append, Str.length_append] at h1
  omega
theorem dep_dici {x : Int} {p : PyData} : (PyData.dict [(.int x, p)]).depth = p.depth + 1 := by
  simp only [PyData.depth, PyData.depthKv]
  omega
theorem shown_dici {x : Int} {p : PyData} : (PyData.dict [(.int x, p)]).shown = dictText [(PyData.int x).shown ++ ": " ++ p.shown] := by simp only [PyData.shown, PyData.shownKv]
theorem enti {e : DictEntry} {es : Array DictEntry} {x : Int} {t : Tok} {p : PyData} {bs : List Addr} (ee : es.toList = [e]) (ek : e.key = Value.int x t) (hx : x.natAbs.log2 < 1920) (k : ReprK P w bs h p.depth e.val p.shown) : ReprEntriesK P w bs h p.depth es.toList [(PyData.int x).shown ++ ": " ++ p.shown] := by
  rw [ee]
  refine .cons ?_ k .nil
  rw [ek]
  exact ReprK.of_is (ReprIs.int t hx) _ _ _
theorem rd_dici {e : DictEntry} {es : Array DictEntry} {x : Int} {t : Tok} {p : PyData} {as : List Addr} (g : h.get? a = some o) (hc : o.cls = .type "dict") (hd : o.data = .dict es n) (ee : es.toList = [e]) (ek : e.key = Value.int x t) (r : Reads h e.val p as) : ∃ as, Reads h (.ref a) (.dict [(.int x, p)]) as :=
  ⟨_, Reads.dict (kvs := [(.int x, p)]) g hc hd (by rw [ee, List.map_singleton, ek]; exact .cons (.int x t) .nil) (by rw [ee, List.map_singleton]; exact .cons r .nil)⟩
theorem shw_dici {e : DictEntry} {es : Array DictEntry} {x : Int} {t : Tok} {p : PyData} (g : h.get? a = some o) (hc : o.cls = .type "dict") (hd : o.data = .dict es n) (ee : es.toList = [e]) (ek : e.key = Value.int x t) (low : (a == sysModules) = false) (hx : x.natAbs.log2 < 1920) (c : Shw P w h e.val p) : Shw P w h (.ref a) (.dict [(.int x, p)]) := by
  obtain ⟨⟨as, ra⟩, bs, hb, hk⟩ := c
  obtain ⟨as2, r⟩ := rd_dici g hc hd ee ek ra
  refine ⟨⟨_, r⟩, a :: bs, ReadAtMost.cons r (by rw [dep_dici]; exact Nat.le_succ _) hb, ?_⟩
  have fresh : a ∉ bs := not_mem_of_deeper r (by rw [dep_dici]; exact Nat.lt_succ_self _) hb
  rw [dep_dici, shown_dici]
  exact ReprK.dict g hc hd low fresh (enti ee ek hx hk)
theorem dici_show {x : Int} {p : PyData} (h : (PyData.dict [(.int x, p)]).showable = true) : x.natAbs.log2 < 1920 ∧ p.showable = true := by
  simpa [PyData.showable, PyData.showableKv] using h
theorem dici_len {x : Int} {p : PyData} (hz : (PyData.dict [(.int x, p)]).shown.length ≤ sizeLine) : p.shown.length ≤ sizeLine := by
  rw [shown_dici] at hz
  have h1 := Nat.le_trans (dictText_mem_le (ps := [(PyData.int x).shown ++ ": " ++ p.shown]) List.mem_cons_self) hz
  rw [Str.length_append, Str.length_append] at h1
  omega
theorem shown_dic0 : (PyData.dict []).shown = dictText [] := by simp only [PyData.shown, PyData.shownKv]
theorem ent0 {es : Array DictEntry} (e : es.toList = []) : ReprEntriesK P w [] h 0 es.toList [] := by
  rw [e]
  exact ReprEntriesK.of_two [] [] [] .nil .nil
theorem rd_dic0 {es : Array DictEntry} (g : h.get? a = some o) (hc : o.cls = .type "dict") (hd : o.data = .dict es n) (e : es.toList = []) : ∃ as, Reads h (.ref a) (.dict []) as :=
  ⟨_, Reads.dict (kvs := []) (as := []) (bs := []) g hc hd (by rw [e]; exact .nil) (by rw [e]; exact .nil)⟩
theorem shw_dic {es : Array DictEntry} (g : h.get? a = some o) (hc : o.cls = .type "dict") (hd : o.data = .dict es n) (e : es.toList = []) (low : (a == sysModules) = false) : Shw P w h (.ref a) (.dict []) := by
  obtain ⟨as, r⟩ := rd_dic0 g hc hd e
  have dz : (PyData.dict []).depth = 1 := by decide +kernel
  have hb : ReadAtMost h 0 [] := fun _ z => nomatch z
  refine ⟨⟨_, r⟩, [a], ReadAtMost.cons r (Nat.zero_le _) hb, ?_⟩
  rw [dz, shown_dic0]
  exact ReprK.dict g hc hd low (fun z => nomatch z) (ent0 e)
end
mutual
theorem Dx.shw (I : Inv X pins σ H s) : ∀ {v : V} {p : PyData} {u : Value}, Dx X.K H v p → RelV v u → p.showable = true → p.shown.length ≤ sizeLine → Shw X.prog X.w s.heap u p
  | _, _, _, .non, r, _, _ => by
    cases r
    exact shw_flat .none (by simp only [PyData.shown]; exact ReprIs.none)
  | _, _, _, .bl b, r, _, _ => by
    cases r
    exact shw_flat (.bool b) (by simp only [PyData.shown]; exact ReprIs.bool b)
  | _, _, _, .int i, r, hs, _ => by
    obtain ⟨t, rfl⟩ := r
    exact shw_flat (.int i t) (by simp only [PyData.shown]; exact ReprIs.int t (by simpa [PyData.showable] using hs))
  | _, _, _, .str x, r, _, hz => by
    obtain ⟨t, rfl⟩ := r
    exact shw_flat (.str x t) (by simp only [PyData.shown]; exact ReprIs.str x t (by simpa only [PyData.shown] using hz))
  | _, _, _, .lst (ps := ps) hs ha, r, sh, hz => by
    cases r
    obtain ⟨its, rv, ⟨o, n, ho, hc, _, hd⟩, _⟩ := I.list hs
    have hz2 : (listText (PyData.shownAll ps)).length ≤ sizeLine := by simpa only [PyData.shown] using hz
    exact shw_lst ho hc hd (DxL.shw I ha rv (by simpa [PyData.showable] using sh) fun t ht => Nat.le_trans (listText_mem_le ht) hz2)
  | _, _, _, .tup (ps := ps) hs ha, r, sh, hz => by
    cases r
    obtain ⟨its, rv, ⟨o, ho, hc, n, hd⟩, _⟩ := I.tuple hs
    have hz2 : (tupleText (PyData.shownAll ps)).length ≤ sizeLine := by simpa only [PyData.shown] using hz
    exact shw_tup ho hc hd (DxL.shw I ha rv (by simpa [PyData.showable] using sh) fun t ht => Nat.le_trans (tupleText_mem_le ht) hz2)
  | _, _, _, .dic hd, r, _, _ => by
    cases r
    obtain ⟨o, es, n, g, hc, dt, e, low⟩ := dic0_at I hd
    exact shw_dic g hc dt e low
  | _, _, _, .dic1 hd ha, r, sh, hz => by
    cases r
    obtain ⟨o, es, n, e, t, g, hc, dt, ee, ek, rv, low⟩ := dic1_at I hd
    obtain ⟨z1, z2⟩ := dic1_len hz
    exact shw_dic1 g hc dt ee ek low z1 (Dx.shw I ha rv (by simpa [PyData.showable, PyData.showableKv] using sh) z2)
  | _, _, _, .dici hd ha, r, sh, hz => by
    cases r
    obtain ⟨o, es, n, e, t, g, hc, dt, ee, ek, rv, low⟩ := dici_at I hd
    have z2 := dici_len hz
    have sh2 := dici_show sh
    exact shw_dici g hc dt ee ek low sh2.1 (Dx.shw I ha rv sh2.2 z2)
theorem DxL.shw (I : Inv X pins σ H s) : ∀ {vs : List V} {ps : List PyData} {us : List Value}, DxL X.K H vs ps → Vals vs us → PyData.showableAll ps = true → (∀ t ∈ PyData.shownAll ps, t.length ≤ sizeLine) → ShwL X.prog X.w s.heap us ps
  | _, _, _, .nil, r, _, _ => by
    cases r
    exact ⟨⟨_, .nil⟩, [], (fun _ z => nomatch z), by simp only [PyData.shownAll]; exact .nil⟩
  | _, _, _, .cons (p := p) (ps := ps) a b, r, sh, hz => by
    cases r with
    | cons r1 r2 =>
      have sh2 : p.showable = true ∧ PyData.showableAll ps = true := by simpa [PyData.showableAll] using sh
      obtain ⟨⟨as, x1⟩, b1, y1, z1⟩ := Dx.shw I a r1 sh2.1 (hz _ (by simp only [PyData.shownAll]; exact List.mem_cons_self))
      obtain ⟨⟨bs, x2⟩, b2, y2, z2⟩ := DxL.shw I b r2 sh2.2 fun t ht => hz t (by simp only [PyData.shownAll]; exact List.mem_cons_of_mem _ ht)
      have d1 : p.depth ≤ PyData.depthAll (p :: ps) := by simp only [PyData.depthAll]; exact Nat.le_max_left _ _
      have d2 : PyData.depthAll ps ≤ PyData.depthAll (p :: ps) := by simp only [PyData.depthAll]; exact Nat.le_max_right _ _
      refine ⟨⟨_, .cons x1 x2⟩, b1 ++ b2, (y1.mono d1).append (y2.mono d2), ?_⟩
      rw [show PyData.shownAll (p :: ps) = p.shown :: PyData.shownAll ps by simp only [PyData.shownAll]]
      exact .cons ((z1.more fun b hb => List.mem_append_left _ hb).level_le d1) (z2.more_le (fun b hb => List.mem_append_right _ hb) d2)
end
end
end DL
set_option maxHeartbeats 2000000
/-! DL73: repr at the top, == with the empty tuple, bools in sums, str(int), upper. -/
namespace DL
open PySem PySem.Spec PyProof.Rows L2
variable [TabT]
section
variable {X : Cx} {pins : List (Addr × Obj)} {σ : L2.St} {H : Hp} {s : Shared}
theorem repr_top {a : Addr} {p : PyData} {Q E : Value → Shared → Prop} (I : Inv X pins σ H s) (d : Dx X.K H (.ref a) p) (sh : p.showable = true) (hz : p.shown.length ≤ sizeLine) (hg : X.A.guards = some []) (hu : X.A.units + 64 < cLine) (hd : p.depth ≤ 60)
    (hQ : ∀ h' t tk, (∀ b o, s.heap.get? b = some o → h'.get? b = some o) → Q (.str p.shown t) { s with heap := h', toks := tk }) : wpAny (model X.prog X.w) X.A (call (.builtin "repr") [.ref a]) Q E s := by
  have hg1 : X.A.in1.guards = some [] := hg
  cases d with
  | lst hs ha =>
    rename_i xs ps
    obtain ⟨its, rv, ⟨o, n, ho, hc, _, dt⟩, _⟩ := I.list hs
    have hz2 : (listText (PyData.shownAll ps)).length ≤ sizeLine := by simpa only [PyData.shown] using hz
    obtain ⟨⟨as, ra⟩, bs, hb, hk⟩ := DxL.shw I ha rv (by simpa [PyData.showable] using sh) fun t ht => Nat.le_trans (listText_mem_le ht) hz2
    have fresh : a ∉ bs := not_mem_of_deeper (Reads.list (vs := its.toArray) ho hc dt ra) (by rw [dep_lst]; exact Nat.lt_succ_self _) hb
    rw [dep_lst] at hd
    rw [show (PyData.list ps).shown = listText (PyData.shownAll ps) by simp only [PyData.shown]] at hQ
    refine call_repr_slot (by omega) ⟨o, ho, hc⟩ F.slot_list_repr.toG ?_
    match its, ra, hk, dt with
    | [], ra, hk, dt =>
      cases ra
      refine call_list_repr_empty ⟨o, ho, hc⟩ ho dt ⟨_, _, rfl, ?_⟩
      rw [show PyData.shownAll [] = [] by simp only [PyData.shownAll], listText_nil] at hQ
      exact hQ _ _ _ fun _ _ z => z
    | u :: us, ra, hk, dt =>
      exact call_list_reprK ho hc dt fresh (by rw [List.size_toArray]; exact hk.length_eq) (fun i y z => hk.item i y (by rw [← z, List.getElem?_toArray])) hg1 (fun b _ => Clear.nil b) (by show X.A.units + 1 + _ < cLine; omega) (fun _ _ z => z) (fun h' t tk k => ⟨_, _, rfl, hQ h' t tk k⟩) hz2
  | tup hs ha =>
    rename_i xs ps
    obtain ⟨its, rv, ⟨o, ho, hc, n, dt⟩, _⟩ := I.tuple hs
    have hz2 : (tupleText (PyData.shownAll ps)).length ≤ sizeLine := by simpa only [PyData.shown] using hz
    obtain ⟨⟨as, ra⟩, bs, hb, hk⟩ := DxL.shw I ha rv (by simpa [PyData.showable] using sh) fun t ht => Nat.le_trans (tupleText_mem_le ht) hz2
    have fresh : a ∉ bs := not_mem_of_deeper (Reads.tuple (vs := its.toArray) ho hc dt ra) (by rw [dep_tup]; exact Nat.lt_succ_self _) hb
    rw [dep_tup] at hd
    rw [show (PyData.tuple ps).shown = tupleText (PyData.shownAll ps) by simp only [PyData.shown]] at hQ
    refine call_repr_slot (by omega) ⟨o, ho, hc⟩ F.slot_tuple_repr ?_
    exact call_tuple_reprK ho hc dt fresh hk hg1 (fun b _ => Clear.nil b) (by show X.A.units + 1 + _ < cLine; omega) (fun _ _ z => z) (fun h' t tk k => ⟨_, _, rfl, hQ h' t tk k⟩) hz2
  | dic hr =>
    obtain ⟨o, es, n, g, hc, dt, e, low⟩ := dic0_at I hr
    rw [shown_dic0] at hQ
    refine call_repr_slot (by omega) ⟨o, g, hc⟩ F.slot_dict_repr ?_
    exact call_dict_reprK g hc dt low (List.not_mem_nil) (ent0 e) hg1 (fun b _ => Clear.nil b) (by show X.A.units + 1 + _ < cLine; omega) (fun _ _ z => z) (fun h' t tk k => ⟨_, _, rfl, hQ h' t tk k⟩) (by decide +kernel)
  | dic1 hr ha =>
    obtain ⟨o, es, n, e, t, g, hc, dt, ee, ek, rv, low⟩ := dic1_at I hr
    obtain ⟨z1, z2⟩ := dic1_len hz
    obtain ⟨⟨as, ra⟩, bs, hb, hk⟩ := Dx.shw I ha rv (by simpa [PyData.showable, PyData.showableKv] using sh) z2
    obtain ⟨as2, r2⟩ := rd_dic1 g hc dt ee ek ra
    have fresh : a ∉ bs := not_mem_of_deeper r2 (by rw [dep_dic1]; exact Nat.lt_succ_self _) hb
    rw [dep_dic1] at hd
    have hz2 := hz
    rw [shown_dic1] at hQ hz2
    refine call_repr_slot (by omega) ⟨o, g, hc⟩ F.slot_dict_repr ?_
    exact call_dict_reprK g hc dt low fresh (ent1 ee ek z1 hk) hg1 (fun b _ => Clear.nil b) (by show X.A.units + 1 + _ < cLine; omega) (fun _ _ z => z) (fun h' t tk k => ⟨_, _, rfl, hQ h' t tk k⟩) hz2
  | dici hr ha =>
    obtain ⟨o, es, n, e, t, g, hc, dt, ee, ek, rv, low⟩ := dici_at I hr
    have z2 := dici_len hz
    have sh2 := dici_show sh
    obtain ⟨⟨as, ra⟩, bs, hb, hk⟩ := Dx.shw I ha rv sh2.2 z2
    obtain ⟨as2, r2⟩ := rd_dici g hc dt ee ek ra
    have fresh : a ∉ bs := not_mem_of_deeper r2 (by rw [dep_dici]; exact Nat.lt_succ_self _) hb
    rw [dep_dici] at hd
    have hz2 := hz
    rw [shown_dici] at hQ hz2
    refine call_repr_slot (by omega) ⟨o, g, hc⟩ F.slot_dict_repr ?_
    exact call_dict_reprK g hc dt low fresh (enti ee ek sh2.1 hk) hg1 (fun b _ => Clear.nil b) (by show X.A.units + 1 + _ < cLine; omega) (fun _ _ z => z) (fun h' t tk k => ⟨_, _, rfl, hQ h' t tk k⟩) hz2
end
def rReprT (K : PySem.W.Frag) : List V → Hp → VK → Prop := fun xs H Q => ∃ a p, xs = [.ref a] ∧ Dx K H (.ref a) p ∧ p.showable = true ∧ p.depth ≤ 60 ∧ p.shown.length ≤ sizeLine ∧ Q (.str p.shown) H
theorem call_repr_dx {X : Cx} (hg : X.A.guards = some []) (hu : X.A.units + 64 < cLine) : CallR X (.builtin "repr") (rReprT X.K) := by
  intro pins s σ H xs us Q I r h
  obtain ⟨a, p, rfl, d, h1, h2, h3, q⟩ := h
  rw [Vals.ref1 r]
  exact repr_top I d h1 h3 hg hu h2 fun h' t tk k => ⟨.str p.shown, H, I.kept k, ⟨t, rfl⟩, q⟩
mutual
def D.toPyX : D → Option PyData
  | .non => some .none
  | .bl b => some (.bool b)
  | .int i => some (.int i)
  | .str x => some (.str x)
  | .tup xs => (toPyXL xs).map .tuple
  | .lst xs => (toPyXL xs).map .list
  | .dic [] [] => some (.dict [])
  | .dic [.inr x] [d] => match D.toPyX d with
    | some p => some (.dict [(.str x, p)])
    | none => none
  | .dic [.inl x] [d] => match D.toPyX d with
    | some p => some (.dict [(.int x, p)])
    | none => none
  | _ => none
def toPyXL : List D → Option (List PyData)
  | [] => some []
  | x :: xs => match D.toPyX x, toPyXL xs with
    | some p, some ps => some (p :: ps)
    | _, _ => none
end
section
variable {K : PySem.W.Frag} {F H : Hp}
mutual
theorem Rep.dx : ∀ {v : V} {d : D} {p : PyData}, Rep K H v d → d.toPyX = some p → Dx K H v p
  | _, _, _, .non, e => by simp only [D.toPyX] at e; cases e; exact .non
  | _, _, _, .bl b, e => by simp only [D.toPyX] at e; cases e; exact .bl b
  | _, _, _, .int i, e => by simp only [D.toPyX] at e; cases e; exact .int i
  | _, _, _, .str x, e => by simp only [D.toPyX] at e; cases e; exact .str x
  | _, _, _, .lst (ds := ds) h r, e => by
    simp only [D.toPyX] at e
    cases q : toPyXL ds with
    | none => rw [q] at e; cases e
    | some ps => rw [q] at e; cases e; exact .lst (.of h) (RepL.dx r q)
  | _, _, _, .tup (ds := ds) h r, e => by
    simp only [D.toPyX] at e
    cases q : toPyXL ds with
    | none => rw [q] at e; cases e
    | some ps => rw [q] at e; cases e; exact .tup h (RepL.dx r q)
  | _, _, _, .dic (ks := ks) (ds := ds) h l r, e => by
    match ks, ds, e with
    | [], [], e => simp only [D.toPyX] at e; cases e; exact .dic (.inr ⟨_, h⟩)
    | [], _ :: _, e => simp only [D.toPyX] at e; cases e
    | [.inr x], [d], e =>
      simp only [D.toPyX] at e
      cases q : d.toPyX with
      | none => rw [q] at e; cases e
      | some p =>
        rw [q] at e; cases e
        cases r with
        | cons r1 r2 => cases r2; exact .dic1 (.inr ⟨_, h⟩) (Rep.dx r1 q)
    | [.inr x], [], e => simp only [D.toPyX] at e; cases e
    | [.inr x], _ :: _ :: _, e => simp only [D.toPyX] at e; cases e
    | [.inl x], [d], e =>
      simp only [D.toPyX] at e
      cases q : d.toPyX with
      | none => rw [q] at e; cases e
      | some p =>
        rw [q] at e; cases e
        cases r with
        | cons r1 r2 => cases r2; exact .dici (.inr ⟨_, h⟩) (Rep.dx r1 q)
    | [.inl x], [], e => simp only [D.toPyX] at e; cases e
    | [.inl x], _ :: _ :: _, e => simp only [D.toPyX] at e; cases e
    | _ :: _ :: _, _, e => simp only [D.toPyX] at e; cases e
  | _, _, _, .scr _, e => by simp only [D.toPyX] at e; cases e
  | _, _, _, .ty _, e => by simp only [D.toPyX] at e; cases e
  | _, _, _, .obj .., e => by simp only [D.toPyX] at e; cases e
  | _, _, _, .ob0 .., e => by simp only [D.toPyX] at e; cases e
  | _, _, _, .ins .., e => by simp only [D.toPyX] at e; cases e
  | _, _, _, .pt _, e => by simp only [D.toPyX] at e; cases e
theorem RepL.dx : ∀ {vs : List V} {ds : List D} {ps : List PyData}, RepL K H vs ds → toPyXL ds = some ps → DxL K H vs ps
  | _, _, _, .nil, e => by simp only [toPyXL] at e; cases e; exact .nil
  | _, _, _, .cons (d := d) (ds := ds) a b, e => by
    simp only [toPyXL] at e
    cases q1 : d.toPyX with
    | none => rw [q1] at e; cases e
    | some p =>
      cases q2 : toPyXL ds with
      | none => rw [q1, q2] at e; cases e
      | some ps => rw [q1, q2] at e; cases e; exact .cons (Rep.dx a q1) (RepL.dx b q2)
end
theorem RepT.dx {v : V} {d : D} {p : PyData} (s : Same F H) (r : RepT K F H v d) (e : d.toPyX = some p) : Dx K H v p := by
  cases d with
  | lst ds => exact (r.rep (fun _ _ z => by cases z) s).dx e
  | dic ks ds =>
    obtain ⟨a, xs, rfl, h, l, r⟩ := r
    match ks, ds, e with
    | [], [], e => simp only [D.toPyX] at e; cases e; exact .dic h
    | [], _ :: _, e => simp only [D.toPyX] at e; cases e
    | [.inr x], [d], e =>
      simp only [D.toPyX] at e
      cases q : d.toPyX with
      | none => rw [q] at e; cases e
      | some p =>
        rw [q] at e; cases e
        cases r with
        | cons r1 r2 => cases r2; exact .dic1 h ((r1.mono (.of s)).dx q)
    | [.inr x], [], e => simp only [D.toPyX] at e; cases e
    | [.inr x], _ :: _ :: _, e => simp only [D.toPyX] at e; cases e
    | [.inl x], [d], e =>
      simp only [D.toPyX] at e
      cases q : d.toPyX with
      | none => rw [q] at e; cases e
      | some p =>
        rw [q] at e; cases e
        cases r with
        | cons r1 r2 => cases r2; exact .dici h ((r1.mono (.of s)).dx q)
    | [.inl x], [], e => simp only [D.toPyX] at e; cases e
    | [.inl x], _ :: _ :: _, e => simp only [D.toPyX] at e; cases e
    | _ :: _ :: _, _, e => simp only [D.toPyX] at e; cases e
  | _ => exact (r.rep (fun _ _ z => by cases z) s).dx e
end
/-- repr, empty dicts in the data or not -/
def reprT1 (a : D) : Option Val := match a.toPyX with
  | some p => if p.showable = true ∧ p.depth ≤ 60 ∧ p.shown.length ≤ sizeLine then some (.d (.str p.shown)) else none
  | none => none
def reprY : List D → Option Val
  | [.tup xs] => reprT1 (.tup xs)
  | [.lst xs] => reprT1 (.lst xs)
  | [.dic ks xs] => reprT1 (.dic ks xs)
  | xs => reprX xs
def rReprY (K : PySem.W.Frag) : List V → Hp → VK → Prop := fun xs H Q => rReprT K xs H Q ∨ rReprX K xs H Q
theorem CR_reprY {X : Cx} (hG : X.A.guards = some []) (hu : X.A.units + 64 < cLine) : CallR X (.builtin "repr") (rReprY X.K) := callr_or (call_repr_dx hG hu) (CR_reprX hG hu)
theorem reprT1_ok {K : PySem.W.Frag} {F H : Hp} {v : V} {a : D} {z : Val} {Q : VK} (s : Same F H) (r : RepT K F H v a) (hv : ∃ p, v = .ref p) (e : reprT1 a = some z) (q : ∀ u F' H', Gr F H F' H' → VN K H F' H' u z → Q u H') : rReprT K [v] H Q := by
  unfold reprT1 at e
  split at e
  · rename_i p hp
    split at e
    · rename_i c
      cases e
      obtain ⟨b, rfl⟩ := hv
      exact ⟨b, p, rfl, r.dx s hp, c.1, c.2.1, c.2.2, vn_str s q⟩
    · cases e
  · cases e
theorem cs_reprY {K : PySem.W.Frag} : CallS K (rReprY K) reprY := by
  intro F H vs as z Q s ra e q
  unfold reprY at e
  split at e
  · obtain ⟨v, rfl, r⟩ := rep1 ra
    obtain ⟨p, xs, rfl, _⟩ := r.tup s
    exact .inl (reprT1_ok s r ⟨p, rfl⟩ e q)
  · obtain ⟨v, rfl, r⟩ := rep1 ra
    obtain ⟨p, xs, rfl, _⟩ := r.lst
    exact .inl (reprT1_ok s r ⟨p, rfl⟩ e q)
  · obtain ⟨v, rfl, r⟩ := rep1 ra
    obtain ⟨p, xs, rfl, _⟩ := id r
    exact .inl (reprT1_ok s r ⟨p, rfl⟩ e q)
  · exact .inr (cs_reprX F H vs _ z Q s ra e q)
/-! ### == and != with the empty tuple -/
/-! ### sums with a bool on the left, the sign of a bool -/
/-! ### str of ints and bools, upper -/
def strX : List D → Option Val
  | [.int i] => if i.natAbs.log2 < 1920 then some (.d (.str (toString i))) else none
  | [.bl b] => some (.d (.str (if b then "True" else "False")))
  | _ => none
def rStrX : List V → Hp → VK → Prop := fun xs H Q => (∃ i, xs = [.int i] ∧ i.natAbs.log2 < 1920 ∧ Q (.str (toString i)) H) ∨ ∃ b, xs = [.bl b] ∧ Q (.str (if b then "True" else "False")) H
theorem call_strX {X : Cx} : CallR X (.type "str") rStrX := by
  intro pins s σ H xs us Q I r h
  rcases h with h | ⟨b, rfl, q⟩
  · exact call_str_int pins s σ H xs us Q I r h
  · obtain ⟨u, rfl, ru⟩ := vals1 r
    cases (show u = Value.bool b from ru)
    exact PySem.P.str_of_bool ⟨.str _, H, I.tok _, ⟨_, rfl⟩, q⟩
theorem cs_strX {K : PySem.W.Frag} : CallS K rStrX strX := by
  intro F H vs as z Q s ra e q
  unfold strX at e
  split at e
  · obtain ⟨v, rfl, r⟩ := rep1 ra
    obtain rfl := r.int
    split at e
    · rename_i h
      cases e
      exact .inl ⟨_, rfl, h, vn_str s q⟩
    · cases e
  · cases e
    obtain ⟨v, rfl, r⟩ := rep1 ra
    obtain rfl := r.bl
    exact .inr ⟨_, rfl, vn_str s q⟩
  · cases e
end DL
set_option maxHeartbeats 2000000
/-! DL74: defs that call themselves, some levels deep. -/
namespace DL
open PySem PySem.Spec PyProof.Rows L2
end DL
set_option maxHeartbeats 2000000
/-! DL75: values of any kind: short ASCII texts, ints not too great, empty dicts. -/
namespace DL
open PySem PySem.Spec PyProof.Rows L2
def ascB (m : Nat) (x : Str) : Bool := x.cps.toList.all (fun c => decide (c < 128)) && decide (x.length ≤ 33 + m)
mutual
def D.oddB (m : Nat) : D → Bool
  | .non => true
  | .bl _ => true
  | .int i => decide (i.natAbs ≤ 1000000000000000000000000000000 + m)
  | .str x => ascB m x
  | .tup xs => oddL m xs
  | .lst xs => oddL m xs
  | .dic [] [] => true
  | _ => false
def oddL (m : Nat) : List D → Bool
  | [] => true
  | x :: xs => x.oddB m && oddL m xs
end
theorem asc_ok {m : Nat} {x : Str} (h : ascB m x = true) : PyData.strOk x = true ∧ x.length ≤ 33 + m := by
  unfold ascB at h
  rw [Bool.and_eq_true, decide_eq_true_eq] at h
  refine ⟨?_, h.2⟩
  unfold PyData.strOk
  rw [Array.all_eq_true']
  intro c hc
  have h1 := List.all_eq_true.mp h.1 c (by simpa using hc)
  have h2 : c < 128 := of_decide_eq_true h1
  simp
  omega
mutual
theorem odd_py {m : Nat} (hm : m ≤ 17) : ∀ (d : D), d.oddB m = true → ∃ p, d.toPyX = some p ∧ p.showable = true ∧ p.depth ≤ d.dep + 1 ∧ p.shown.length + 2 ≤ 2000 * d.cnt
  | .non, _ => ⟨.none, rfl, by simp only [PyData.showable], by decide, by simp only [PyData.shown]; decide⟩
  | .bl b, _ => ⟨.bool b, rfl, by simp only [PyData.showable], by simp [PyData.depth], by simp only [PyData.shown]; cases b <;> decide⟩
  | .int i, h => by
    have h2 : i.natAbs ≤ 1000000000000000000000000000000 + m := by simpa [D.oddB] using h
    have h3 : (1000000000000000000000000000000 + 17 : Nat) < 2 ^ 200 := by decide
    have := int_short (i := i) (by omega)
    exact ⟨.int i, rfl, this.1, by simp [PyData.depth], by have := this.2; simp only [D.cnt]; omega⟩
  | .str x, h => by
    obtain ⟨h1, h2⟩ := asc_ok (m := m) (x := x) (by simpa [D.oddB] using h)
    refine ⟨.str x, rfl, by simp only [PyData.showable], by simp [PyData.depth], ?_⟩
    simp only [PyData.shown, D.cnt]
    have h3 := StrLaws.reprText_len x (strOk_lt h1)
    omega
  | .tup xs, h => by
    obtain ⟨ps, h1, h2, h3, h5, h6⟩ := oddL_py hm xs (by simpa [D.oddB] using h)
    refine ⟨.tuple ps, by simp [D.toPyX, h1], by simpa [PyData.showable] using h2, by simp only [PyData.depth, D.dep]; omega, ?_⟩
    have := tupleText_len_le (PyData.shownAll ps)
    simp only [PyData.shown, D.cnt]
    rw [h5] at this
    omega
  | .lst xs, h => by
    obtain ⟨ps, h1, h2, h3, h5, h6⟩ := oddL_py hm xs (by simpa [D.oddB] using h)
    refine ⟨.list ps, by simp [D.toPyX, h1], by simpa [PyData.showable] using h2, by simp only [PyData.depth, D.dep]; omega, ?_⟩
    have := listText_len_le (PyData.shownAll ps)
    simp only [PyData.shown, D.cnt]
    rw [h5] at this
    omega
  | .dic [] [], _ => ⟨.dict [], rfl, by simp [PyData.showable, PyData.showableKv], by decide +kernel, by rw [shown_dic0]; decide +kernel⟩
  | .dic [] (_ :: _), h => by simp [D.oddB] at h
  | .dic (_ :: _) _, h => by simp [D.oddB] at h
  | .set _, h => by simp [D.oddB] at h
  | .scr _, h => by simp [D.oddB] at h
  | .ty _, h => by simp [D.oddB] at h
  | .obj _ _ _, h => by simp [D.oddB] at h
  | .ins _ _ _, h => by simp [D.oddB] at h
theorem oddL_py {m : Nat} (hm : m ≤ 17) : ∀ (ds : List D), oddL m ds = true → ∃ ps, toPyXL ds = some ps ∧ PyData.showableAll ps = true ∧ PyData.depthAll ps ≤ depL ds + 1 ∧ (PyData.shownAll ps).length = ds.length ∧ ((PyData.shownAll ps).map (·.length)).sum + 2 * ds.length ≤ 2000 * cntL ds
  | [], _ => ⟨[], rfl, by simp only [PyData.showableAll], by simp [PyData.depthAll], by simp [PyData.shownAll], by simp [PyData.shownAll, cntL]⟩
  | d :: ds, h => by
    have h : d.oddB m = true ∧ oddL m ds = true := by simpa [oddL] using h
    obtain ⟨p, a1, a2, a3, a5⟩ := odd_py hm d h.1
    obtain ⟨ps, b1, b2, b3, b5, b6⟩ := oddL_py hm ds h.2
    refine ⟨p :: ps, by simp [toPyXL, a1, b1], by simp [PyData.showableAll, a2, b2], ?_, by simp [PyData.shownAll, b5], ?_⟩
    · simp only [PyData.depthAll, depL]
      omega
    · simp only [PyData.shownAll, List.map_cons, List.sum_cons, List.length_cons, cntL]
      omega
end
def shownY (d : D) : Str := match d.toPyX with
  | some p => p.shown
  | none => ""
end DL
set_option maxHeartbeats 2000000
/-! DL76: a tuple times an int. -/
namespace DL
open PySem PySem.Spec PyProof.Rows L2
end DL
set_option maxHeartbeats 2000000
/-! DL77: tuple(range(a, b, c)). -/
namespace DL
open PySem PySem.Spec PyProof.Rows L2
end DL
set_option maxHeartbeats 2000000
/-! DL78: x = y, where y's own object goes over to x (y is not looked at again ahead of its next store). -/
namespace DL
open PySem PySem.Spec PyProof.Rows L2
end DL
set_option maxHeartbeats 2000000
/-! DL79: instances of the program's classes as data: o.f, o.m(..). -/
namespace DL
open PySem PySem.Spec PyProof.Rows L2
variable [TabT]
def eFld (c nm : Str) (f : EM) : EM := fun ρ => (f ρ).bind fun x ρ1 => match x with
  | .d (.ins k ns ds) => if k = c then (match (ns.zip ds).lookup nm with | some d => .ok (.d d) ρ1 | none => .bad) else .bad
  | _ => .bad
def eMthI (c m : Str) (Fm : FM) (f : EM) (gl : M (List Val)) : EM := fun ρ => (f ρ).bind fun x ρ1 => match x with
  | .d (.ins k ns ds) => if k = c ∧ ns.contains m = false then (gl ρ1).bind fun xs ρ2 => callF Fm (.d (.ins k ns ds) :: xs) ρ2 else .bad
  | _ => .bad
end DL
set_option maxHeartbeats 2000000
/-! DL80: c(..), an instance of a class whose __init__ sets two fields, its arguments data. -/
namespace DL
open PySem PySem.Spec PyProof.Rows L2
variable [TabT]
section
variable {K : PySem.W.Frag} {mg : Str → Option Value} {F H : Hp} {σ : L2.St} {ρ : DEnv}
theorem sr_upd {a : Addr} {o o' : HO} (sr : SR K F H σ ρ) (fa : F a = none) (no : ¬ Ow σ ρ a) (ha : H a = some o) (nk : ¬ KT a o) : SR K F (upd H a o') σ ρ := by
  refine ⟨sr.len, fun b u e => ?_, fun i s e => ?_, sr.dist, sr.tab.own ha nk⟩
  · by_cases h : b = a
    · subst h; rw [fa] at e; cases e
    · rw [upd_ne h]; exact sr.sub b u e
  · obtain ⟨ov, h1, h2⟩ := sr.slot i s e
    refine ⟨ov, h1, ?_⟩
    cases s with
    | un => trivial
    | d x => exact h2
    | ow c m =>
      obtain ⟨b, e1, e2, e3⟩ := h2
      have hb : b ≠ a := fun z => by
        subst z
        exact no ⟨i, c, m, e, by rw [h1, e1]⟩
      exact ⟨b, e1, e2, e3.mono (.of (Same.refl _)) (upd_ne hb)⟩
end
end DL
set_option maxHeartbeats 2000000
/-! DL81: what is known of a class of the program, bundled; the rules with it. -/
namespace DL
open PySem PySem.Spec PyProof.Rows L2
end DL
set_option maxHeartbeats 2000000
/-! DL82: reading terms with fields, methods and instances (wp). -/
namespace DL
open PySem PySem.Spec PyProof.Rows L2
def fldV (c nm : Str) (x : Val) : EM := fun ρ => match x with
  | .d (.ins k ns ds) => if k = c then (match (ns.zip ds).lookup nm with | some d => .ok (.d d) ρ | none => .bad) else .bad
  | _ => .bad
def mthV (c m : Str) (Fm : FM) (gl : M (List Val)) (x : Val) : EM := fun ρ => match x with
  | .d (.ins k ns ds) => if k = c ∧ ns.contains m = false then (gl ρ).bind fun xs ρ2 => callF Fm (.d (.ins k ns ds) :: xs) ρ2 else .bad
  | _ => .bad
section
variable {ρ : DEnv} {c nm m : Str} {f : EM} {gl : M (List Val)} {Fm : FM} {ns : List Str} {ds : List D} {d : D} {Q : Val → DEnv → Prop} {X : Ex → DEnv → Prop}
theorem b_fld (q : (f ρ).wp (fun x ρ1 => (fldV c nm x ρ1).wp Q X) X) : (eFld c nm f ρ).wp Q X := b_bind q
theorem b_mth (q : (f ρ).wp (fun x ρ1 => (mthV c m Fm gl x ρ1).wp Q X) X) : (eMthI c m Fm f gl ρ).wp Q X := b_bind q
theorem b_fldV (e : (ns.zip ds).lookup nm = some d) (q : Q (.d d) ρ) : (fldV c nm (.d (.ins c ns ds)) ρ).wp Q X := by
  unfold fldV
  dsimp only
  rw [if_pos rfl, e]
  exact q
theorem b_mthV (e : ns.contains m = false) (q : (gl ρ).wp (fun xs ρ2 => (callF Fm (.d (.ins c ns ds) :: xs) ρ2).wp Q X) X) : (mthV c m Fm gl (.d (.ins c ns ds)) ρ).wp Q X := by
  unfold mthV
  dsimp only
  rw [if_pos ⟨rfl, e⟩]
  exact b_bind q
instance st_b_fld : St ((eFld c nm f ρ).wp Q X) ((f ρ).wp (fun x ρ1 => (fldV c nm x ρ1).wp Q X) X) := ⟨b_fld⟩
instance st_b_mth : St ((eMthI c m Fm f gl ρ).wp Q X) ((f ρ).wp (fun x ρ1 => (mthV c m Fm gl x ρ1).wp Q X) X) := ⟨b_mth⟩
end
end DL
set_option maxHeartbeats 2000000
/-! DL83: d == {} for a dict d. -/
namespace DL
open PySem PySem.Spec PyProof.Rows L2
/-! len(d) -/
end DL
namespace CM
open PySem PySem.Spec PyProof.Rows L2 DL
/-! l_pot: slots 0 script, 1 k, 2 cell, 3 own -/
def e_l_pot : SM := (sSeq (sAsg 2 (eOp addD (eOp mulD (eC (.int 19)) (eVar 1)) (eC (.int 6))))
    (sSeq (sIf (tst (eOp ltD (eVar 1) (eCallB lenD (aCons (eVar 0) aNil))))
    (sAsg 2 (eOp idxD (eVar 0) (eVar 1)))
    sSkip)
    (sSeq (sAsg 3 (eOp mulD (eOp modD (eCallB absD (aCons (eVar 2) aNil)) (eOp powD (eOp powD (eC (.int 10)) (eC (.int 60))) (eC (.int 5)))) (eCallB intD (aCons (eOp geD (eCallB absD (aCons (eVar 2) aNil)) (eOp powD (eC (.int 10)) (eC (.int 18)))) aNil))))
    (sRet (eLst (aCons (fz (eVar 3)) (aCons (fz (eOp modD (eOp addD (eOp addD (eOp mulD (eOp modD (eVar 2) (eC (.int 2305843009213693951))) (eC (.int 69767))) (eOp mulD (eOp mulD (eC (.int 8123)) (eVar 1)) (eVar 1))) (eC (.int 31))) (eC (.int 2305843009213693921)))) (aCons (eC (.int 0)) aNil))))))))
def s_l_pot : FM := fnD 2 2 e_l_pot
/-! l_draw: slots 0 pot_here, 1 many, 2 prime, 3 mixed_here, 4 digit -/
def e_l_draw : SM := (sSeq (sIf (tst (eOp gtD (eOp idxD (eVar 0) (eC (.int 0))) (eC (.int 0))))
    (sSeq (sAsg 4 (eOp modD (eOp idxD (eVar 0) (eC (.int 0))) (eVar 1)))
    (sSeq (sStore 0 (eC (.int 0)) (fz (eOp divD (eOp idxD (eVar 0) (eC (.int 0))) (eVar 1))))
    (sRet (eVar 4))))
    sSkip)
    (sSeq (sStore 0 (eC (.int 2)) (fz (eOp addD (eOp idxD (eVar 0) (eC (.int 2))) (eC (.int 1)))))
    (sSeq (sAsg 2 (eOp idxD (eLst (aCons (eC (.int 2147483647)) (aCons (eC (.int 2147483629)) (aCons (eC (.int 2147483587)) (aCons (eC (.int 2147483579)) (aCons (eC (.int 2147483563)) aNil)))))) (eOp modD (eOp idxD (eVar 0) (eC (.int 2))) (eC (.int 5)))))
    (sSeq (sAsg 3 (eOp modD (eOp powD (eOp addD (eOp addD (eOp idxD (eVar 0) (eC (.int 1))) (eOp mulD (eOp mulD (eC (.int 98321)) (eOp idxD (eVar 0) (eC (.int 2)))) (eOp idxD (eVar 0) (eC (.int 2))))) (eC (.int 47))) (eC (.int 3))) (eVar 2)))
    (sRet (eOp modD (eOp divD (eOp modD (eOp mulD (eVar 3) (eOp addD (eOp modD (eVar 3) (eC (.int 10007))) (eOp mulD (eC (.int 89)) (eOp idxD (eVar 0) (eC (.int 2)))))) (eC (.int 2305843009213693907))) (eC (.int 83))) (eVar 1)))))))
def s_l_draw : FM := fnD 2 3 e_l_draw
/-! l_any: slots 0 pot_here, 1 items -/
def e_l_any : SM := (sRet (eOp idxD (eVar 1) (eCall s_l_draw (aCons (eVar 0) (aCons (eCallB lenD (aCons (eVar 1) aNil)) aNil)))))
def s_l_any : FM := fnD 2 0 e_l_any
/-! l_mixed: slots 0 pot_here, 1 items, 2 left, 3 found -/
def l1_l_mixed : SM := whileD (tst (eOp neV' (eVar 2) (eLst aNil))) (sDrop (eMethL 3 appendO (aCons (fz (eMethL 2 popAtO (aCons (fz (eCall s_l_draw (aCons (eVar 0) (aCons (eCallB lenD (aCons (eVar 2) aNil)) aNil)))) aNil))) aNil))) 1000000
def e_l_mixed : SM := (sSeq (sPar [2, 3] (aCons (nsl (eCallB listD (aCons (eVar 1) aNil))) (aCons (nsl (eLst aNil)) aNil)))
    (sSeq l1_l_mixed
    (sRet (eVar 3))))
def s_l_mixed : FM := fnD 2 2 e_l_mixed
/-! l_wild: slots 0 pot_here, 1 most, 2 room, 3 turn, 4 found, 5 written, 6 begin, 7 kind, 8 worth, 9 some -/
def l1_l_wild : SM := sFor (iRng (aCons (eCall s_l_draw (aCons (eVar 0) (aCons (eOp addD (eVar 1) (eC (.int 1))) aNil))) aNil)) (asgV 3)
    (sSeq (sPar [7, 8] (aCons (nsl (eCall s_l_any (aCons (eVar 0) (aCons (eLst (aCons (eC (.str ("write" : Str))) (aCons (eC (.str ("read" : Str))) (aCons (eC (.str ("read" : Str))) aNil)))) aNil)))) (aCons (nsl (eCall s_l_draw (aCons (eVar 0) (aCons (eC (.int 5)) aNil)))) aNil)))
    (sSeq (sAsg 6 (eCall s_l_draw (aCons (eVar 0) (aCons (eVar 2) aNil))))
    (sIf (tAndM (tst (eOp eqV' (eVar 7) (eC (.str ("write" : Str))))) (tAndM (tst (eOp gtD (eVar 8) (eC (.int 0)))) (tst (eOp ninD (eVar 8) (eVar 5)))))
    (sSeq (sDrop (eMethL 5 appendO (aCons (fz (eVar 8)) aNil)))
    (sDrop (eMethL 4 appendO (aCons (fz (eTup (aCons (eC (.str ("write" : Str))) (aCons (fz (eVar 8)) (aCons (fz (eVar 6)) (aCons (fz (eOp addD (eVar 6) (eCall s_l_draw (aCons (eVar 0) (aCons (eOp addD (eOp divD (eVar 2) (eC (.int 2))) (eC (.int 1))) aNil))))) aNil)))))) aNil))))
    (sSeq (sAsg 9 (eOp addD (eVar 5) (eLst (aCons (eC (.int 0)) aNil))))
    (sSeq (sAsg 8 (eCall s_l_any (aCons (eVar 0) (aCons (eOp addD (eOp addD (eVar 9) (eVar 9)) (eLst (aCons (fz (eVar 8)) aNil))) aNil))))
    (sDrop (eMethL 4 appendO (aCons (fz (eTup (aCons (eC (.str ("read" : Str))) (aCons (fz (eVar 8)) (aCons (fz (eVar 6)) (aCons (fz (eOp addD (eVar 6) (eCall s_l_draw (aCons (eVar 0) (aCons (eOp addD (eOp divD (eVar 2) (eC (.int 2))) (eC (.int 1))) aNil))))) aNil)))))) aNil))))))))
def e_l_wild : SM := (sSeq (sPar [4, 5] (aCons (nsl (eLst aNil)) (aCons (nsl (eLst aNil)) aNil)))
    (sSeq l1_l_wild
    (sRet (eCallB tupleD (aCons (eCall s_l_mixed (aCons (eVar 0) (aCons (eVar 4) aNil))) aNil)))))
def s_l_wild : FM := fnD 3 7 e_l_wild
/-! l_true: slots 0 pot_here, 1 many, 2 off, 3 step, 4 names, 5 turn, 6 found, 7 worth, 8 time, 9 kind, 10 ends, 11 begin, 12 end -/
def l1_l_true : SM := sFor (iRng (aCons (eVar 1) aNil)) (asgV 5)
    (sSeq (sAsg 8 (eOp addD (eVar 8) (eCall s_l_draw (aCons (eVar 0) (aCons (eOp addD (eVar 3) (eC (.int 1))) aNil)))))
    (sSeq (sAsg 9 (eCall s_l_any (aCons (eVar 0) (aCons (eLst (aCons (eC (.str ("write" : Str))) (aCons (eC (.str ("read" : Str))) (aCons (eC (.str ("read" : Str))) aNil)))) aNil))))
    (sSeq (sIf (tst (eOp eqV' (eVar 9) (eC (.str ("write" : Str)))))
    (sAsg 7 (eOp idxD (eVar 4) (eVar 5)))
    sSkip)
    (sSeq (sAsg 10 (eTup (aCons (fz (eOp subD (eVar 8) (eCall s_l_draw (aCons (eVar 0) (aCons (eOp addD (eVar 3) (eC (.int 1))) aNil))))) (aCons (fz (eOp addD (eVar 8) (eCall s_l_draw (aCons (eVar 0) (aCons (eOp addD (eVar 3) (eC (.int 1))) aNil))))) aNil))))
    (sSeq (sAsg 11 (eOp addD (eOp subD (eOp idxD (eVar 10) (eC (.int 0))) (eVar 2)) (eCall s_l_draw (aCons (eVar 0) (aCons (eOp addD (eOp mulD (eC (.int 2)) (eVar 2)) (eC (.int 1))) aNil)))))
    (sSeq (sAsg 12 (eOp addD (eOp subD (eOp idxD (eVar 10) (eC (.int 1))) (eVar 2)) (eCall s_l_draw (aCons (eVar 0) (aCons (eOp addD (eOp mulD (eC (.int 2)) (eVar 2)) (eC (.int 1))) aNil)))))
    (sDrop (eMethL 6 appendO (aCons (fz (eTup (aCons (fz (eVar 9)) (aCons (fz (eVar 7)) (aCons (fz (eCallB minD (aCons (eVar 11) (aCons (eVar 12) aNil)))) (aCons (fz (eCallB maxD (aCons (eVar 11) (aCons (eVar 12) aNil)))) aNil)))))) aNil)))))))))
def e_l_true : SM := (sSeq (sPar [6, 7, 8] (aCons (nsl (eLst aNil)) (aCons (nsl (eC (.int 0))) (aCons (nsl (eCall s_l_any (aCons (eVar 0) (aCons (eLst (aCons (eC (.int 0)) (aCons (fz (eUn negD (eC (.int 7)))) (aCons (fz (eOp powD (eC (.int 10)) (eC (.int 14)))) aNil)))) aNil)))) aNil))))
    (sSeq (sAsg 4 (eCall s_l_mixed (aCons (eVar 0) (aCons (eOp lrgD (eC (.int 1)) (eOp addD (eVar 1) (eC (.int 1)))) aNil))))
    (sSeq l1_l_true
    (sRet (eCallB tupleD (aCons (eCall s_l_mixed (aCons (eVar 0) (aCons (eVar 6) aNil))) aNil))))))
def s_l_true : FM := fnD 4 9 e_l_true
/-! l_worths: slots 0 book, 1 one -/
end CM
namespace CM
open PySem PySem.Spec PyProof.Rows L2 DL
/-! values_of: slots 0 log, 1 kind, 2 value, 3 begin, 4 end -/
/-! ends_of: slots 0 log, 1 found, 2 kind, 3 value, 4 begin, 5 end, 6 first, 7 last -/
/-! check_value: slots 0 log, 1 value -/
/-! operations_of: slots 0 log, 1 value, 2 index, 3 one -/
/-! write_of: slots 0 log, 1 value, 2 found, 3 index -/
/-! first_end: slots 0 log, 1 value -/
/-! last_begin: slots 0 log, 1 value -/
/-! is_earlier: slots 0 ends, 1 tolerance, 2 one, 3 other -/
/-! is_before: slots 0 log, 1 tolerance, 2 one, 3 other -/
end CM
namespace CM
open PySem PySem.Spec PyProof.Rows L2 DL
/-! is_integer: slots 0 value, 1 least, 2 greatest -/
def e_is_integer : SM := (sRet (eAnd (eCallB isiD (aCons (eVar 0) (aCons (eC (.ty "int")) aNil))) (eAnd (eNot (eCallB isiD (aCons (eVar 0) (aCons (eC (.ty "bool")) aNil)))) (eChain leD leD (eVar 1) (eVar 0) (eVar 2)))))
def s_is_integer : FM := fnD 3 0 e_is_integer
/-! check_index: slots 0 log, 1 value -/
/-! is_sure: slots 0 one, 1 other, 2 tolerance -/
/-! surely_before: slots 0 log, 1 tolerance, 2 one, 3 other -/
/-! are_stamps: slots 0 begin, 1 end -/
def e_are_stamps : SM := (sRet (eAnd (eCall s_is_integer (aCons (eVar 0) (aCons (eUn negD (eC (.int 1000000000000000))) (aCons (eC (.int 1000000000000000)) aNil)))) (eCall s_is_integer (aCons (eVar 1) (aCons (eVar 0) (aCons (eC (.int 1000000000000000)) aNil))))))
def s_are_stamps : FM := fnD 2 0 e_are_stamps
/-! is_operation: slots 0 value, 1 kind, 2 written, 3 begin, 4 end -/
def e_is_operation : SM := (sSeq (sIf (tOrM (tNotM (tst (eCallB isiD (aCons (eVar 0) (aCons (eC (.ty "tuple")) aNil))))) (tOrM (tst (eOp neV' (eCallB lenD (aCons (eVar 0) aNil)) (eC (.int 4)))) (tNotM (tst (eCallB isiD (aCons (eOp idxD (eVar 0) (eC (.int 0))) (aCons (eC (.ty "str")) aNil)))))))
    (sRet (eC (.bl false)))
    sSkip)
    (sSeq (sTgt (eVar 0) (tupG 4 (gsCons (asgV 1) (gsCons (asgV 2) (gsCons (asgV 3) (gsCons (asgV 4) gsNil))))))
    (sSeq (sIf (tOrM (tst (eOp ninD (eVar 1) (eTup (aCons (fz (eC (.str ("read" : Str)))) (aCons (fz (eC (.str ("write" : Str)))) aNil))))) (tNotM (tst (eCall s_is_integer (aCons (eVar 2) (aCons (eCallB intD (aCons (eOp eqV' (eVar 1) (eC (.str ("write" : Str)))) aNil)) (aCons (eC (.int 1000000000)) aNil)))))))
    (sRet (eC (.bl false)))
    sSkip)
    (sRet (eCall s_are_stamps (aCons (eVar 3) (aCons (eVar 4) aNil)))))))
def s_is_operation : FM := fnD 1 4 e_is_operation
/-! is_log: slots 0 value, 1 written, 2 one -/
def c1_is_log : EM := eLc [2] (iSeq (eVar 0)) (asgV 2) tYesD (fz (eCall s_is_operation (aCons (eVar 2) aNil)))
def c2_is_log : EM := eLc [2] (iSeq (eVar 0)) (asgV 2) (tst (eOp eqV' (eOp idxD (eVar 2) (eC (.int 0))) (eC (.str ("write" : Str))))) (fz (eOp idxD (eVar 2) (eC (.int 1))))
def e_is_log : SM := (sSeq (sIf (tOrM (tNotM (tst (eCallB isiD (aCons (eVar 0) (aCons (eC (.ty "tuple")) aNil))))) (tst (eOp gtD (eCallB lenD (aCons (eVar 0) aNil)) (eC (.int 200)))))
    (sRet (eC (.bl false)))
    sSkip)
    (sSeq (sIf (tNotM (tst (eCallB allD (aCons c1_is_log aNil))))
    (sRet (eC (.bl false)))
    sSkip)
    (sSeq (sAsg 1 c2_is_log)
    (sRet (eOp eqV' (eLenSet (eVar 1)) (eCallB lenD (aCons (eVar 1) aNil)))))))
def s_is_log : FM := fnD 1 2 e_is_log
/-! is_tolerance: slots 0 value -/
end CM
namespace CM
open PySem PySem.Spec PyProof.Rows L2 DL
/-! writes_of: slots 0 log, 1 index, 2 one -/
/-! single_faults: slots 0 log, 1 tolerance, 2 writes, 3 unwritten, 4 early, 5 index, 6 one -/
/-! marks_of: slots 0 log, 1 found, 2 index, 3 one, 4 first, 5 last -/
/-! pair_fault: slots 0 marks, 1 one, 2 other, 3 first, 4 last -/
/-! faults: slots 0 log, 1 tolerance, 2 some, 3 ends, 4 writes, 5 marks, 6 at, 7 one, 8 other, 9 value -/
/-! has_form: slots 0 log, 1 value, 2 index -/
/-! is_crossed: slots 0 some, 1 tolerance, 2 first, 3 second, 4 third, 5 fourth -/
/-! shows_fault: slots 0 log, 1 tolerance, 2 value, 3 word, 4 some, 5 index -/
/-! bound_of: slots 0 log, 1 fault, 2 some, 3 gaps, 4 index, 5 ahead, 6 later -/
end CM
namespace CM
open PySem PySem.Spec PyProof.Rows L2 DL
/-! without: slots 0 log, 1 values, 2 one -/
/-! checked: slots 0 log -/
/-! moved: slots 0 log, 1 amount, 2 kind, 3 value, 4 begin, 5 end -/
/-! widened: slots 0 log, 1 amount, 2 kind, 3 value, 4 begin, 5 end -/
end CM
namespace CM
open PySem PySem.Spec PyProof.Rows L2 DL
/-! l_is_fault: slots 0 book, 1 slack, 2 thing, 3 many, 4 some, 5 pairs, 6 is_written, 7 at, 8 one, 9 other -/
end CM
namespace CM
open PySem PySem.Spec PyProof.Rows L2 DL
/-! first_fault: slots 0 log, 1 tolerance, 2 fault -/
/-! can_explain: slots 0 log, 1 tolerance -/
/-! has_unwritten: slots 0 log, 1 fault -/
/-! least_tolerance: slots 0 log, 1 fault -/
/-! l_ends: slots 0 log_here, 1 found, 2 value, 3 own, 4 first, 5 one -/
/-! l_lost: slots 0 log_here, 1 written, 2 one, 3 value -/
/-! l_gaps: slots 0 log_here, 1 writes, 2 one, 3 some, 4 ends_here, 5 found, 6 at, 7 other, 8 value -/
/-! l_least: slots 0 log_here -/
/-! l_marks: slots 0 book, 1 found, 2 at, 3 one, 4 first, 5 last -/
/-! l_due_faults: slots 0 book, 1 slack, 2 some, 3 lost_here, 4 writes, 5 ends_here, 6 soon, 7 pairs, 8 marks_here, 9 at, 10 one, 11 other, 12 worth, 13 back -/
end CM
namespace CM
open PySem PySem.Spec PyProof.Rows L2 DL
/-! has_each_once: slots 0 log, 1 indexes, 2 index -/
/-! reads_right: slots 0 log, 1 indexes, 2 present, 3 index, 4 kind, 5 value, 6 begin, 7 end -/
/-! explains: slots 0 log, 1 tolerance, 2 value, 3 greatest, 4 index, 5 kind, 6 number, 7 begin, 8 end -/
/-! l_is_sure: slots 0 log, 1 tolerance, 2 one, 3 other -/
def e_l_is_sure : SM := (sRet (eOp ltD (eOp addD (eOp idxD (eOp idxD (eVar 0) (eVar 2)) (eC (.int 3))) (eVar 1)) (eOp idxD (eOp idxD (eVar 0) (eVar 3)) (eC (.int 2)))))
def s_l_is_sure : FM := fnD 4 0 e_l_is_sure
/-! l_fits: slots 0 log, 1 tolerance, 2 order, 3 value, 4 at, 5 index, 6 later -/
def c1_l_fits : EM := eLc [6] (iSeq (eSl (eVar 2) (oSome (eOp addD (eVar 4) (eC (.int 1)))) oNone)) (asgV 6) tYesD (fz (eCall s_l_is_sure (aCons (eVar 0) (aCons (eVar 1) (aCons (eVar 6) (aCons (eVar 5) aNil))))))
/-! l_all_orders: slots 0 many, 1 found, 2 turn, 3 longer, 4 some, 5 one -/
/-! moments: slots 0 log, 1 tolerance, 2 order, 3 index, 4 found, 5 present, 6 earliest -/
/-! l_are_moments: slots 0 log, 1 tolerance, 2 thing, 3 pair, 4 indexes, 5 times, 6 value, 7 index, 8 kind, 9 worth, 10 begin, 11 end -/
end CM
namespace CM
open PySem PySem.Spec PyProof.Rows L2 DL
/-! check_explained: slots 0 log, 1 tolerance, 2 fault -/
/-! ends_with: slots 0 ends, 1 read, 2 kind, 3 value, 4 begin, 5 end, 6 first, 7 last -/
/-! fits: slots 0 log, 1 tolerance, 2 ends, 3 read, 4 value, 5 writes, 6 first, 7 last, 8 other, 9 operation, 10 near, 11 far -/
/-! readable: slots 0 log, 1 tolerance, 2 begin, 3 end, 4 ends, 5 some, 6 value, 7 kind, 8 early, 9 late -/
/-! must_return: slots 0 log, 1 tolerance, 2 begin, 3 end, 4 found -/
/-! l_is_good: slots 0 log, 1 tolerance, 2 bound -/
end CM
namespace CM
open PySem PySem.Spec PyProof.Rows L2 DL
/-! free_value: slots 0 ends, 1 tolerance, 2 left, 3 firsts, 4 value, 5 rivals, 6 first, 7 rival -/
/-! value_order: slots 0 log, 1 tolerance, 2 left, 3 ends, 4 found, 5 value -/
/-! operations_along: slots 0 log, 1 values, 2 found, 3 value, 4 own, 5 index, 6 operation -/
/-! order_for: slots 0 log, 1 tolerance -/
end CM
namespace CM
open PySem PySem.Spec PyProof.Rows L2 DL
/-! tight: slots 0 log, 1 least, 2 fault -/
/-! evidence: slots 0 log, 1 found, 2 least, 3 barring -/
/-! is_integer_pair: slots 0 value, 1 part -/
/-! shows_moments: slots 0 log, 1 tolerance, 2 value, 3 indexes, 4 times, 5 index, 6 moment, 7 one, 8 other, 9 pair -/
/-! shows_least: slots 0 log, 1 tolerance, 2 value -/
end CM
namespace CM
open PySem PySem.Spec PyProof.Rows L2 DL
/-! l_is_faultO: slots 0 log, 1 tolerance, 2 fault, 3 word, 4 worths_here, 5 is_same, 6 a, 7 b, 8 c, 9 d, 10 one, 11 other -/
end CM
namespace CM
open PySem PySem.Spec PyProof.Rows L2 DL
/-! l_odd: slots 0 pot_here, 1 thing, 2 some -/
/-! l_bent: slots 0 pot_here, 1 thing, 2 deep, 3 at -/
/-! l_is_call: slots 0 thing -/
end CM
namespace CM
open PySem PySem.Spec PyProof.Rows L2 DL
/-! has_formY: slots 0 log, 1 value, 2 index -/
/-! shows_faultY: slots 0 log, 1 tolerance, 2 value, 3 word, 4 some, 5 index -/
/-! l_is_faultY: slots 0 book, 1 slack, 2 thing, 3 many, 4 some, 5 pairs, 6 is_written, 7 at, 8 one, 9 other -/
/-! l_drawn_fault: slots 0 pot_here, 1 book, 2 word, 3 many, 4 turn -/
end CM
namespace CM
open PySem PySem.Spec PyProof.Rows L2 DL
/-! Precedence: slots 0 self, 1 log, 2 tolerance -/
/-! Precedence_is_direct: slots 0 self, 1 one, 2 other -/
/-! Precedence_ahead_of: slots 0 self, 1 value, 2 near, 3 farthest, 4 others, 5 other -/
/-! precedence: slots 0 log, 1 tolerance, 2 wanted, 3 value -/
/-! must_precede: slots 0 log, 1 tolerance, 2 one, 3 other -/
/-! l_ahead: slots 0 log, 1 tolerance, 2 value, 3 turn, 4 ends_here, 5 found, 6 more, 7 near, 8 one -/
/-! l_fine: slots 0 pot_here, 1 most, 2 way, 3 log, 4 least_here, 5 some -/
/-! Precedence_behind: slots 0 self, 1 value, 2 other -/
/-! positions: slots 0 log, 1 tolerance, 2 value, 3 found -/
/-! order_with: slots 0 log, 1 tolerance, 2 value, 3 position, 4 found, 5 values, 6 loose, 7 first, 8 early, 9 ahead, 10 behind, 11 other -/
/-! final_values: slots 0 log, 1 tolerance, 2 found, 3 last, 4 value, 5 other -/
end CM
set_option maxHeartbeats 2000000
namespace CM
open PySem PySem.Spec PyProof.Rows L2 DL
structure Pot (c : Nat) (p : List D) : Prop where
  ex : ∃ a b k : Int, p = [.int a, .int b, .int k] ∧ 0 ≤ a ∧ 0 ≤ b ∧ b < 2305843009213693921 ∧ 0 ≤ k ∧ k ≤ c
theorem Pot.mono {c c' : Nat} {p : List D} (h : Pot c p) (hc : c ≤ c') : Pot c' p := by
  obtain ⟨a, b, k, e, h1, h2, h3, h4, h5⟩ := h.ex
  exact ⟨a, b, k, e, h1, h2, h3, h4, by omega⟩
theorem log_cube {b k : Int} (hb : 0 ≤ b) (hb2 : b < 2305843009213693921) (hk : 0 ≤ k) (hk2 : k ≤ 1000000000) : powI (b + 98321 * k * k + 47) 3 = some ((b + 98321 * k * k + 47) ^ (3 : Int).toNat) := by
  unfold powI
  rw [if_pos]
  refine ⟨by decide, ?_⟩
  have h1 : k * k ≤ 1000000000 * 1000000000 := Int.mul_le_mul hk2 hk2 hk (by decide)
  have h0 : 0 ≤ k * k := Int.mul_nonneg hk hk
  have h2 : (b + 98321 * k * k + 47).natAbs < 2 ^ 100 := by
    rw [Int.mul_assoc]
    have : (2 : Nat) ^ 100 = 1267650600228229401496703205376 := by decide
    omega
  have h3 : (b + 98321 * k * k + 47).natAbs ≠ 0 := by
    rw [Int.mul_assoc]
    omega
  have h4 := (Nat.log2_lt h3).mpr h2
  have h5 : (3 : Int).toNat = 3 := rfl
  rw [h5]
  omega
theorem atI_of {α : Type} {xs : List α} {i : Int} (h0 : 0 ≤ i) (h1 : i < xs.length) : ∃ x, atI xs i = some x ∧ xs[i.toNat]? = some x := by
  have : i.toNat < xs.length := by omega
  refine ⟨xs[i.toNat], ?_, List.getElem?_eq_getElem this⟩
  unfold atI ixN
  rw [if_pos h0, if_pos h1]
  exact List.getElem?_eq_getElem this
section
local macro_rules
  | `(tactic| infer_instance) => `(tactic| (first | with_reducible refine b_op ?_ | with_reducible refine b_cb ?_ | with_reducible refine b_un ?_ | with_reducible refine b_call ?_ | with_reducible refine b_cons ?_ | with_reducible refine b_nil ?_ | with_reducible refine b_C ?_ | with_reducible refine b_tup ?_ | with_reducible refine b_lst ?_ | with_reducible refine b_fz ?_ | with_reducible refine b_nsl ?_ | with_reducible refine b_nslD ?_ | with_reducible refine b_nslF ?_ | with_reducible refine b_nslS ?_ | with_reducible refine b_tst ?_ | with_reducible refine b_bT ?_ | with_reducible refine b_andK ?_ | with_reducible refine b_orK ?_ | with_reducible refine b_not ?_ | with_reducible refine b_eIf ?_ | with_reducible refine b_ok ?_ | with_reducible refine b_rng ?_ | with_reducible refine b_iseq ?_ | with_reducible refine b_yes ?_ | with_reducible refine s_seq ?_ | with_reducible refine s_skip ?_ | with_reducible refine s_drop ?_ | with_reducible refine s_ret ?_ | with_reducible refine s_retN ?_ | with_reducible refine s_break ?_ | with_reducible refine s_cont ?_ | with_reducible refine s_if ?_ | with_reducible refine s_asg ?_ | with_reducible refine s_par ?_ | with_reducible refine s_tgt ?_ | with_reducible refine s_for ?_ | with_reducible refine s_loop ?_ | with_reducible refine s_store ?_ | with_reducible refine s_asgsN ?_ | with_reducible refine f_d ?_ | with_reducible refine f_fr ?_ | ((with_reducible apply b_var_d); rfl) | ((with_reducible apply b_var_o); rfl) | ((with_reducible apply b_fzv); rfl) | ((with_reducible apply b_fzvA); rfl) | ((with_reducible apply s_asgV); rfl) | ((with_reducible apply s_asgs); rfl) | ((with_reducible apply s_asgsD); rfl; first | assumption | exact Fr.un | exact Fr.dat | exact Fr.own) | ((with_reducible apply s_asgsO); rfl; first | assumption | exact Fr.un | exact Fr.dat | exact Fr.own) | ((with_reducible apply s_asgF); rfl; first | assumption | exact Fr.un | exact Fr.dat | exact Fr.own) | ((with_reducible apply s_asgFO); rfl; first | assumption | exact Fr.un | exact Fr.dat | exact Fr.own) | ((with_reducible apply s_storeV); rfl) | ((with_reducible apply s_storeK); rfl) | ((with_reducible apply b_methL); rfl) | ((with_reducible apply b_methV); rfl) | ((with_reducible apply b_mkTup); rfl; exact Nat.le_of_ble_eq_true rfl) | ((with_reducible apply b_mkLst); rfl; exact Nat.le_of_ble_eq_true rfl) | ((with_reducible apply f_sl); rfl) | ((with_reducible apply f_sld); rfl) | ((with_reducible apply x_mul); rfl; rfl; (first | omega | decide)) | ((with_reducible apply x_mod); rfl; rfl; decide) | ((with_reducible apply x_div); rfl; rfl; (first | omega | decide)) | ((with_reducible apply b_opV); rfl; rfl; rfl) | ((with_reducible apply b_unV); rfl; rfl) | ((with_reducible apply b_callV); rfl; rfl) | ((with_reducible apply b_callF); rfl; rfl) | ((with_reducible apply b_rng1); (first | omega | decide)) | ((with_reducible apply b_rng2); (first | omega | decide))))
theorem draw_wp {p : List D} {n : Int} {c : Nat} {Q : Val → DEnv → Prop} {X : Ex → DEnv → Prop} (hp : Pot c p) (hc : c < 1000000000) (hn : 0 < n) (hn2 : n < 1000000000000000000) (q : ∀ r p', 0 ≤ r → r < n → Pot (c + 1) p' → Q (.d (.int r)) [.ow (.lst p') .bor, .d (.int n)]) : (s_l_draw [.ow (.lst p) .bor, .d (.int n)]).wp Q X := by
  obtain ⟨a, b, k, rfl, ha, hb, hb2, hk, hk2⟩ := hp.ex
  unfold s_l_draw e_l_draw
  refine f_fn rfl ?_
  repeat infer_instance
  refine ⟨fun h => ?_, fun h => ?_⟩
  · have ha0 : 0 < a := of_decide_eq_true h
    repeat infer_instance
    refine x_mod rfl rfl hn ?_
    repeat infer_instance
    exact q _ _ (Int.emod_nonneg _ (by omega)) (Int.emod_lt_of_pos _ hn) ⟨_, _, _, rfl, Int.ediv_nonneg ha (by omega), hb, hb2, hk, by omega⟩
  · repeat infer_instance
    have hx : ∃ pr, atI [D.int 2147483647, D.int 2147483629, D.int 2147483587, D.int 2147483579, D.int 2147483563] ((k + 1) % 5) = some (.int pr) ∧ 2147483563 ≤ pr ∧ pr ≤ 2147483647 := by
      have : (k + 1) % 5 = 0 ∨ (k + 1) % 5 = 1 ∨ (k + 1) % 5 = 2 ∨ (k + 1) % 5 = 3 ∨ (k + 1) % 5 = 4 := by omega
      rcases this with e | e | e | e | e <;> rw [e] <;> exact ⟨_, rfl, by decide, by decide⟩
    obtain ⟨pr, e, g1, g2⟩ := hx
    refine x_idx rfl rfl e ?_
    repeat infer_instance
    refine x_pow rfl rfl (log_cube hb hb2 (by omega) (by omega)) ?_
    repeat infer_instance
    refine x_modG rfl rfl (by omega) fun m m1 m2 _ => ?_
    repeat infer_instance
    refine x_mod rfl rfl hn ?_
    repeat infer_instance
    exact q _ _ (Int.emod_nonneg _ (by omega)) (Int.emod_lt_of_pos _ hn) ⟨_, _, _, rfl, ha, hb, hb2, by omega, by omega⟩
theorem any_wp {p : List D} {s : Slot} {ds : List D} {c : Nat} {Q : Val → DEnv → Prop} {X : Ex → DEnv → Prop} (hp : Pot c p) (hc : c < 1000000000) (hs : s = .ow (.lst ds) .own ∨ s = .ow (.lst ds) .bor ∨ s = .d (.lst ds) ∨ s = .d (.tup ds)) (hl : 0 < ds.length) (hl2 : ds.length < 1000000000)
    (q : ∀ x p', x ∈ ds → Pot (c + 1) p' → Q (.d x) [.ow (.lst p') .bor, backSlot s (some s)]) : (s_l_any [.ow (.lst p) .bor, s]).wp Q X := by
  rcases hs with rfl | rfl | rfl | rfl
  all_goals
    unfold s_l_any e_l_any
    refine f_fn rfl ?_
    repeat infer_instance
    refine draw_wp hp hc (by omega) (by omega) fun r p' h1 h2 hp' => ?_
    obtain ⟨x, e, e2⟩ := atI_of h1 h2
    first | refine x_idx rfl rfl e ?_ | refine x_idxT rfl rfl e ?_
    repeat infer_instance
    exact q x p' (List.mem_of_getElem? e2) hp'
theorem pot_pos {x : Int} {b : Bool} : 0 ≤ (if x < 0 then -x else x) % (10 ^ Int.toNat 60) ^ Int.toNat 5 * (if b = true then 1 else 0) := by
  refine Int.mul_nonneg (Int.emod_nonneg _ (by decide +kernel)) ?_
  split <;> decide
theorem pot_wp {ns : List Int} {i : Int} {Q : Val → DEnv → Prop} {X : Ex → DEnv → Prop} (h0 : 0 ≤ i) (h1 : i < 1000) (q : ∀ p, Pot 0 p → Q (.fr (.lst p)) [.d (.scr ns), .d (.int i)]) : (s_l_pot [.d (.scr ns), .d (.int i)]).wp Q X := by
  unfold s_l_pot e_l_pot
  refine f_fn rfl ?_
  repeat infer_instance
  refine ⟨fun h => ?_, fun h => ?_⟩
  · obtain ⟨x, e, e2⟩ := atI_of (xs := ns) h0 (of_decide_eq_true h)
    repeat infer_instance
    refine x_idxS rfl rfl e ?_
    repeat infer_instance
    exact q _ ⟨_, _, _, rfl, pot_pos, Int.emod_nonneg _ (by decide), Int.emod_lt_of_pos _ (by decide), by decide, by decide⟩
  · repeat infer_instance
    exact q _ ⟨_, _, _, rfl, pot_pos, Int.emod_nonneg _ (by decide), Int.emod_lt_of_pos _ (by decide), by decide, by decide⟩
theorem erase_perm : ∀ {l : List D} {j : Nat} {d : D}, l[j]? = some d → (d :: l.eraseIdx j).Perm l
  | [], j, d, h => by simp at h
  | x :: l, 0, d, h => by simp at h; subst h; exact .refl _
  | x :: l, j + 1, d, h => by
    have h2 := erase_perm (l := l) (j := j) (d := d) (by simpa using h)
    rw [List.eraseIdx_cons_succ]
    exact (List.Perm.swap x d _).trans (h2.cons x)
theorem perm_erase {left found : List D} {j : Nat} {d : D} (h : left[j]? = some d) : (found ++ [d] ++ left.eraseIdx j).Perm (found ++ left) := by
  rw [List.append_assoc]
  refine List.Perm.append_left _ ?_
  exact erase_perm h
theorem mixed_loop {p : List D} {s : Slot} {ds : List D} {c : Nat} {P : Po} (hp : Pot c p) (hg : ∀ x ∈ ds, x.good = true) (hd : ∀ x ∈ ds, x.dep ≤ 60) (hl2 : ds.length < 900000) (hc : c + ds.length < 1000000000)
    (q : ∀ es p', es.Perm ds → Pot (c + ds.length) p' → P.nx [.ow (.lst p') .bor, s, .ow (.lst []) .own, .ow (.lst es) .own]) : (l1_l_mixed [.ow (.lst p) .bor, s, .ow (.lst ds) .own, .ow (.lst []) .own]).wp P := by
  unfold l1_l_mixed
  refine while_inv (fun ρ k => ∃ p' left found, ρ = [.ow (.lst p') .bor, s, .ow (.lst left) .own, .ow (.lst found) .own] ∧ (found ++ left).Perm ds ∧ k = left.length ∧ Pot (c + (ds.length - left.length)) p') 1000000 _ ds.length (by omega) ⟨p, ds, [], rfl, .refl _, rfl, by rw [Nat.sub_self]; exact hp⟩ fun ρ k h => ?_
  obtain ⟨p', left, found, rfl, pm, rfl, hp'⟩ := h
  have lm : ∀ x ∈ left, x ∈ ds := fun x hx => pm.mem_iff.mp (List.mem_append_right _ hx)
  have gl : goodL left = true := goodL_iff.mpr fun x hx => hg x (lm x hx)
  have hlen : found.length + left.length = ds.length := by rw [← List.length_append]; exact pm.length_eq
  repeat infer_instance
  refine x_ne rfl rfl (eqD_good (a := .lst left) (b := .lst []) (by simpa [D.good] using gl) rfl (by
    have := depL_le.mpr fun x hx => hd x (lm x hx)
    simp only [D.dep]
    omega) (by decide)) ?_
  rw [eqG_nil gl]
  repeat infer_instance
  refine ⟨fun h => ?_, fun h => ?_⟩
  · have e : left = [] := by cases left <;> simp_all
    subst e
    rw [List.append_nil] at pm
    exact q found p' pm (by simpa using hp')
  · have hpos : 0 < left.length := by cases left <;> simp_all
    repeat infer_instance
    refine draw_wp hp' (by omega) (by omega) (by omega) fun r p2 h1 h2 hp2 => ?_
    repeat infer_instance
    refine x_popAt rfl (.inl rfl) h1 h2 (by omega) fun d hd => ?_
    repeat infer_instance
    refine x_append rfl (.inl rfl) (by omega) ?_
    repeat infer_instance
    have hel : (left.eraseIdx r.toNat).length = left.length - 1 := List.length_eraseIdx_of_lt (by omega)
    refine ⟨(left.eraseIdx r.toNat).length, by omega, p2, left.eraseIdx r.toNat, found ++ [d], rfl, (perm_erase hd).trans pm, rfl, ?_⟩
    rw [hel, show ds.length - (left.length - 1) = ds.length - left.length + 1 by omega]
    exact hp2
theorem mixed_wp {p : List D} {s : Slot} {ds : List D} {c : Nat} {Q : Val → DEnv → Prop} {X : Ex → DEnv → Prop} (hp : Pot c p) (hs : s = .ow (.lst ds) .own ∨ s = .ow (.lst ds) .bor ∨ s = .d (.lst ds) ∨ s = .d (.tup ds)) (hg : ∀ x ∈ ds, x.good = true) (hd : ∀ x ∈ ds, x.dep ≤ 60) (hl2 : ds.length < 900000) (hc : c + ds.length < 1000000000)
    (q : ∀ es p', es.Perm ds → Pot (c + ds.length) p' → Q (.fr (.lst es)) [.ow (.lst p') .bor, backSlot s (some s)]) : (s_l_mixed [.ow (.lst p) .bor, s]).wp Q X := by
  rcases hs with rfl | rfl | rfl | rfl
  all_goals
    unfold s_l_mixed e_l_mixed
    refine f_fn rfl ?_
    repeat infer_instance
    refine mixed_loop hp hg hd hl2 hc fun es p' pm hp' => ?_
    repeat infer_instance
    exact q es p' pm hp'
/-! ### logs -/
def OpIs (d : D) (k : Str) (v b e : Int) : Prop := d = .tup [.str k, .int v, .int b, .int e]
structure OpOk (d : D) : Prop where
  ex : ∃ k v b e, OpIs d k v b e ∧ ((k = "write" ∧ 1 ≤ v) ∨ (k = "read" ∧ 0 ≤ v)) ∧ v ≤ 1000000000 ∧ -1000000000000000 ≤ b ∧ b ≤ e ∧ e ≤ 1000000000000000
def wroteOf : D → Option Int
  | .tup [.str k, .int v, .int _, .int _] => if k = "write" then some v else none
  | _ => none
def wrote (ds : List D) : List Int := ds.filterMap wroteOf
structure LogOk (ds : List D) : Prop where
  ops : ∀ d ∈ ds, OpOk d
  nd : (wrote ds).Nodup
theorem LogOk.perm {ds es : List D} (h : LogOk ds) (p : es.Perm ds) : LogOk es := ⟨fun d hd => h.ops d (p.mem_iff.mp hd), ((p.filterMap wroteOf).nodup_iff).mpr h.nd⟩
theorem OpOk.gd {d : D} (h : OpOk d) : Gd 1 5 d := by
  obtain ⟨k, v, b, e, rfl, hk, h1, h2, h3, h4⟩ := h.ex
  have hv : 0 ≤ v := by rcases hk with ⟨_, h⟩ | ⟨_, h⟩ <;> omega
  have gs : (D.str k).good = true ∧ (D.str k).short = true := by rcases hk with ⟨rfl, _⟩ | ⟨rfl, _⟩ <;> exact ⟨by decide +kernel, by decide +kernel⟩
  have big : (2 : Nat) ^ 200 = 1606938044258990275541962092341162602522202993782792835301376 := by decide +kernel
  refine ⟨by simp_all [D.good, goodL], ?_, by simp [D.dep, depL], by simp [D.cnt, cntL]⟩
  · simp only [D.short, shortL] at gs ⊢
    simp only [Bool.and_eq_true, decide_eq_true_eq, Bool.and_true]
    refine ⟨by simpa using gs.2, ?_, ?_, ?_⟩ <;> (rw [big]; omega)
theorem wrote_app {ds : List D} {d : D} : wrote (ds ++ [d]) = wrote ds ++ (wroteOf d).toList := by
  unfold wrote
  rw [List.filterMap_append]
  rfl
theorem LogOk.write {ds : List D} {v b e : Int} (h : LogOk ds) (hv : 1 ≤ v) (hv2 : v ≤ 1000000000) (hb : -1000000000000000 ≤ b) (hbe : b ≤ e) (he : e ≤ 1000000000000000) (hn : v ∉ wrote ds) : LogOk (ds ++ [.tup [.str "write", .int v, .int b, .int e]]) := by
  refine ⟨fun d hd => ?_, ?_⟩
  · rcases List.mem_append.mp hd with z | z
    · exact h.ops d z
    · rw [List.mem_singleton] at z; subst z
      exact ⟨_, _, _, _, rfl, .inl ⟨rfl, hv⟩, hv2, hb, hbe, he⟩
  · rw [wrote_app]
    show (wrote ds ++ [v]).Nodup
    rw [List.nodup_append]
    refine ⟨h.nd, by simp, fun a ha b hb => ?_⟩
    rw [List.mem_singleton] at hb
    subst hb
    exact fun z => hn (z ▸ ha)
theorem LogOk.read {ds : List D} {v b e : Int} (h : LogOk ds) (hv : 0 ≤ v) (hv2 : v ≤ 1000000000) (hb : -1000000000000000 ≤ b) (hbe : b ≤ e) (he : e ≤ 1000000000000000) : LogOk (ds ++ [.tup [.str "read", .int v, .int b, .int e]]) := by
  refine ⟨fun d hd => ?_, ?_⟩
  · rcases List.mem_append.mp hd with z | z
    · exact h.ops d z
    · rw [List.mem_singleton] at z; subst z
      exact ⟨_, _, _, _, rfl, .inr ⟨rfl, hv⟩, hv2, hb, hbe, he⟩
  · rw [wrote_app]
    show (wrote ds ++ []).Nodup
    rw [List.append_nil]
    exact h.nd
theorem wrote_mem {ds : List D} {w : Int} (h : w ∈ wrote ds) : ∃ b e, D.tup [.str "write", .int w, .int b, .int e] ∈ ds := by
  unfold wrote at h
  obtain ⟨d, hd, e⟩ := List.mem_filterMap.mp h
  unfold wroteOf at e
  split at e
  · split at e
    · rename_i hk
      cases e
      subst hk
      exact ⟨_, _, hd⟩
    · cases e
  · cases e
theorem wrote_bd {ds : List D} (h : LogOk ds) {w : Int} (hw : w ∈ wrote ds) : 1 ≤ w ∧ w ≤ 1000000000 := by
  obtain ⟨b, e, hm⟩ := wrote_mem hw
  obtain ⟨k, v, b', e', hd, hk, h1, _⟩ := (h.ops _ hm).ex
  cases hd
  rcases hk with ⟨_, h⟩ | ⟨hk, h⟩
  · exact ⟨h, h1⟩
  · exact absurd hk (by decide)
theorem wrote_len {ds : List D} : (wrote ds).length ≤ ds.length := List.length_filterMap_le _ _
end
section
local macro_rules
  | `(tactic| infer_instance) => `(tactic| (first | with_reducible refine b_op ?_ | with_reducible refine b_cb ?_ | with_reducible refine b_un ?_ | with_reducible refine b_call ?_ | with_reducible refine b_cons ?_ | with_reducible refine b_nil ?_ | with_reducible refine b_C ?_ | with_reducible refine b_tup ?_ | with_reducible refine b_lst ?_ | with_reducible refine b_fz ?_ | with_reducible refine b_nsl ?_ | with_reducible refine b_nslD ?_ | with_reducible refine b_nslF ?_ | with_reducible refine b_nslS ?_ | with_reducible refine b_tst ?_ | with_reducible refine b_bT ?_ | with_reducible refine b_andK ?_ | with_reducible refine b_orK ?_ | with_reducible refine b_not ?_ | with_reducible refine b_eIf ?_ | with_reducible refine b_ok ?_ | with_reducible refine b_rng ?_ | with_reducible refine b_iseq ?_ | with_reducible refine b_yes ?_ | with_reducible refine s_skip ?_ | with_reducible refine s_drop ?_ | with_reducible refine s_ret ?_ | with_reducible refine s_retN ?_ | with_reducible refine s_break ?_ | with_reducible refine s_cont ?_ | with_reducible refine s_if ?_ | with_reducible refine s_asg ?_ | with_reducible refine s_par ?_ | with_reducible refine s_tgt ?_ | with_reducible refine s_for ?_ | with_reducible refine s_loop ?_ | with_reducible refine s_store ?_ | with_reducible refine s_asgsN ?_ | with_reducible refine f_d ?_ | with_reducible refine f_fr ?_ | ((with_reducible apply s_seqN); exact (rfl : _ = [_, _, _, _, _, _, _, _, _, _])) | ((with_reducible apply b_var_d); rfl) | ((with_reducible apply b_var_o); rfl) | ((with_reducible apply b_fzv); rfl) | ((with_reducible apply b_fzvA); rfl) | ((with_reducible apply s_asgV); rfl) | ((with_reducible apply s_asgs); rfl) | ((with_reducible apply s_asgsD); rfl; first | assumption | exact Fr.un | exact Fr.dat | exact Fr.own) | ((with_reducible apply s_asgsO); rfl; first | assumption | exact Fr.un | exact Fr.dat | exact Fr.own) | ((with_reducible apply s_asgF); rfl; first | assumption | exact Fr.un | exact Fr.dat | exact Fr.own) | ((with_reducible apply s_asgFO); rfl; first | assumption | exact Fr.un | exact Fr.dat | exact Fr.own) | ((with_reducible apply s_storeV); rfl) | ((with_reducible apply s_storeK); rfl) | ((with_reducible apply b_methL); rfl) | ((with_reducible apply b_methV); rfl) | ((with_reducible apply b_mkTup); rfl; exact Nat.le_of_ble_eq_true rfl) | ((with_reducible apply b_mkLst); rfl; exact Nat.le_of_ble_eq_true rfl) | ((with_reducible apply f_sl); rfl) | ((with_reducible apply f_sld); rfl) | ((with_reducible apply x_mul); rfl; rfl; (first | omega | decide)) | ((with_reducible apply x_mod); rfl; rfl; decide) | ((with_reducible apply x_div); rfl; rfl; (first | omega | decide)) | ((with_reducible apply b_opV); rfl; rfl; rfl) | ((with_reducible apply b_unV); rfl; rfl) | ((with_reducible apply b_callV); rfl; rfl) | ((with_reducible apply b_callF); rfl; rfl) | ((with_reducible apply b_rng1); (first | omega | decide)) | ((with_reducible apply b_rng2); (first | omega | decide))))
theorem wild_loop {p : List D} {c : Nat} {most room : Int} {P : Po} (hp : Pot c p) (h0 : 0 ≤ most) (hm : most ≤ 1000) (hr : 1 ≤ room) (hr2 : room ≤ 100000000000000) (hc : c < 900000000)
    (q : ∀ p' found s3 wr s6 s7 s8 s9, LogOk found → (found.length : Int) ≤ most → Pot (c + 5001) p' → P.nx [.ow (.lst p') .bor, .d (.int most), .d (.int room), s3, .ow (.lst found) .own, .ow (.lst wr) .own, s6, s7, s8, s9]) :
    (l1_l_wild [.ow (.lst p) .bor, .d (.int most), .d (.int room), .un, .ow (.lst []) .own, .ow (.lst []) .own, .un, .un, .un, .un]).wp P := by
  unfold l1_l_wild
  repeat infer_instance
  refine draw_wp hp (by omega) (by omega) (by omega) fun r p1 h1 h2 hp1 => ?_
  repeat infer_instance
  refine loop_inv (fun k ρ => ∃ p' found s3 s6 s7 s8 s9, ρ = [.ow (.lst p') .bor, .d (.int most), .d (.int room), s3, .ow (.lst found) .own, .ow (.lst ((wrote found).map D.int)) .own, s6, s7, s8, s9] ∧ Fr s3 ∧ Fr s6 ∧ Fr s7 ∧ Fr s8 ∧ Fr s9 ∧ LogOk found ∧ found.length = k ∧ Pot (c + 1 + 5 * k) p') _ 0 _ ⟨p1, [], .un, .un, .un, .un, .un, rfl, Fr.un, Fr.un, Fr.un, Fr.un, Fr.un, ⟨by simp, by simp [wrote]⟩, rfl, hp1⟩ (fun j dd ρ hj hI => ?_) fun ρ hI => ?_
  · obtain ⟨p2, found, s3, s6, s7, s8, s9, rfl, f3, f6, f7, f8, f9, lo, hlen, hp2⟩ := hI
    obtain ⟨hjl, rfl⟩ := rng_at hj
    have wl := wrote_len (ds := found)
    repeat infer_instance
    refine any_wp hp2 (by omega) (.inl rfl) (by decide) (by decide) fun kd p3 hkd hp3 => ?_
    have hkd : kd ∈ [D.str "write", D.str "read", D.str "read"] := hkd
    repeat infer_instance
    refine draw_wp hp3 (by omega) (by omega) (by omega) fun v p4 hv1 hv2 hp4 => ?_
    repeat infer_instance
    refine draw_wp hp4 (by omega) (by omega) (by omega) fun b p5 hb1 hb2 hp5 => ?_
    have hkd2 : ∃ ks : Str, kd = .str ks := by
      simp only [List.mem_cons, List.not_mem_nil, or_false] at hkd
      rcases hkd with rfl | rfl | rfl <;> exact ⟨_, rfl⟩
    obtain ⟨ks, rfl⟩ := hkd2
    repeat infer_instance
    refine b_and2 ?_
    repeat infer_instance
    refine b_and2 ?_
    repeat infer_instance
    refine x_ninI rfl rfl ?_
    repeat infer_instance
    refine ⟨fun h => ?_, fun h => ?_⟩
    · have hk : ks = "write" ∧ 0 < v ∧ v ∉ wrote found := by simpa using h
      repeat infer_instance
      refine x_append rfl (.inl rfl) (by rw [List.length_map]; omega) ?_
      repeat infer_instance
      refine draw_wp hp5 (by omega) (by omega) (by omega) fun e p6 he1 he2 hp6 => ?_
      repeat infer_instance
      refine x_append rfl (.inl rfl) (by omega) ?_
      repeat infer_instance
      have e1 : (wrote (found ++ [.tup [.str "write", .int v, .int b, .int (b + e)]])).map D.int = (wrote found).map D.int ++ [.int v] := by
        rw [wrote_app, List.map_append]; rfl
      have hk1 := hk.1
      subst hk1
      refine ⟨p6, found ++ [.tup [.str "write", .int v, .int b, .int (b + e)]], .d (.int (0 + (j : Int))), .d (.int b), .d (.str "write"), .d (.int v), s9, by rw [e1]; rfl, Fr.dat, Fr.dat, Fr.dat, Fr.dat, f9, lo.write (by omega) (by omega) (by omega) (by omega) (by omega) hk.2.2, by simp; omega, hp6.mono (by omega)⟩
    · repeat infer_instance
      refine x_addL rfl rfl (by simp; omega) ?_
      repeat infer_instance
      refine x_addL rfl rfl (by simp; omega) ?_
      repeat infer_instance
      refine x_addL rfl rfl (by simp; omega) ?_
      repeat infer_instance
      refine any_wp hp5 (by omega) (.inl rfl) (by simp; omega) (by simp; omega) fun wd p6 hwd hp6 => ?_
      have hw : ∃ w : Int, wd = .int w ∧ 0 ≤ w ∧ w ≤ 1000000000 := by
        simp only [List.mem_append, List.mem_map, List.mem_singleton, List.mem_cons, List.not_mem_nil, or_false] at hwd
        rcases hwd with ((⟨w, hw, rfl⟩ | rfl) | (⟨w, hw, rfl⟩ | rfl)) | rfl
        · have := wrote_bd lo hw; exact ⟨w, rfl, by omega, by omega⟩
        · exact ⟨0, rfl, by omega, by omega⟩
        · have := wrote_bd lo hw; exact ⟨w, rfl, by omega, by omega⟩
        · exact ⟨0, rfl, by omega, by omega⟩
        · exact ⟨v, rfl, by omega, by omega⟩
      obtain ⟨w, rfl, hw1, hw2⟩ := hw
      repeat infer_instance
      refine draw_wp hp6 (by omega) (by omega) (by omega) fun e p7 he1 he2 hp7 => ?_
      repeat infer_instance
      refine x_append rfl (.inl rfl) (by omega) ?_
      repeat infer_instance
      have e1 : (wrote (found ++ [.tup [.str "read", .int w, .int b, .int (b + e)]])).map D.int = (wrote found).map D.int := by
        rw [wrote_app, List.map_append]; exact List.append_nil _
      refine ⟨p7, found ++ [.tup [.str "read", .int w, .int b, .int (b + e)]], .d (.int (0 + (j : Int))), .d (.int b), .d (.str ks), .d (.int w), .ow (.lst ((wrote found).map D.int ++ [.int 0])) .own, by rw [e1]; rfl, Fr.dat, Fr.dat, Fr.dat, Fr.dat, Fr.own, lo.read (by omega) (by omega) (by omega) (by omega) (by omega), by simp; omega, hp7.mono (by omega)⟩
  · obtain ⟨p2, found, s3, s6, s7, s8, s9, rfl, f3, f6, f7, f8, f9, lo, hlen, hp2⟩ := hI
    have hl : found.length = r.toNat := by simpa using hlen
    exact q p2 found s3 _ s6 s7 s8 s9 lo (by omega) (hp2.mono (by simp; omega))
end
end CM
set_option maxHeartbeats 2000000
namespace CM
open PySem PySem.Spec PyProof.Rows L2 DL
theorem LogOk.len4 {ds : List D} (h : LogOk ds) : (∀ x ∈ ds, x.good = true) ∧ ∀ x ∈ ds, x.dep ≤ 60 := ⟨fun x hx => (h.ops x hx).gd.good, fun x hx => Nat.le_trans (h.ops x hx).gd.dep (by decide)⟩
section
local macro_rules
  | `(tactic| infer_instance) => `(tactic| (first | with_reducible refine b_op ?_ | with_reducible refine b_cb ?_ | with_reducible refine b_un ?_ | with_reducible refine b_call ?_ | with_reducible refine b_cons ?_ | with_reducible refine b_nil ?_ | with_reducible refine b_C ?_ | with_reducible refine b_tup ?_ | with_reducible refine b_lst ?_ | with_reducible refine b_fz ?_ | with_reducible refine b_nsl ?_ | with_reducible refine b_nslD ?_ | with_reducible refine b_nslF ?_ | with_reducible refine b_nslS ?_ | with_reducible refine b_tst ?_ | with_reducible refine b_bT ?_ | with_reducible refine b_andK ?_ | with_reducible refine b_orK ?_ | with_reducible refine b_not ?_ | with_reducible refine b_eIf ?_ | with_reducible refine b_ok ?_ | with_reducible refine b_rng ?_ | with_reducible refine b_iseq ?_ | with_reducible refine b_yes ?_ | with_reducible refine s_skip ?_ | with_reducible refine s_drop ?_ | with_reducible refine s_ret ?_ | with_reducible refine s_retN ?_ | with_reducible refine s_break ?_ | with_reducible refine s_cont ?_ | with_reducible refine s_if ?_ | with_reducible refine s_asg ?_ | with_reducible refine s_par ?_ | with_reducible refine s_tgt ?_ | with_reducible refine s_for ?_ | with_reducible refine s_loop ?_ | with_reducible refine s_store ?_ | with_reducible refine s_asgsN ?_ | with_reducible refine f_d ?_ | with_reducible refine f_fr ?_ | ((with_reducible apply s_seqN); exact (rfl : _ = [_, _, _, _, _, _, _, _, _, _])) | ((with_reducible apply b_var_d); rfl) | ((with_reducible apply b_var_o); rfl) | ((with_reducible apply b_fzv); rfl) | ((with_reducible apply b_fzvA); rfl) | ((with_reducible apply s_asgV); rfl) | ((with_reducible apply s_asgs); rfl) | ((with_reducible apply s_asgsD); rfl; first | assumption | exact Fr.un | exact Fr.dat | exact Fr.own) | ((with_reducible apply s_asgsO); rfl; first | assumption | exact Fr.un | exact Fr.dat | exact Fr.own) | ((with_reducible apply s_asgF); rfl; first | assumption | exact Fr.un | exact Fr.dat | exact Fr.own) | ((with_reducible apply s_asgFO); rfl; first | assumption | exact Fr.un | exact Fr.dat | exact Fr.own) | ((with_reducible apply s_storeV); rfl) | ((with_reducible apply s_storeK); rfl) | ((with_reducible apply b_methL); rfl) | ((with_reducible apply b_methV); rfl) | ((with_reducible apply b_mkTup); rfl; exact Nat.le_of_ble_eq_true rfl) | ((with_reducible apply b_mkLst); rfl; exact Nat.le_of_ble_eq_true rfl) | ((with_reducible apply f_sl); rfl) | ((with_reducible apply f_sld); rfl) | ((with_reducible apply x_mul); rfl; rfl; (first | omega | decide)) | ((with_reducible apply x_mod); rfl; rfl; decide) | ((with_reducible apply x_div); rfl; rfl; (first | omega | decide)) | ((with_reducible apply b_opV); rfl; rfl; rfl) | ((with_reducible apply b_unV); rfl; rfl) | ((with_reducible apply b_callV); rfl; rfl) | ((with_reducible apply b_callF); rfl; rfl) | ((with_reducible apply b_rng1); (first | omega | decide)) | ((with_reducible apply b_rng2); (first | omega | decide))))
theorem wild_wp {p : List D} {c : Nat} {most room : Int} {Q : Val → DEnv → Prop} {X : Ex → DEnv → Prop} (hp : Pot c p) (h0 : 0 ≤ most) (hm : most ≤ 1000) (hr : 1 ≤ room) (hr2 : room ≤ 100000000000000) (hc : c < 900000000)
    (q : ∀ ds p', LogOk ds → (ds.length : Int) ≤ most → Pot (c + 6001) p' → Q (.d (.tup ds)) [.ow (.lst p') .bor, .d (.int most), .d (.int room)]) : (s_l_wild [.ow (.lst p) .bor, .d (.int most), .d (.int room)]).wp Q X := by
  unfold s_l_wild e_l_wild
  refine f_fn rfl ?_
  repeat infer_instance
  refine wild_loop hp h0 hm hr hr2 hc fun p' found s3 wr s6 s7 s8 s9 lo hl hp' => ?_
  repeat infer_instance
  refine mixed_wp hp' (.inr (.inl rfl)) lo.len4.1 lo.len4.2 (by omega) (by omega) fun es p2 pm hp2 => ?_
  repeat infer_instance
  have := pm.length_eq
  exact q es p2 (lo.perm pm) (by omega) (hp2.mono (by omega))
def intOf : D → Option Int
  | .int i => some i
  | _ => none
theorem intOf_map : ∀ (ns : List Int), (ns.map D.int).filterMap intOf = ns
  | [] => rfl
  | n :: ns => by rw [List.map_cons, List.filterMap_cons]; show n :: _ = _; rw [intOf_map ns]
theorem ints_perm {es : List D} {ns : List Int} (h : es.Perm (ns.map D.int)) : ∃ ms : List Int, es = ms.map D.int ∧ ms.Perm ns := by
  have hp := h.filterMap intOf
  rw [intOf_map] at hp
  refine ⟨es.filterMap intOf, ?_, hp⟩
  have hm : ∀ d ∈ es, ∃ i, d = D.int i := fun d hd => by
    obtain ⟨i, _, e⟩ := List.mem_map.mp (h.mem_iff.mp hd)
    exact ⟨i, e.symm⟩
  clear h hp
  induction es with
  | nil => rfl
  | cons e es ih =>
    obtain ⟨i, rfl⟩ := hm e List.mem_cons_self
    rw [List.filterMap_cons]
    show _ = D.int i :: _
    rw [← ih fun d hd => hm d (List.mem_cons_of_mem _ hd)]
theorem rgL_ints {i j : Int} : rgL i j = ((List.range (j - i).toNat).map fun k : Nat => i + (k : Int)).map D.int := by
  unfold rgL
  rw [List.map_map]
  rfl
theorem rgI_nodup {i : Int} {n : Nat} : ((List.range n).map fun k : Nat => i + (k : Int)).Nodup := by
  rw [List.nodup_iff_pairwise_ne, List.pairwise_map]
  exact List.pairwise_lt_range.imp fun h e => by omega
theorem nodup_get : ∀ {l : List Int} {i j : Nat} {x : Int}, l.Nodup → l[i]? = some x → l[j]? = some x → i = j
  | [], i, j, x, _, e, _ => by simp at e
  | a :: l, i, j, x, nd, e1, e2 => by
    rw [List.nodup_cons] at nd
    cases i with
    | zero => cases j with
      | zero => rfl
      | succ j =>
        have e1 : a = x := by simpa using e1
        subst e1
        exact absurd (List.mem_of_getElem? (i := j) (by simpa using e2)) nd.1
    | succ i => cases j with
      | zero =>
        have e2 : a = x := by simpa using e2
        subst e2
        exact absurd (List.mem_of_getElem? (i := i) (by simpa using e1)) nd.1
      | succ j => exact congrArg (· + 1) (nodup_get nd.2 (by simpa using e1) (by simpa using e2))
structure TrueArgs (many off step : Int) : Prop where
  m0 : 0 ≤ many
  m1 : many ≤ 1000
  o0 : 0 ≤ off
  o1 : off ≤ 100000000000
  s0 : 0 ≤ step
  s1 : step ≤ 100000000000
end
section
local macro_rules
  | `(tactic| infer_instance) => `(tactic| (first | with_reducible refine b_op ?_ | with_reducible refine b_cb ?_ | with_reducible refine b_un ?_ | with_reducible refine b_call ?_ | with_reducible refine b_cons ?_ | with_reducible refine b_nil ?_ | with_reducible refine b_C ?_ | with_reducible refine b_tup ?_ | with_reducible refine b_lst ?_ | with_reducible refine b_fz ?_ | with_reducible refine b_nsl ?_ | with_reducible refine b_nslD ?_ | with_reducible refine b_nslF ?_ | with_reducible refine b_nslS ?_ | with_reducible refine b_tst ?_ | with_reducible refine b_bT ?_ | with_reducible refine b_andK ?_ | with_reducible refine b_orK ?_ | with_reducible refine b_not ?_ | with_reducible refine b_eIf ?_ | with_reducible refine b_ok ?_ | with_reducible refine b_rng ?_ | with_reducible refine b_iseq ?_ | with_reducible refine b_yes ?_ | with_reducible refine s_skip ?_ | with_reducible refine s_drop ?_ | with_reducible refine s_ret ?_ | with_reducible refine s_retN ?_ | with_reducible refine s_break ?_ | with_reducible refine s_cont ?_ | with_reducible refine s_if ?_ | with_reducible refine s_asg ?_ | with_reducible refine s_par ?_ | with_reducible refine s_tgt ?_ | with_reducible refine s_for ?_ | with_reducible refine s_loop ?_ | with_reducible refine s_store ?_ | with_reducible refine s_asgsN ?_ | with_reducible refine f_d ?_ | with_reducible refine f_fr ?_ | ((with_reducible apply s_seqN); exact (rfl : _ = [_, _, _, _, _, _, _, _, _, _, _, _, _])) | ((with_reducible apply b_var_d); rfl) | ((with_reducible apply b_var_o); rfl) | ((with_reducible apply b_fzv); rfl) | ((with_reducible apply b_fzvA); rfl) | ((with_reducible apply s_asgV); rfl) | ((with_reducible apply s_asgs); rfl) | ((with_reducible apply s_asgsD); rfl; first | assumption | exact Fr.un | exact Fr.dat | exact Fr.own) | ((with_reducible apply s_asgsO); rfl; first | assumption | exact Fr.un | exact Fr.dat | exact Fr.own) | ((with_reducible apply s_asgF); rfl; first | assumption | exact Fr.un | exact Fr.dat | exact Fr.own) | ((with_reducible apply s_asgFO); rfl; first | assumption | exact Fr.un | exact Fr.dat | exact Fr.own) | ((with_reducible apply s_storeV); rfl) | ((with_reducible apply s_storeK); rfl) | ((with_reducible apply b_methL); rfl) | ((with_reducible apply b_methV); rfl) | ((with_reducible apply b_mkTup); rfl; exact Nat.le_of_ble_eq_true rfl) | ((with_reducible apply b_mkLst); rfl; exact Nat.le_of_ble_eq_true rfl) | ((with_reducible apply f_sl); rfl) | ((with_reducible apply f_sld); rfl) | ((with_reducible apply x_mul); rfl; rfl; (first | omega | decide)) | ((with_reducible apply x_mod); rfl; rfl; decide) | ((with_reducible apply x_div); rfl; rfl; (first | omega | decide)) | ((with_reducible apply b_opV); rfl; rfl; rfl) | ((with_reducible apply b_unV); rfl; rfl) | ((with_reducible apply b_callV); rfl; rfl) | ((with_reducible apply b_callF); rfl; rfl) | ((with_reducible apply b_rng1); (first | omega | decide)) | ((with_reducible apply b_rng2); (first | omega | decide))))
theorem true_loop {p : List D} {c : Nat} {many off step t0 : Int} {ms : List Int} {P : Po} (hp : Pot c p) (A : TrueArgs many off step) (ht : -7 ≤ t0 ∧ t0 ≤ 100000000000000) (nd : ms.Nodup) (hl : (ms.length : Int) = many) (hb : ∀ m ∈ ms, 1 ≤ m ∧ m ≤ 1000) (hc : c < 900000000)
    (q : ∀ p' found s5 s7 s8 s9 s10 s11 s12, LogOk found → (found.length : Int) = many → Pot (c + 6000) p' → P.nx [.ow (.lst p') .bor, .d (.int many), .d (.int off), .d (.int step), .ow (.lst (ms.map D.int)) .own, s5, .ow (.lst found) .own, s7, s8, s9, s10, s11, s12]) :
    (l1_l_true [.ow (.lst p) .bor, .d (.int many), .d (.int off), .d (.int step), .ow (.lst (ms.map D.int)) .own, .un, .ow (.lst []) .own, .d (.int 0), .d (.int t0), .un, .un, .un, .un]).wp P := by
  obtain ⟨m0, m1, o0, o1, s0, s1⟩ := A
  unfold l1_l_true
  repeat infer_instance
  refine loop_inv (fun k ρ => ∃ p' found s5 w t s9 s10 s11 s12, ρ = [.ow (.lst p') .bor, .d (.int many), .d (.int off), .d (.int step), .ow (.lst (ms.map D.int)) .own, s5, .ow (.lst found) .own, .d (.int w), .d (.int t), s9, s10, s11, s12] ∧ Fr s5 ∧ Fr s9 ∧ Fr s10 ∧ Fr s11 ∧ Fr s12 ∧ LogOk found ∧ found.length = k ∧ 0 ≤ w ∧ w ≤ 1000 ∧ -7 ≤ t ∧ t ≤ 100000000000000 + k * step ∧ (∀ u ∈ wrote found, ∃ i, i < k ∧ ms[i]? = some u) ∧ Pot (c + 6 * k) p') _ 0 _ ⟨p, [], .un, 0, t0, .un, .un, .un, .un, rfl, Fr.un, Fr.un, Fr.un, Fr.un, Fr.un, ⟨by simp, by simp [wrote]⟩, rfl, by omega, by omega, by omega, by omega, by simp [wrote], hp⟩ (fun j dd ρ hj hI => ?_) fun ρ hI => ?_
  · obtain ⟨p2, found, s5, w, t, s9, s10, s11, s12, rfl, f5, f9, f10, f11, f12, lo, hlen, w0, w1, t1, t2, hw, hp2⟩ := hI
    obtain ⟨hjl, rfl⟩ := rng_at hj
    simp only [Nat.zero_add] at hlen t2 hw hp2
    have hjs : (j : Int) * step ≤ 1000 * step := Int.mul_le_mul_of_nonneg_right (by omega) s0
    repeat infer_instance
    refine draw_wp hp2 (by omega) (by omega) (by omega) fun d1 p3 a1 a2 hp3 => ?_
    repeat infer_instance
    refine any_wp hp3 (by omega) (.inl rfl) (by decide) (by decide) fun kd p4 hkd hp4 => ?_
    have hkd : kd ∈ [D.str "write", D.str "read", D.str "read"] := hkd
    have hkd2 : kd = .str "write" ∨ kd = .str "read" := by
      simp only [List.mem_cons, List.not_mem_nil, or_false] at hkd
      rcases hkd with h | h | h
      · exact .inl h
      · exact .inr h
      · exact .inr h
    have hstep : (j : Int) * step + step = ((j + 1 : Nat) : Int) * step := by rw [Int.natCast_add, Int.add_mul]; simp
    have hstep2 : ((j + 1 : Nat) : Int) * step ≤ 1000 * step := Int.mul_le_mul_of_nonneg_right (by omega) s0
    rcases hkd2 with rfl | rfl
    · repeat infer_instance
      refine ⟨fun _ => ?_, fun h => absurd h (by decide)⟩
      have hmj : j < ms.length := by omega
      obtain ⟨hm0, hm1⟩ := hb ms[j] (List.getElem_mem hmj)
      repeat infer_instance
      refine x_idx (d := .int ms[j]) rfl rfl (atI_map (f := D.int) (by
        obtain ⟨y, e1, e2⟩ := atI_of (xs := ms) (i := 0 + (j : Int)) (by omega) (by omega)
        rw [e1]
        have : (0 + (j : Int)).toNat = j := by omega
        rw [this, List.getElem?_eq_getElem hmj] at e2
        exact e2.symm)) ?_
      repeat infer_instance
      refine draw_wp hp4 (by omega) (by omega) (by omega) fun d2 p5 b1 b2 hp5 => ?_
      repeat infer_instance
      refine draw_wp hp5 (by omega) (by omega) (by omega) fun d3 p6 c1 c2 hp6 => ?_
      repeat infer_instance
      refine draw_wp hp6 (by omega) (by omega) (by omega) fun d4 p7 e1 e2 hp7 => ?_
      repeat infer_instance
      refine draw_wp hp7 (by omega) (by omega) (by omega) fun d5 p8 g1 g2 hp8 => ?_
      repeat infer_instance
      refine x_append rfl (.inl rfl) (by omega) ?_
      repeat infer_instance
      refine ⟨p8, _, .d (.int (0 + (j : Int))), ms[j], t + d1, .d (.str "write"), _, _, _, rfl, Fr.dat, Fr.dat, Fr.dat, Fr.dat, Fr.dat, lo.write hm0 (by omega) (by omega) (by omega) (by omega) (fun z => ?_), by simp; omega, by omega, hm1, by omega, by simp only [Nat.zero_add]; omega, fun u hu => ?_, hp8.mono (by omega)⟩
      · obtain ⟨i, hi, e⟩ := hw _ z
        have := nodup_get nd e (List.getElem?_eq_getElem hmj)
        omega
      · rw [wrote_app] at hu
        rcases List.mem_append.mp hu with z | z
        · obtain ⟨i, hi, e⟩ := hw _ z
          exact ⟨i, by omega, e⟩
        · have z : u ∈ [ms[j]] := z
          rw [List.mem_singleton] at z
          subst z
          exact ⟨j, by omega, List.getElem?_eq_getElem hmj⟩
    · repeat infer_instance
      refine ⟨fun h => absurd h (by decide), fun _ => ?_⟩
      repeat infer_instance
      refine draw_wp hp4 (by omega) (by omega) (by omega) fun d2 p5 b1 b2 hp5 => ?_
      repeat infer_instance
      refine draw_wp hp5 (by omega) (by omega) (by omega) fun d3 p6 c1 c2 hp6 => ?_
      repeat infer_instance
      refine draw_wp hp6 (by omega) (by omega) (by omega) fun d4 p7 e1 e2 hp7 => ?_
      repeat infer_instance
      refine draw_wp hp7 (by omega) (by omega) (by omega) fun d5 p8 g1 g2 hp8 => ?_
      repeat infer_instance
      refine x_append rfl (.inl rfl) (by omega) ?_
      repeat infer_instance
      refine ⟨p8, _, .d (.int (0 + (j : Int))), w, t + d1, .d (.str "read"), _, _, _, rfl, Fr.dat, Fr.dat, Fr.dat, Fr.dat, Fr.dat, lo.read w0 (by omega) (by omega) (by omega) (by omega), by simp; omega, w0, w1, by omega, by simp only [Nat.zero_add]; omega, fun u hu => ?_, hp8.mono (by omega)⟩
      rw [wrote_app] at hu
      rcases List.mem_append.mp hu with z | z
      · obtain ⟨i, hi, e⟩ := hw _ z
        exact ⟨i, by omega, e⟩
      · exact absurd z (by intro z; cases z)
  · obtain ⟨p2, found, s5, w, t, s9, s10, s11, s12, rfl, f5, f9, f10, f11, f12, lo, hlen, w0, w1, t1, t2, hw, hp2⟩ := hI
    have hl2 : found.length = many.toNat := by simpa using hlen
    exact q p2 found s5 _ _ s9 s10 s11 s12 lo (by omega) (hp2.mono (by simp; omega))
end
end CM
set_option maxHeartbeats 2000000
namespace CM
open PySem PySem.Spec PyProof.Rows L2 DL
theorem p14 : ((10 : Int) ^ Int.toNat 14) = 100000000000000 := by decide +kernel
section
local macro_rules
  | `(tactic| infer_instance) => `(tactic| (first | with_reducible refine b_op ?_ | with_reducible refine b_cb ?_ | with_reducible refine b_un ?_ | with_reducible refine b_call ?_ | with_reducible refine b_cons ?_ | with_reducible refine b_nil ?_ | with_reducible refine b_C ?_ | with_reducible refine b_tup ?_ | with_reducible refine b_lst ?_ | with_reducible refine b_fz ?_ | with_reducible refine b_nsl ?_ | with_reducible refine b_nslD ?_ | with_reducible refine b_nslF ?_ | with_reducible refine b_nslS ?_ | with_reducible refine b_tst ?_ | with_reducible refine b_bT ?_ | with_reducible refine b_andK ?_ | with_reducible refine b_orK ?_ | with_reducible refine b_not ?_ | with_reducible refine b_eIf ?_ | with_reducible refine b_ok ?_ | with_reducible refine b_rng ?_ | with_reducible refine b_iseq ?_ | with_reducible refine b_yes ?_ | with_reducible refine s_skip ?_ | with_reducible refine s_drop ?_ | with_reducible refine s_ret ?_ | with_reducible refine s_retN ?_ | with_reducible refine s_break ?_ | with_reducible refine s_cont ?_ | with_reducible refine s_if ?_ | with_reducible refine s_asg ?_ | with_reducible refine s_par ?_ | with_reducible refine s_tgt ?_ | with_reducible refine s_for ?_ | with_reducible refine s_loop ?_ | with_reducible refine s_store ?_ | with_reducible refine s_asgsN ?_ | with_reducible refine f_d ?_ | with_reducible refine f_fr ?_ | ((with_reducible apply s_seqN); exact (rfl : _ = [_, _, _, _, _, _, _, _, _, _, _, _, _])) | ((with_reducible apply b_var_d); rfl) | ((with_reducible apply b_var_o); rfl) | ((with_reducible apply b_fzv); rfl) | ((with_reducible apply b_fzvA); rfl) | ((with_reducible apply s_asgV); rfl) | ((with_reducible apply s_asgs); rfl) | ((with_reducible apply s_asgsD); rfl; first | assumption | exact Fr.un | exact Fr.dat | exact Fr.own) | ((with_reducible apply s_asgsO); rfl; first | assumption | exact Fr.un | exact Fr.dat | exact Fr.own) | ((with_reducible apply s_asgF); rfl; first | assumption | exact Fr.un | exact Fr.dat | exact Fr.own) | ((with_reducible apply s_asgFO); rfl; first | assumption | exact Fr.un | exact Fr.dat | exact Fr.own) | ((with_reducible apply s_storeV); rfl) | ((with_reducible apply s_storeK); rfl) | ((with_reducible apply b_methL); rfl) | ((with_reducible apply b_methV); rfl) | ((with_reducible apply b_mkTup); rfl; exact Nat.le_of_ble_eq_true rfl) | ((with_reducible apply b_mkLst); rfl; exact Nat.le_of_ble_eq_true rfl) | ((with_reducible apply f_sl); rfl) | ((with_reducible apply f_sld); rfl) | ((with_reducible apply x_mul); rfl; rfl; (first | omega | decide)) | ((with_reducible apply x_mod); rfl; rfl; decide) | ((with_reducible apply x_div); rfl; rfl; (first | omega | decide)) | ((with_reducible apply b_opV); rfl; rfl; rfl) | ((with_reducible apply b_unV); rfl; rfl) | ((with_reducible apply b_callV); rfl; rfl) | ((with_reducible apply b_callF); rfl; rfl) | ((with_reducible apply b_rng1); (first | omega | decide)) | ((with_reducible apply b_rng2); (first | omega | decide))))
theorem true_wp {p : List D} {c : Nat} {many off step : Int} {Q : Val → DEnv → Prop} {X : Ex → DEnv → Prop} (hp : Pot c p) (A : TrueArgs many off step) (hc : c < 800000000)
    (q : ∀ ds p', LogOk ds → (ds.length : Int) = many → Pot (c + 9000) p' → Q (.d (.tup ds)) [.ow (.lst p') .bor, .d (.int many), .d (.int off), .d (.int step)]) : (s_l_true [.ow (.lst p) .bor, .d (.int many), .d (.int off), .d (.int step)]).wp Q X := by
  have B := A
  obtain ⟨m0, m1, o0, o1, s0, s1⟩ := B
  unfold s_l_true e_l_true
  refine f_fn rfl ?_
  repeat infer_instance
  refine any_wp hp (by omega) (.inl rfl) (by decide) (by decide) fun td p1 htd hp1 => ?_
  have ht : ∃ t : Int, td = .int t ∧ -7 ≤ t ∧ t ≤ 100000000000000 := by
    have htd : td ∈ [D.int 0, D.int (-7), D.int (10 ^ Int.toNat 14)] := htd
    rw [p14] at htd
    simp only [List.mem_cons, List.not_mem_nil, or_false] at htd
    rcases htd with rfl | rfl | rfl <;> exact ⟨_, rfl, by decide, by decide⟩
  obtain ⟨t0, rfl, ht⟩ := ht
  repeat infer_instance
  refine x_lrg rfl rfl (by unfold rgIn; exact decide_eq_true (by omega)) ?_
  repeat infer_instance
  rw [rgL_ints]
  refine mixed_wp hp1 (.inl rfl) (fun x hx => ?_) (fun x hx => ?_) (by simp; omega) (by simp; omega) fun es p2 pm hp2 => ?_
  · obtain ⟨i, _, rfl⟩ := List.mem_map.mp hx; rfl
  · obtain ⟨i, _, rfl⟩ := List.mem_map.mp hx; exact Nat.zero_le _
  obtain ⟨ms, rfl, pms⟩ := ints_perm pm
  have hml := pms.length_eq
  simp only [List.length_map, List.length_range] at hml hp2
  repeat infer_instance
  refine true_loop hp2 A ht (pms.nodup_iff.mpr rgI_nodup) (by omega) (fun m hm => ?_) (by omega) fun p3 found s5 s7 s8 s9 s10 s11 s12 lo hl hp3 => ?_
  · obtain ⟨k, hk, rfl⟩ := List.mem_map.mp (pms.mem_iff.mp hm)
    rw [List.mem_range] at hk
    omega
  repeat infer_instance
  refine mixed_wp hp3 (.inr (.inl rfl)) lo.len4.1 lo.len4.2 (by omega) (by omega) fun es p4 pm2 hp4 => ?_
  repeat infer_instance
  have := pm2.length_eq
  exact q es p4 (lo.perm pm2) (by omega) (hp4.mono (by omega))
def vOf : D → Int
  | .tup [_, .int v, _, _] => v
  | _ => 0
def keepD (ws : List Int) (d : D) : Bool := !decide (vOf d ∈ ws)
end
section
local macro_rules
  | `(tactic| infer_instance) => `(tactic| (first | with_reducible refine b_op ?_ | with_reducible refine b_cb ?_ | with_reducible refine b_un ?_ | with_reducible refine b_call ?_ | with_reducible refine b_cons ?_ | with_reducible refine b_nil ?_ | with_reducible refine b_C ?_ | with_reducible refine b_tup ?_ | with_reducible refine b_lst ?_ | with_reducible refine b_fz ?_ | with_reducible refine b_nsl ?_ | with_reducible refine b_nslD ?_ | with_reducible refine b_nslF ?_ | with_reducible refine b_nslS ?_ | with_reducible refine b_tst ?_ | with_reducible refine b_bT ?_ | with_reducible refine b_andK ?_ | with_reducible refine b_orK ?_ | with_reducible refine b_not ?_ | with_reducible refine b_eIf ?_ | with_reducible refine b_ok ?_ | with_reducible refine b_rng ?_ | with_reducible refine b_iseq ?_ | with_reducible refine b_yes ?_ | with_reducible refine s_skip ?_ | with_reducible refine s_drop ?_ | with_reducible refine s_ret ?_ | with_reducible refine s_retN ?_ | with_reducible refine s_break ?_ | with_reducible refine s_cont ?_ | with_reducible refine s_if ?_ | with_reducible refine s_asg ?_ | with_reducible refine s_par ?_ | with_reducible refine s_tgt ?_ | with_reducible refine s_for ?_ | with_reducible refine s_loop ?_ | with_reducible refine s_store ?_ | with_reducible refine s_asgsN ?_ | with_reducible refine f_d ?_ | with_reducible refine f_fr ?_ | ((with_reducible apply s_seqN); exact (rfl : _ = [_, _])) | ((with_reducible apply b_var_d); rfl) | ((with_reducible apply b_var_o); rfl) | ((with_reducible apply b_fzv); rfl) | ((with_reducible apply b_fzvA); rfl) | ((with_reducible apply s_asgV); rfl) | ((with_reducible apply s_asgs); rfl) | ((with_reducible apply s_asgsD); rfl; first | assumption | exact Fr.un | exact Fr.dat | exact Fr.own) | ((with_reducible apply s_asgsO); rfl; first | assumption | exact Fr.un | exact Fr.dat | exact Fr.own) | ((with_reducible apply s_asgF); rfl; first | assumption | exact Fr.un | exact Fr.dat | exact Fr.own) | ((with_reducible apply s_asgFO); rfl; first | assumption | exact Fr.un | exact Fr.dat | exact Fr.own) | ((with_reducible apply s_storeV); rfl) | ((with_reducible apply s_storeK); rfl) | ((with_reducible apply b_methL); rfl) | ((with_reducible apply b_methV); rfl) | ((with_reducible apply b_mkTup); rfl; exact Nat.le_of_ble_eq_true rfl) | ((with_reducible apply b_mkLst); rfl; exact Nat.le_of_ble_eq_true rfl) | ((with_reducible apply f_sl); rfl) | ((with_reducible apply f_sld); rfl) | ((with_reducible apply x_mul); rfl; rfl; (first | omega | decide)) | ((with_reducible apply x_mod); rfl; rfl; decide) | ((with_reducible apply x_div); rfl; rfl; (first | omega | decide)) | ((with_reducible apply b_opV); rfl; rfl; rfl) | ((with_reducible apply b_unV); rfl; rfl) | ((with_reducible apply b_callV); rfl; rfl) | ((with_reducible apply b_callF); rfl; rfl) | ((with_reducible apply b_rng1); (first | omega | decide)) | ((with_reducible apply b_rng2); (first | omega | decide))))
end
end CM
set_option maxHeartbeats 4000000
namespace CM
open PySem PySem.Spec PyProof.Rows L2 DL
theorem LogOk.gd {ds : List D} (h : LogOk ds) (hl : ds.length ≤ 200) : Gd 2 1001 (.tup ds) := (Gd.tup fun x hx => (h.ops x hx).gd).mono (by decide) (by omega)
theorem LogOk.filter {ds : List D} (h : LogOk ds) (p : D → Bool) : LogOk (ds.filter p) :=
  ⟨fun d hd => h.ops d (List.mem_filter.mp hd).1, by
    have : (wrote (ds.filter p)).Sublist (wrote ds) := List.Sublist.filterMap _ List.filter_sublist
    exact this.nodup h.nd⟩
theorem big200 : (2 : Nat) ^ 200 = 1606938044258990275541962092341162602522202993782792835301376 := by decide +kernel
end CM
set_option maxHeartbeats 2000000
namespace CM
open PySem PySem.Spec PyProof.Rows L2 DL
/-! typed operations and logs -/
structure Op where
  w : Bool
  v : Int
  b : Int
  e : Int
  deriving DecidableEq
def Op.k (o : Op) : Str := if o.w then "write" else "read"
def Op.d (o : Op) : D := .tup [.str o.k, .int o.v, .int o.b, .int o.e]
structure Op.Ok (o : Op) : Prop where
  lo : 0 ≤ o.v
  wr : o.w = true → 1 ≤ o.v
  hi : o.v ≤ 1000000000
  b : -1000000000000000 ≤ o.b
  be : o.b ≤ o.e
  e : o.e ≤ 1000000000000000
abbrev Log := List Op
def Log.d (l : Log) : D := .tup (l.map Op.d)
def Log.wr (l : Log) : List Int := (l.filter (·.w)).map (·.v)
structure Log.Ok (l : Log) : Prop where
  ops : ∀ o ∈ l, o.Ok
  nd : (Log.wr l).Nodup
  len : l.length ≤ 200
theorem OpOk.typ {d : D} (h : OpOk d) : ∃ o : Op, d = o.d ∧ o.Ok := by
  obtain ⟨k, v, b, e, rfl, hk, h1, h2, h3, h4⟩ := h.ex
  rcases hk with ⟨rfl, hv⟩ | ⟨rfl, hv⟩
  · exact ⟨⟨true, v, b, e⟩, rfl, ⟨by show 0 ≤ v; omega, fun _ => hv, h1, h2, h3, h4⟩⟩
  · exact ⟨⟨false, v, b, e⟩, rfl, ⟨hv, fun z => (by cases z), h1, h2, h3, h4⟩⟩
theorem wroteOf_d (o : Op) : wroteOf o.d = if o.w then some o.v else none := by
  obtain ⟨w, v, b, e⟩ := o
  cases w
  · rfl
  · rfl
theorem wrote_d : ∀ (l : Log), wrote (l.map Op.d) = Log.wr l
  | [] => rfl
  | o :: l => by
    have ih := wrote_d l
    unfold wrote Log.wr at ih ⊢
    rw [List.map_cons, List.filterMap_cons, wroteOf_d, List.filter_cons]
    cases o.w <;> simp [ih]
theorem LogOk.typ {ds : List D} (h : LogOk ds) (hl : ds.length ≤ 200) : ∃ l : Log, ds = l.map Op.d ∧ l.Ok := by
  have key : ∀ es : List D, (∀ d ∈ es, OpOk d) → ∃ l : Log, es = l.map Op.d ∧ ∀ o ∈ l, o.Ok := fun es => by
    induction es with
    | nil => exact fun _ => ⟨[], rfl, by simp⟩
    | cons d es ih =>
      intro he
      obtain ⟨l, rfl, hl⟩ := ih fun x hx => he x (List.mem_cons_of_mem _ hx)
      obtain ⟨o, rfl, ho⟩ := (he d List.mem_cons_self).typ
      exact ⟨o :: l, rfl, fun x hx => by
        rcases List.mem_cons.mp hx with z | z
        · subst z; exact ho
        · exact hl x z⟩
  obtain ⟨l, rfl, ho⟩ := key ds h.ops
  exact ⟨l, rfl, ⟨ho, by rw [← wrote_d]; exact h.nd, by simpa using hl⟩⟩
theorem Op.Ok.op {o : Op} (h : o.Ok) : OpOk o.d := by
  obtain ⟨w, v, b, e⟩ := o
  obtain ⟨h0, h1, h2, h3, h4, h5⟩ := h
  cases w
  · exact ⟨"read", v, b, e, rfl, .inr ⟨rfl, h0⟩, h2, h3, h4, h5⟩
  · exact ⟨"write", v, b, e, rfl, .inl ⟨rfl, h1 rfl⟩, h2, h3, h4, h5⟩
theorem Log.Ok.log {l : Log} (h : l.Ok) : LogOk (l.map Op.d) := ⟨fun d hd => by
  obtain ⟨o, ho, rfl⟩ := List.mem_map.mp hd
  exact (h.ops o ho).op, by rw [wrote_d]; exact h.nd⟩
/-! what is good to compare and to show -/
theorem Gd.nat {i : Int} (h : -10000000000000000000 ≤ i) (h2 : i ≤ 10000000000000000000) : Gd 0 1 (.int i) := Gd.int (by rw [big200]; omega)
theorem Gd.str {x : Str} (h : (D.str x).good = true) (h2 : (D.str x).short = true) : Gd 0 1 (.str x) := ⟨h, h2, Nat.le_refl _, Nat.le_refl _⟩
theorem Gd.bl {b : Bool} : Gd 0 1 (.bl b) := ⟨rfl, rfl, Nat.le_refl _, Nat.le_refl _⟩
theorem Gd.non : Gd 0 1 .non := ⟨rfl, rfl, Nat.le_refl _, Nat.le_refl _⟩
theorem Log.Ok.gd {l : Log} (h : l.Ok) : Gd 2 1001 (Log.d l) := h.log.gd (by rw [List.length_map]; exact h.len)
theorem Gd.repr {a : D} {k n : Nat} (h : Gd k n a) (hk : k ≤ 60) (hn : n ≤ 8000) (ht : (∃ xs, a = .tup xs) ∨ ∃ xs, a = .lst xs) : reprD [a] = some (.d (.str (shownD a))) := by
  rcases ht with ⟨xs, rfl⟩ | ⟨xs, rfl⟩
  · exact h.reprT hk hn
  · exact h.reprL hk hn
/-! values -/
def Log.vals (l : Log) : List Int := sortSetI (l.map (·.v))
def LOWEST : Int := -1000000000000000000
/-- the first end of a value -/
def Log.fe (l : Log) (v : Int) : Int := if v = 0 then LOWEST else minL ((l.filter (·.v = v)).map (·.e))
def Log.lb (l : Log) (v : Int) : Int := maxL ((l.filter (·.v = v)).map (·.b))
theorem mem_vals {l : Log} {v : Int} : v ∈ l.vals ↔ ∃ o ∈ l, o.v = v := by
  unfold Log.vals
  rw [mem_sortSetI, List.mem_map]
theorem vals_pw (l : Log) : l.vals.Pairwise (· < ·) := sortSetI_pw _
theorem insI_len {k : Int} : ∀ {xs : List Int}, (insI k xs).length ≤ xs.length + 1
  | [] => Nat.le_refl _
  | x :: xs => by
    unfold insI
    split
    · exact Nat.le_refl _
    · split
      · simp
      · have := insI_len (k := k) (xs := xs); simp only [List.length_cons]; omega
theorem sortSetI_len : ∀ {xs : List Int}, (sortSetI xs).length ≤ xs.length
  | [] => Nat.le_refl _
  | x :: xs => by
    have h1 := insI_len (k := x) (xs := sortSetI xs)
    have h2 := sortSetI_len (xs := xs)
    show (insI x (sortSetI xs)).length ≤ xs.length + 1
    omega
theorem vals_bd {l : Log} (h : l.Ok) {v : Int} (hv : v ∈ l.vals) : 0 ≤ v ∧ v ≤ 1000000000 := by
  obtain ⟨o, ho, rfl⟩ := mem_vals.mp hv
  exact ⟨(h.ops o ho).lo, (h.ops o ho).hi⟩
end CM
set_option maxHeartbeats 4000000
namespace CM
open PySem PySem.Spec PyProof.Rows L2 DL
section
variable {ρ ρ' : DEnv} {Q : Val → DEnv → Prop} {X : Ex → DEnv → Prop} {xs : List Val} {a b : D} {x y : Val}
theorem way_eq {k : Str} {A B : Prop} (q : B) : Way (!decide (k = k)) A B := way_f (by simp) q
theorem way_eq' {k : Str} {A B : Prop} (q : A) : Way (decide (k = k)) A B := way_t (by simp) q
end
theorem wildT_wp {p : List D} {c : Nat} {most room : Int} {Q : Val → DEnv → Prop} {X : Ex → DEnv → Prop} (hp : Pot c p) (h0 : 0 ≤ most) (hm : most ≤ 200) (hr : 1 ≤ room) (hr2 : room ≤ 100000000000000) (hc : c < 900000000)
    (q : ∀ (l : Log) p', l.Ok → (l.length : Int) ≤ most → Pot (c + 6001) p' → Q (.d l.d) [.ow (.lst p') .bor, .d (.int most), .d (.int room)]) : (s_l_wild [.ow (.lst p) .bor, .d (.int most), .d (.int room)]).wp Q X :=
  wild_wp hp h0 (by omega) hr hr2 hc fun ds p' lo hl hp' => by
    obtain ⟨l, rfl, ho⟩ := lo.typ (by omega)
    exact q l p' ho (by rw [List.length_map] at hl; exact hl) hp'
theorem trueT_wp {p : List D} {c : Nat} {many off step : Int} {Q : Val → DEnv → Prop} {X : Ex → DEnv → Prop} (hp : Pot c p) (A : TrueArgs many off step) (hm : many ≤ 200) (hc : c < 800000000)
    (q : ∀ (l : Log) p', l.Ok → (l.length : Int) = many → Pot (c + 9000) p' → Q (.d l.d) [.ow (.lst p') .bor, .d (.int many), .d (.int off), .d (.int step)]) : (s_l_true [.ow (.lst p) .bor, .d (.int many), .d (.int off), .d (.int step)]).wp Q X :=
  true_wp hp A hc fun ds p' lo hl hp' => by
    obtain ⟨l, rfl, ho⟩ := lo.typ (by omega)
    exact q l p' ho (by rw [List.length_map] at hl; exact hl) hp'
/-! laws: for each of the first three cells -/
section
local macro_rules
  | `(tactic| infer_instance) => `(tactic| (first | with_reducible refine b_op ?_ | with_reducible refine b_cb ?_ | with_reducible refine b_un ?_ | with_reducible refine b_call ?_ | with_reducible refine b_cons ?_ | with_reducible refine b_nil ?_ | with_reducible refine b_C ?_ | with_reducible refine b_tup ?_ | with_reducible refine b_lst ?_ | with_reducible refine b_fz ?_ | with_reducible refine b_nsl ?_ | with_reducible refine b_nslD ?_ | with_reducible refine b_nslF ?_ | with_reducible refine b_nslS ?_ | with_reducible refine b_tst ?_ | with_reducible refine b_bT ?_ | with_reducible refine b_not ?_ | with_reducible refine b_ok ?_ | with_reducible refine b_rng ?_ | with_reducible refine b_iseq ?_ | with_reducible refine b_yes ?_ | with_reducible refine s_skip ?_ | with_reducible refine s_drop ?_ | with_reducible refine s_ret ?_ | with_reducible refine s_retN ?_ | with_reducible refine s_break ?_ | with_reducible refine s_cont ?_ | with_reducible refine s_asg ?_ | with_reducible refine s_par ?_ | with_reducible refine s_tgt ?_ | with_reducible refine s_for ?_ | with_reducible refine s_loop ?_ | with_reducible refine s_store ?_ | with_reducible refine s_asgsN ?_ | with_reducible refine f_d ?_ | with_reducible refine f_fr ?_ | with_reducible refine b_sl ?_ | with_reducible refine b_oNone ?_ | with_reducible refine b_oSome ?_ | with_reducible refine b_oV ?_ | with_reducible refine b_isN ?_ | with_reducible refine b_notN ?_ | with_reducible refine b_isnD ?_ | with_reducible refine b_notnD ?_ | with_reducible refine b_ienu ?_ | with_reducible refine b_iany ?_ | with_reducible refine b_seqT ?_ | with_reducible refine s_gsCons ?_ | with_reducible refine s_gsNil ?_ | with_reducible refine b_seqL ?_ | with_reducible refine b_seqF ?_ | with_reducible refine b_callK ?_ | with_reducible refine b_blK ?_ | with_reducible refine b_dtK ?_ | with_reducible refine b_intK ?_ | with_reducible refine b_eAndK ?_ | with_reducible refine b_eOrK ?_ | with_reducible refine b_eNotK ?_ | with_reducible refine b_chainK ?_ | with_reducible refine b_andW ?_ | with_reducible refine b_orW ?_ | with_reducible refine b_eIfW ?_ | with_reducible refine s_ifW ?_ | with_reducible refine b_lcK ?_ | with_reducible refine b_sortScK ?_ | with_reducible refine b_dcK ?_ | with_reducible refine b_dcStepK ?_ | ((with_reducible apply b_pb); exact (rfl : _ = [_, _])) | ((with_reducible apply s_seqN); exact (rfl : _ = [_, _])) | ((with_reducible apply b_var_d); rfl) | ((with_reducible apply b_var_o); rfl) | ((with_reducible apply b_fzv); rfl) | ((with_reducible apply b_fzvA); rfl) | ((with_reducible apply s_asgV); rfl) | ((with_reducible apply s_asgs); rfl) | ((with_reducible apply s_asgsD); rfl; first | assumption | exact Fr.un | exact Fr.dat | exact Fr.own) | ((with_reducible apply s_asgsO); rfl; first | assumption | exact Fr.un | exact Fr.dat | exact Fr.own) | ((with_reducible apply s_asgF); rfl; first | assumption | exact Fr.un | exact Fr.dat | exact Fr.own) | ((with_reducible apply s_asgFO); rfl; first | assumption | exact Fr.un | exact Fr.dat | exact Fr.own) | ((with_reducible apply s_storeV); rfl) | ((with_reducible apply s_storeK); rfl) | ((with_reducible apply b_methL); rfl) | ((with_reducible apply b_methV); rfl) | ((with_reducible apply b_mkTup); rfl; exact Nat.le_of_ble_eq_true rfl) | ((with_reducible apply b_mkLst); rfl; exact Nat.le_of_ble_eq_true rfl) | ((with_reducible apply f_sl); rfl) | ((with_reducible apply f_sld); rfl) | ((with_reducible apply x_mul); rfl; rfl; (first | omega | decide)) | ((with_reducible apply x_mod); rfl; rfl; decide) | ((with_reducible apply x_div); rfl; rfl; (first | omega | decide)) | ((with_reducible apply b_opV); rfl; rfl; rfl) | ((with_reducible apply b_unV); rfl; rfl) | ((with_reducible apply b_callV); rfl; rfl) | ((with_reducible apply b_callFP); rfl; rfl) | ((with_reducible apply b_rng1); (first | omega | decide)) | ((with_reducible apply b_rng2); (first | omega | decide)) | ((with_reducible apply s_tupG); rfl; rfl) | ((with_reducible apply b_fzvA); rfl) | ((with_reducible apply b_seqO); rfl) | ((with_reducible apply b_selK); rfl) | ((with_reducible apply way_t); rfl) | ((with_reducible apply way_f); rfl)))
/-! logs whose writes may be of one value -/
structure Log.Wk (l : Log) : Prop where
  ops : ∀ o ∈ l, o.Ok
  len : l.length ≤ 200
theorem Log.Wk.gd {l : Log} (h : l.Wk) : Gd 2 1001 (Log.d l) := (Gd.tup (k := 1) (n := 5) (ds := l.map Op.d) fun x hx => by
  obtain ⟨o, ho, rfl⟩ := List.mem_map.mp hx
  exact (h.ops o ho).op.gd).mono (by decide) (by have := h.len; rw [List.length_map]; omega)
end
end CM
set_option maxHeartbeats 4000000
namespace CM
open PySem PySem.Spec PyProof.Rows L2 DL
theorem seqS_tup {ρ : DEnv} {i : Nat} {ds : List D} {QI : Src → DEnv → Prop} {X : Ex → DEnv → Prop} (e : ρ[i]? = some (.d (.tup ds))) (q : QI (ds, none) ρ) : (seqSrc (.sl i) ρ).wp QI X := by
  unfold seqSrc
  dsimp only
  rw [e]
  exact q
section
local macro_rules
  | `(tactic| infer_instance) => `(tactic| (first | with_reducible refine b_op ?_ | with_reducible refine b_cb ?_ | with_reducible refine b_un ?_ | with_reducible refine b_call ?_ | with_reducible refine b_cons ?_ | with_reducible refine b_nil ?_ | with_reducible refine b_C ?_ | with_reducible refine b_tup ?_ | with_reducible refine b_lst ?_ | with_reducible refine b_fz ?_ | with_reducible refine b_nsl ?_ | with_reducible refine b_nslD ?_ | with_reducible refine b_nslF ?_ | with_reducible refine b_nslS ?_ | with_reducible refine b_tst ?_ | with_reducible refine b_bT ?_ | with_reducible refine b_not ?_ | with_reducible refine b_ok ?_ | with_reducible refine b_rng ?_ | with_reducible refine b_iseq ?_ | with_reducible refine b_yes ?_ | with_reducible refine s_skip ?_ | with_reducible refine s_drop ?_ | with_reducible refine s_ret ?_ | with_reducible refine s_retN ?_ | with_reducible refine s_break ?_ | with_reducible refine s_cont ?_ | with_reducible refine s_asg ?_ | with_reducible refine s_par ?_ | with_reducible refine s_tgt ?_ | with_reducible refine s_for ?_ | with_reducible refine s_loop ?_ | with_reducible refine s_store ?_ | with_reducible refine s_asgsN ?_ | with_reducible refine f_d ?_ | with_reducible refine f_fr ?_ | with_reducible refine b_sl ?_ | with_reducible refine b_oNone ?_ | with_reducible refine b_oSome ?_ | with_reducible refine b_oV ?_ | with_reducible refine b_isN ?_ | with_reducible refine b_notN ?_ | with_reducible refine b_isnD ?_ | with_reducible refine b_notnD ?_ | with_reducible refine b_ienu ?_ | with_reducible refine b_iany ?_ | with_reducible refine b_seqT ?_ | with_reducible refine s_gsCons ?_ | with_reducible refine s_gsNil ?_ | with_reducible refine b_seqL ?_ | with_reducible refine b_seqF ?_ | with_reducible refine b_callK ?_ | with_reducible refine b_blK ?_ | with_reducible refine b_dtK ?_ | with_reducible refine b_intK ?_ | with_reducible refine b_eAndK ?_ | with_reducible refine b_eOrK ?_ | with_reducible refine b_eNotK ?_ | with_reducible refine b_chainK ?_ | with_reducible refine b_andW ?_ | with_reducible refine b_orW ?_ | with_reducible refine b_eIfW ?_ | with_reducible refine s_ifW ?_ | with_reducible refine b_lcK ?_ | with_reducible refine b_sortScK ?_ | with_reducible refine b_dcK ?_ | with_reducible refine b_dcStepK ?_ | ((with_reducible apply b_pb); exact (rfl : _ = [_, _, _, _, _])) | ((with_reducible apply s_seqN); exact (rfl : _ = [_, _, _, _, _])) | ((with_reducible apply b_var_d); rfl) | ((with_reducible apply b_var_o); rfl) | ((with_reducible apply b_fzv); rfl) | ((with_reducible apply b_fzvA); rfl) | ((with_reducible apply s_asgV); rfl) | ((with_reducible apply s_asgs); rfl) | ((with_reducible apply s_asgsD); rfl; first | assumption | exact Fr.un | exact Fr.dat | exact Fr.own) | ((with_reducible apply s_asgsO); rfl; first | assumption | exact Fr.un | exact Fr.dat | exact Fr.own) | ((with_reducible apply s_asgF); rfl; first | assumption | exact Fr.un | exact Fr.dat | exact Fr.own) | ((with_reducible apply s_asgFO); rfl; first | assumption | exact Fr.un | exact Fr.dat | exact Fr.own) | ((with_reducible apply s_storeV); rfl) | ((with_reducible apply s_storeK); rfl) | ((with_reducible apply b_methL); rfl) | ((with_reducible apply b_methV); rfl) | ((with_reducible apply b_mkTup); rfl; exact Nat.le_of_ble_eq_true rfl) | ((with_reducible apply b_mkLst); rfl; exact Nat.le_of_ble_eq_true rfl) | ((with_reducible apply f_sl); rfl) | ((with_reducible apply f_sld); rfl) | ((with_reducible apply x_mul); rfl; rfl; (first | omega | decide)) | ((with_reducible apply x_mod); rfl; rfl; decide) | ((with_reducible apply x_div); rfl; rfl; (first | omega | decide)) | ((with_reducible apply b_opV); rfl; rfl; rfl) | ((with_reducible apply b_unV); rfl; rfl) | ((with_reducible apply b_callV); rfl; rfl) | ((with_reducible apply b_callFP); rfl; rfl) | ((with_reducible apply b_rng1); (first | omega | decide)) | ((with_reducible apply b_rng2); (first | omega | decide)) | ((with_reducible apply s_tupG); rfl; rfl) | ((with_reducible apply b_fzvA); rfl) | ((with_reducible apply b_seqO); rfl) | ((with_reducible apply b_selK); rfl) | ((with_reducible apply way_t); rfl) | ((with_reducible apply way_f); rfl)))
end
section
local macro_rules
  | `(tactic| infer_instance) => `(tactic| (first | with_reducible refine b_op ?_ | with_reducible refine b_cb ?_ | with_reducible refine b_un ?_ | with_reducible refine b_call ?_ | with_reducible refine b_cons ?_ | with_reducible refine b_nil ?_ | with_reducible refine b_C ?_ | with_reducible refine b_tup ?_ | with_reducible refine b_lst ?_ | with_reducible refine b_fz ?_ | with_reducible refine b_nsl ?_ | with_reducible refine b_nslD ?_ | with_reducible refine b_nslF ?_ | with_reducible refine b_nslS ?_ | with_reducible refine b_tst ?_ | with_reducible refine b_bT ?_ | with_reducible refine b_not ?_ | with_reducible refine b_ok ?_ | with_reducible refine b_rng ?_ | with_reducible refine b_iseq ?_ | with_reducible refine b_yes ?_ | with_reducible refine s_skip ?_ | with_reducible refine s_drop ?_ | with_reducible refine s_ret ?_ | with_reducible refine s_retN ?_ | with_reducible refine s_break ?_ | with_reducible refine s_cont ?_ | with_reducible refine s_asg ?_ | with_reducible refine s_par ?_ | with_reducible refine s_tgt ?_ | with_reducible refine s_for ?_ | with_reducible refine s_loop ?_ | with_reducible refine s_store ?_ | with_reducible refine s_asgsN ?_ | with_reducible refine f_d ?_ | with_reducible refine f_fr ?_ | with_reducible refine b_sl ?_ | with_reducible refine b_oNone ?_ | with_reducible refine b_oSome ?_ | with_reducible refine b_oV ?_ | with_reducible refine b_isN ?_ | with_reducible refine b_notN ?_ | with_reducible refine b_isnD ?_ | with_reducible refine b_notnD ?_ | with_reducible refine b_ienu ?_ | with_reducible refine b_iany ?_ | with_reducible refine b_seqT ?_ | with_reducible refine s_gsCons ?_ | with_reducible refine s_gsNil ?_ | with_reducible refine b_seqL ?_ | with_reducible refine b_seqF ?_ | with_reducible refine b_callK ?_ | with_reducible refine b_blK ?_ | with_reducible refine b_dtK ?_ | with_reducible refine b_intK ?_ | with_reducible refine b_eAndK ?_ | with_reducible refine b_eOrK ?_ | with_reducible refine b_eNotK ?_ | with_reducible refine b_chainK ?_ | with_reducible refine b_andW ?_ | with_reducible refine b_orW ?_ | with_reducible refine b_eIfW ?_ | with_reducible refine s_ifW ?_ | with_reducible refine b_lcK ?_ | with_reducible refine b_sortScK ?_ | with_reducible refine b_dcK ?_ | with_reducible refine b_dcStepK ?_ | ((with_reducible apply b_pb); exact (rfl : _ = [_, _, _, _, _, _, _, _])) | ((with_reducible apply s_seqN); exact (rfl : _ = [_, _, _, _, _, _, _, _])) | ((with_reducible apply b_var_d); rfl) | ((with_reducible apply b_var_o); rfl) | ((with_reducible apply b_fzv); rfl) | ((with_reducible apply b_fzvA); rfl) | ((with_reducible apply s_asgV); rfl) | ((with_reducible apply s_asgs); rfl) | ((with_reducible apply s_asgsD); rfl; first | assumption | exact Fr.un | exact Fr.dat | exact Fr.own) | ((with_reducible apply s_asgsO); rfl; first | assumption | exact Fr.un | exact Fr.dat | exact Fr.own) | ((with_reducible apply s_asgF); rfl; first | assumption | exact Fr.un | exact Fr.dat | exact Fr.own) | ((with_reducible apply s_asgFO); rfl; first | assumption | exact Fr.un | exact Fr.dat | exact Fr.own) | ((with_reducible apply s_storeV); rfl) | ((with_reducible apply s_storeK); rfl) | ((with_reducible apply b_methL); rfl) | ((with_reducible apply b_methV); rfl) | ((with_reducible apply b_mkTup); rfl; exact Nat.le_of_ble_eq_true rfl) | ((with_reducible apply b_mkLst); rfl; exact Nat.le_of_ble_eq_true rfl) | ((with_reducible apply f_sl); rfl) | ((with_reducible apply f_sld); rfl) | ((with_reducible apply x_mul); rfl; rfl; (first | omega | decide)) | ((with_reducible apply x_mod); rfl; rfl; decide) | ((with_reducible apply x_div); rfl; rfl; (first | omega | decide)) | ((with_reducible apply b_opV); rfl; rfl; rfl) | ((with_reducible apply b_unV); rfl; rfl) | ((with_reducible apply b_callV); rfl; rfl) | ((with_reducible apply b_callFP); rfl; rfl) | ((with_reducible apply b_rng1); (first | omega | decide)) | ((with_reducible apply b_rng2); (first | omega | decide)) | ((with_reducible apply s_tupG); rfl; rfl) | ((with_reducible apply b_fzvA); rfl) | ((with_reducible apply b_seqO); rfl) | ((with_reducible apply b_selK); rfl) | ((with_reducible apply way_t); rfl) | ((with_reducible apply way_f); rfl)))
end
section
local macro_rules
  | `(tactic| infer_instance) => `(tactic| (first | with_reducible refine b_op ?_ | with_reducible refine b_cb ?_ | with_reducible refine b_un ?_ | with_reducible refine b_call ?_ | with_reducible refine b_cons ?_ | with_reducible refine b_nil ?_ | with_reducible refine b_C ?_ | with_reducible refine b_tup ?_ | with_reducible refine b_lst ?_ | with_reducible refine b_fz ?_ | with_reducible refine b_nsl ?_ | with_reducible refine b_nslD ?_ | with_reducible refine b_nslF ?_ | with_reducible refine b_nslS ?_ | with_reducible refine b_tst ?_ | with_reducible refine b_bT ?_ | with_reducible refine b_not ?_ | with_reducible refine b_ok ?_ | with_reducible refine b_rng ?_ | with_reducible refine b_iseq ?_ | with_reducible refine b_yes ?_ | with_reducible refine s_skip ?_ | with_reducible refine s_drop ?_ | with_reducible refine s_ret ?_ | with_reducible refine s_retN ?_ | with_reducible refine s_break ?_ | with_reducible refine s_cont ?_ | with_reducible refine s_asg ?_ | with_reducible refine s_par ?_ | with_reducible refine s_tgt ?_ | with_reducible refine s_for ?_ | with_reducible refine s_loop ?_ | with_reducible refine s_store ?_ | with_reducible refine s_asgsN ?_ | with_reducible refine f_d ?_ | with_reducible refine f_fr ?_ | with_reducible refine b_sl ?_ | with_reducible refine b_oNone ?_ | with_reducible refine b_oSome ?_ | with_reducible refine b_oV ?_ | with_reducible refine b_isN ?_ | with_reducible refine b_notN ?_ | with_reducible refine b_isnD ?_ | with_reducible refine b_notnD ?_ | with_reducible refine b_ienu ?_ | with_reducible refine b_iany ?_ | with_reducible refine b_seqT ?_ | with_reducible refine s_gsCons ?_ | with_reducible refine s_gsNil ?_ | with_reducible refine b_seqL ?_ | with_reducible refine b_seqF ?_ | with_reducible refine b_callK ?_ | with_reducible refine b_blK ?_ | with_reducible refine b_dtK ?_ | with_reducible refine b_intK ?_ | with_reducible refine b_eAndK ?_ | with_reducible refine b_eOrK ?_ | with_reducible refine b_eNotK ?_ | with_reducible refine b_chainK ?_ | with_reducible refine b_andW ?_ | with_reducible refine b_orW ?_ | with_reducible refine b_eIfW ?_ | with_reducible refine s_ifW ?_ | with_reducible refine b_lcK ?_ | with_reducible refine b_sortScK ?_ | with_reducible refine b_dcK ?_ | with_reducible refine b_dcStepK ?_ | ((with_reducible apply b_pb); exact (rfl : _ = [_, _])) | ((with_reducible apply s_seqN); exact (rfl : _ = [_, _])) | ((with_reducible apply b_var_d); rfl) | ((with_reducible apply b_var_o); rfl) | ((with_reducible apply b_fzv); rfl) | ((with_reducible apply b_fzvA); rfl) | ((with_reducible apply s_asgV); rfl) | ((with_reducible apply s_asgs); rfl) | ((with_reducible apply s_asgsD); rfl; first | assumption | exact Fr.un | exact Fr.dat | exact Fr.own) | ((with_reducible apply s_asgsO); rfl; first | assumption | exact Fr.un | exact Fr.dat | exact Fr.own) | ((with_reducible apply s_asgF); rfl; first | assumption | exact Fr.un | exact Fr.dat | exact Fr.own) | ((with_reducible apply s_asgFO); rfl; first | assumption | exact Fr.un | exact Fr.dat | exact Fr.own) | ((with_reducible apply s_storeV); rfl) | ((with_reducible apply s_storeK); rfl) | ((with_reducible apply b_methL); rfl) | ((with_reducible apply b_methV); rfl) | ((with_reducible apply b_mkTup); rfl; exact Nat.le_of_ble_eq_true rfl) | ((with_reducible apply b_mkLst); rfl; exact Nat.le_of_ble_eq_true rfl) | ((with_reducible apply f_sl); rfl) | ((with_reducible apply f_sld); rfl) | ((with_reducible apply x_mul); rfl; rfl; (first | omega | decide)) | ((with_reducible apply x_mod); rfl; rfl; decide) | ((with_reducible apply x_div); rfl; rfl; (first | omega | decide)) | ((with_reducible apply b_opV); rfl; rfl; rfl) | ((with_reducible apply b_unV); rfl; rfl) | ((with_reducible apply b_callV); rfl; rfl) | ((with_reducible apply b_callFP); rfl; rfl) | ((with_reducible apply b_rng1); (first | omega | decide)) | ((with_reducible apply b_rng2); (first | omega | decide)) | ((with_reducible apply s_tupG); rfl; rfl) | ((with_reducible apply b_fzvA); rfl) | ((with_reducible apply b_seqO); rfl) | ((with_reducible apply b_selK); rfl) | ((with_reducible apply way_t); rfl) | ((with_reducible apply way_f); rfl)))
/-- the places at which a value stands -/
def Log.own (l : Log) (v : Int) : List Nat := (l.zipIdx.filter fun p => decide (p.1.v = v)).map (·.2)
theorem enumL_map {β : Type} {f : β → D} {bs : List β} : enumL (bs.map f) = bs.zipIdx.map fun p => .tup [.int (p.2 : Nat), f p.1] := by
  unfold enumL
  rw [List.zipIdx_map, List.map_map]
  rfl
theorem mem_zip {l : Log} {p : Op × Nat} (h : p ∈ l.zipIdx) : l[p.2]? = some p.1 := by
  have := List.mem_zipIdx_iff_getElem?.mp h
  exact this
def natsD (ns : List Nat) : List D := ns.map fun n => .int (n : Nat)
end
section
local macro_rules
  | `(tactic| infer_instance) => `(tactic| (first | with_reducible refine b_op ?_ | with_reducible refine b_cb ?_ | with_reducible refine b_un ?_ | with_reducible refine b_call ?_ | with_reducible refine b_cons ?_ | with_reducible refine b_nil ?_ | with_reducible refine b_C ?_ | with_reducible refine b_tup ?_ | with_reducible refine b_lst ?_ | with_reducible refine b_fz ?_ | with_reducible refine b_nsl ?_ | with_reducible refine b_nslD ?_ | with_reducible refine b_nslF ?_ | with_reducible refine b_nslS ?_ | with_reducible refine b_tst ?_ | with_reducible refine b_bT ?_ | with_reducible refine b_not ?_ | with_reducible refine b_ok ?_ | with_reducible refine b_rng ?_ | with_reducible refine b_iseq ?_ | with_reducible refine b_yes ?_ | with_reducible refine s_skip ?_ | with_reducible refine s_drop ?_ | with_reducible refine s_ret ?_ | with_reducible refine s_retN ?_ | with_reducible refine s_break ?_ | with_reducible refine s_cont ?_ | with_reducible refine s_asg ?_ | with_reducible refine s_par ?_ | with_reducible refine s_tgt ?_ | with_reducible refine s_for ?_ | with_reducible refine s_loop ?_ | with_reducible refine s_store ?_ | with_reducible refine s_asgsN ?_ | with_reducible refine f_d ?_ | with_reducible refine f_fr ?_ | with_reducible refine b_sl ?_ | with_reducible refine b_oNone ?_ | with_reducible refine b_oSome ?_ | with_reducible refine b_oV ?_ | with_reducible refine b_isN ?_ | with_reducible refine b_notN ?_ | with_reducible refine b_isnD ?_ | with_reducible refine b_notnD ?_ | with_reducible refine b_ienu ?_ | with_reducible refine b_iany ?_ | with_reducible refine b_seqT ?_ | with_reducible refine s_gsCons ?_ | with_reducible refine s_gsNil ?_ | with_reducible refine b_seqL ?_ | with_reducible refine b_seqF ?_ | with_reducible refine b_callK ?_ | with_reducible refine b_blK ?_ | with_reducible refine b_dtK ?_ | with_reducible refine b_intK ?_ | with_reducible refine b_eAndK ?_ | with_reducible refine b_eOrK ?_ | with_reducible refine b_eNotK ?_ | with_reducible refine b_chainK ?_ | with_reducible refine b_andW ?_ | with_reducible refine b_orW ?_ | with_reducible refine b_eIfW ?_ | with_reducible refine s_ifW ?_ | with_reducible refine b_lcK ?_ | with_reducible refine b_sortScK ?_ | with_reducible refine b_dcK ?_ | with_reducible refine b_dcStepK ?_ | ((with_reducible apply b_pb); exact (rfl : _ = [_, _, _, _])) | ((with_reducible apply s_seqN); exact (rfl : _ = [_, _, _, _])) | ((with_reducible apply b_var_d); rfl) | ((with_reducible apply b_var_o); rfl) | ((with_reducible apply b_fzv); rfl) | ((with_reducible apply b_fzvA); rfl) | ((with_reducible apply s_asgV); rfl) | ((with_reducible apply s_asgs); rfl) | ((with_reducible apply s_asgsD); rfl; first | assumption | exact Fr.un | exact Fr.dat | exact Fr.own) | ((with_reducible apply s_asgsO); rfl; first | assumption | exact Fr.un | exact Fr.dat | exact Fr.own) | ((with_reducible apply s_asgF); rfl; first | assumption | exact Fr.un | exact Fr.dat | exact Fr.own) | ((with_reducible apply s_asgFO); rfl; first | assumption | exact Fr.un | exact Fr.dat | exact Fr.own) | ((with_reducible apply s_storeV); rfl) | ((with_reducible apply s_storeK); rfl) | ((with_reducible apply b_methL); rfl) | ((with_reducible apply b_methV); rfl) | ((with_reducible apply b_mkTup); rfl; exact Nat.le_of_ble_eq_true rfl) | ((with_reducible apply b_mkLst); rfl; exact Nat.le_of_ble_eq_true rfl) | ((with_reducible apply f_sl); rfl) | ((with_reducible apply f_sld); rfl) | ((with_reducible apply x_mul); rfl; rfl; (first | omega | decide)) | ((with_reducible apply x_mod); rfl; rfl; decide) | ((with_reducible apply x_div); rfl; rfl; (first | omega | decide)) | ((with_reducible apply b_opV); rfl; rfl; rfl) | ((with_reducible apply b_unV); rfl; rfl) | ((with_reducible apply b_callV); rfl; rfl) | ((with_reducible apply b_callFP); rfl; rfl) | ((with_reducible apply b_rng1); (first | omega | decide)) | ((with_reducible apply b_rng2); (first | omega | decide)) | ((with_reducible apply s_tupG); rfl; rfl) | ((with_reducible apply b_fzvA); rfl) | ((with_reducible apply b_seqO); rfl) | ((with_reducible apply b_selK); rfl) | ((with_reducible apply way_t); rfl) | ((with_reducible apply way_f); rfl)))
theorem natsD_len {ns : List Nat} : (natsD ns).length = ns.length := by unfold natsD; rw [List.length_map]
theorem x_idxLog {ρ : DEnv} {x y : Val} {Q : Val → DEnv → Prop} {X : Ex → DEnv → Prop} {l : Log} {i : Nat} {o : Op} (h1 : x.peek ρ = some l.d) (h2 : y.peek ρ = some (.int (i : Nat))) (e : l[i]? = some o) (q : Q (.d o.d) ρ) : (opV idxD x y ρ).wp Q X := by
  refine x_idxT (xs := l.map Op.d) h1 h2 ?_ q
  have hl := (List.getElem?_eq_some_iff.mp e).1
  unfold atI ixN
  rw [if_pos (by omega), if_pos (by rw [List.length_map]; omega)]
  show (l.map Op.d)[((i : Nat) : Int).toNat]? = _
  rw [Int.toNat_natCast, List.getElem?_map, e]
  rfl
theorem x_neNilT {ρ : DEnv} {x y : Val} {Q : Val → DEnv → Prop} {X : Ex → DEnv → Prop} {ds : List D} {k n : Nat} (h1 : x.peek ρ = some (.tup ds)) (h2 : y.peek ρ = some (.tup [])) (hg : Gd k n (.tup ds)) (hk : k ≤ 60) (q : Q (.d (.bl !ds.isEmpty)) ρ) : (opV neV' x y ρ).wp Q X := by
  refine x_ne h1 h2 (eqD_good hg.good rfl (Nat.le_trans hg.dep (by omega)) (by decide)) ?_
  rw [eqG_nilT (by simpa [D.good] using hg.good)]
  exact q
end
section
local macro_rules
  | `(tactic| infer_instance) => `(tactic| (first | with_reducible refine b_op ?_ | with_reducible refine b_cb ?_ | with_reducible refine b_un ?_ | with_reducible refine b_call ?_ | with_reducible refine b_cons ?_ | with_reducible refine b_nil ?_ | with_reducible refine b_C ?_ | with_reducible refine b_tup ?_ | with_reducible refine b_lst ?_ | with_reducible refine b_fz ?_ | with_reducible refine b_nsl ?_ | with_reducible refine b_nslD ?_ | with_reducible refine b_nslF ?_ | with_reducible refine b_nslS ?_ | with_reducible refine b_tst ?_ | with_reducible refine b_bT ?_ | with_reducible refine b_not ?_ | with_reducible refine b_ok ?_ | with_reducible refine b_rng ?_ | with_reducible refine b_iseq ?_ | with_reducible refine b_yes ?_ | with_reducible refine s_skip ?_ | with_reducible refine s_drop ?_ | with_reducible refine s_ret ?_ | with_reducible refine s_retN ?_ | with_reducible refine s_break ?_ | with_reducible refine s_cont ?_ | with_reducible refine s_asg ?_ | with_reducible refine s_par ?_ | with_reducible refine s_tgt ?_ | with_reducible refine s_for ?_ | with_reducible refine s_loop ?_ | with_reducible refine s_store ?_ | with_reducible refine s_asgsN ?_ | with_reducible refine f_d ?_ | with_reducible refine f_fr ?_ | with_reducible refine b_sl ?_ | with_reducible refine b_oNone ?_ | with_reducible refine b_oSome ?_ | with_reducible refine b_oV ?_ | with_reducible refine b_isN ?_ | with_reducible refine b_notN ?_ | with_reducible refine b_isnD ?_ | with_reducible refine b_notnD ?_ | with_reducible refine b_ienu ?_ | with_reducible refine b_iany ?_ | with_reducible refine b_seqT ?_ | with_reducible refine s_gsCons ?_ | with_reducible refine s_gsNil ?_ | with_reducible refine b_seqL ?_ | with_reducible refine b_seqF ?_ | with_reducible refine b_callK ?_ | with_reducible refine b_blK ?_ | with_reducible refine b_dtK ?_ | with_reducible refine b_intK ?_ | with_reducible refine b_eAndK ?_ | with_reducible refine b_eOrK ?_ | with_reducible refine b_eNotK ?_ | with_reducible refine b_chainK ?_ | with_reducible refine b_andW ?_ | with_reducible refine b_orW ?_ | with_reducible refine b_eIfW ?_ | with_reducible refine s_ifW ?_ | with_reducible refine b_lcK ?_ | with_reducible refine b_sortScK ?_ | with_reducible refine b_dcK ?_ | with_reducible refine b_dcStepK ?_ | ((with_reducible apply b_pb); exact (rfl : _ = [_, _])) | ((with_reducible apply s_seqN); exact (rfl : _ = [_, _])) | ((with_reducible apply b_var_d); rfl) | ((with_reducible apply b_var_o); rfl) | ((with_reducible apply b_fzv); rfl) | ((with_reducible apply b_fzvA); rfl) | ((with_reducible apply s_asgV); rfl) | ((with_reducible apply s_asgs); rfl) | ((with_reducible apply s_asgsD); rfl; first | assumption | exact Fr.un | exact Fr.dat | exact Fr.own) | ((with_reducible apply s_asgsO); rfl; first | assumption | exact Fr.un | exact Fr.dat | exact Fr.own) | ((with_reducible apply s_asgF); rfl; first | assumption | exact Fr.un | exact Fr.dat | exact Fr.own) | ((with_reducible apply s_asgFO); rfl; first | assumption | exact Fr.un | exact Fr.dat | exact Fr.own) | ((with_reducible apply s_storeV); rfl) | ((with_reducible apply s_storeK); rfl) | ((with_reducible apply b_methL); rfl) | ((with_reducible apply b_methV); rfl) | ((with_reducible apply b_mkTup); rfl; exact Nat.le_of_ble_eq_true rfl) | ((with_reducible apply b_mkLst); rfl; exact Nat.le_of_ble_eq_true rfl) | ((with_reducible apply f_sl); rfl) | ((with_reducible apply f_sld); rfl) | ((with_reducible apply x_mul); rfl; rfl; (first | omega | decide)) | ((with_reducible apply x_mod); rfl; rfl; decide) | ((with_reducible apply x_div); rfl; rfl; (first | omega | decide)) | ((with_reducible apply b_opV); rfl; rfl; rfl) | ((with_reducible apply b_unV); rfl; rfl) | ((with_reducible apply b_callV); rfl; rfl) | ((with_reducible apply b_callFP); rfl; rfl) | ((with_reducible apply b_rng1); (first | omega | decide)) | ((with_reducible apply b_rng2); (first | omega | decide)) | ((with_reducible apply s_tupG); rfl; rfl) | ((with_reducible apply b_fzvA); rfl) | ((with_reducible apply b_seqO); rfl) | ((with_reducible apply b_selK); rfl) | ((with_reducible apply way_t); rfl) | ((with_reducible apply way_f); rfl)))
/-- one value is before another one -/
def Log.bef (l : Log) (t a b : Int) : Bool := decide (a ≠ b) && decide (l.fe a + t < l.lb b)
end
section
local macro_rules
  | `(tactic| infer_instance) => `(tactic| (first | with_reducible refine b_op ?_ | with_reducible refine b_cb ?_ | with_reducible refine b_un ?_ | with_reducible refine b_call ?_ | with_reducible refine b_cons ?_ | with_reducible refine b_nil ?_ | with_reducible refine b_C ?_ | with_reducible refine b_tup ?_ | with_reducible refine b_lst ?_ | with_reducible refine b_fz ?_ | with_reducible refine b_nsl ?_ | with_reducible refine b_nslD ?_ | with_reducible refine b_nslF ?_ | with_reducible refine b_nslS ?_ | with_reducible refine b_tst ?_ | with_reducible refine b_bT ?_ | with_reducible refine b_not ?_ | with_reducible refine b_ok ?_ | with_reducible refine b_rng ?_ | with_reducible refine b_iseq ?_ | with_reducible refine b_yes ?_ | with_reducible refine s_skip ?_ | with_reducible refine s_drop ?_ | with_reducible refine s_ret ?_ | with_reducible refine s_retN ?_ | with_reducible refine s_break ?_ | with_reducible refine s_cont ?_ | with_reducible refine s_asg ?_ | with_reducible refine s_par ?_ | with_reducible refine s_tgt ?_ | with_reducible refine s_for ?_ | with_reducible refine s_loop ?_ | with_reducible refine s_store ?_ | with_reducible refine s_asgsN ?_ | with_reducible refine f_d ?_ | with_reducible refine f_fr ?_ | with_reducible refine b_sl ?_ | with_reducible refine b_oNone ?_ | with_reducible refine b_oSome ?_ | with_reducible refine b_oV ?_ | with_reducible refine b_isN ?_ | with_reducible refine b_notN ?_ | with_reducible refine b_isnD ?_ | with_reducible refine b_notnD ?_ | with_reducible refine b_ienu ?_ | with_reducible refine b_iany ?_ | with_reducible refine b_seqT ?_ | with_reducible refine s_gsCons ?_ | with_reducible refine s_gsNil ?_ | with_reducible refine b_seqL ?_ | with_reducible refine b_seqF ?_ | with_reducible refine b_callK ?_ | with_reducible refine b_blK ?_ | with_reducible refine b_dtK ?_ | with_reducible refine b_intK ?_ | with_reducible refine b_eAndK ?_ | with_reducible refine b_eOrK ?_ | with_reducible refine b_eNotK ?_ | with_reducible refine b_chainK ?_ | with_reducible refine b_andW ?_ | with_reducible refine b_orW ?_ | with_reducible refine b_eIfW ?_ | with_reducible refine s_ifW ?_ | with_reducible refine b_lcK ?_ | with_reducible refine b_sortScK ?_ | with_reducible refine b_dcK ?_ | with_reducible refine b_dcStepK ?_ | ((with_reducible apply b_pb); exact (rfl : _ = [_, _, _, _])) | ((with_reducible apply s_seqN); exact (rfl : _ = [_, _, _, _])) | ((with_reducible apply b_var_d); rfl) | ((with_reducible apply b_var_o); rfl) | ((with_reducible apply b_fzv); rfl) | ((with_reducible apply b_fzvA); rfl) | ((with_reducible apply s_asgV); rfl) | ((with_reducible apply s_asgs); rfl) | ((with_reducible apply s_asgsD); rfl; first | assumption | exact Fr.un | exact Fr.dat | exact Fr.own) | ((with_reducible apply s_asgsO); rfl; first | assumption | exact Fr.un | exact Fr.dat | exact Fr.own) | ((with_reducible apply s_asgF); rfl; first | assumption | exact Fr.un | exact Fr.dat | exact Fr.own) | ((with_reducible apply s_asgFO); rfl; first | assumption | exact Fr.un | exact Fr.dat | exact Fr.own) | ((with_reducible apply s_storeV); rfl) | ((with_reducible apply s_storeK); rfl) | ((with_reducible apply b_methL); rfl) | ((with_reducible apply b_methV); rfl) | ((with_reducible apply b_mkTup); rfl; exact Nat.le_of_ble_eq_true rfl) | ((with_reducible apply b_mkLst); rfl; exact Nat.le_of_ble_eq_true rfl) | ((with_reducible apply f_sl); rfl) | ((with_reducible apply f_sld); rfl) | ((with_reducible apply x_mul); rfl; rfl; (first | omega | decide)) | ((with_reducible apply x_mod); rfl; rfl; decide) | ((with_reducible apply x_div); rfl; rfl; (first | omega | decide)) | ((with_reducible apply b_opV); rfl; rfl; rfl) | ((with_reducible apply b_unV); rfl; rfl) | ((with_reducible apply b_callV); rfl; rfl) | ((with_reducible apply b_callFP); rfl; rfl) | ((with_reducible apply b_rng1); (first | omega | decide)) | ((with_reducible apply b_rng2); (first | omega | decide)) | ((with_reducible apply s_tupG); rfl; rfl) | ((with_reducible apply b_fzvA); rfl) | ((with_reducible apply b_seqO); rfl) | ((with_reducible apply b_selK); rfl) | ((with_reducible apply way_t); rfl) | ((with_reducible apply way_f); rfl)))
end
end CM
set_option maxHeartbeats 1000000
namespace CM
open PySem PySem.Spec PyProof.Rows L2 DL
section
variable {ρ ρ' : DEnv} {Q : Val → DEnv → Prop} {QI : Src → DEnv → Prop} {X : Ex → DEnv → Prop} {xs : List Val} {x y : Val} {l : Log} {i : Nat}
theorem b_seqLog (q : QI (l.map Op.d, none) ρ) : (seqSrc (.d l.d) ρ).wp QI X := q
instance st_b_seqLog : St ((seqSrc (.d l.d) ρ).wp QI X) (QI (l.map Op.d, none) ρ) := ⟨b_seqLog⟩
theorem b_seqLogS (e : ρ[i]? = some (.d l.d)) (q : QI (l.map Op.d, none) ρ) : (seqSrc (.sl i) ρ).wp QI X := seqS_tup e q
theorem x_lenLog (h1 : peekL ρ xs = some [l.d]) (q : Q (.d (.int (l.length : Nat))) ρ) : (callV lenD xs ρ).wp Q X := by
  refine b_callV h1 ?_ q
  show some (Val.d (.int ((l.map Op.d).length : Nat))) = _
  rw [List.length_map]
/-- the operation at an index -/
def IdxK (l : Log) (i : Nat) (Q : Val → DEnv → Prop) (ρ : DEnv) : Prop := ∃ o, l[i]? = some o ∧ Q (.d o.d) ρ
theorem b_idxK {o : Op} (e : l[i]? = some o) (q : Q (.d o.d) ρ) : IdxK l i Q ρ := ⟨o, e, q⟩
instance st_idxLog : St ((opV idxD (.d l.d) (.d (.int (i : Nat))) ρ).wp Q X) (IdxK l i Q ρ) := ⟨fun ⟨o, e, q⟩ => x_idxLog rfl rfl e q⟩
theorem cut_tail {α : Type} {a : α} {ds : List α} : DL.cutD (a :: ds) (some 1) none = ds := by
  unfold DL.cutD HT.sIx
  simp
theorem cut_ini2 {α : Type} {a b : α} {ds : List α} : DL.cutD (a :: b :: ds) none (some 2) = [a, b] := by
  unfold DL.cutD HT.sIx
  simp
theorem x_tailT {a : D} {ds : List D} (h1 : x.peek ρ = some (.tup (a :: ds))) (q : Q (.d (.tup ds)) ρ) : (unV (fun d => sliceD d (some 1) none) x ρ).wp Q X :=
  b_unV h1 (show some (Val.d (.tup (DL.cutD (a :: ds) (some 1) none))) = _ by rw [cut_tail]) q
theorem x_tailL {a : D} {ds : List D} (h1 : x.peek ρ = some (.lst (a :: ds))) (q : Q (.fr (.lst ds)) ρ) : (unV (fun d => sliceD d (some 1) none) x ρ).wp Q X :=
  b_unV h1 (show some (Val.fr (.lst (DL.cutD (a :: ds) (some 1) none))) = _ by rw [cut_tail]) q
theorem x_ini2 {a b : D} {ds : List D} (h1 : x.peek ρ = some (.tup (a :: b :: ds))) (q : Q (.d (.tup [a, b])) ρ) : (unV (fun d => sliceD d none (some 2)) x ρ).wp Q X :=
  b_unV h1 (show some (Val.d (.tup (DL.cutD (a :: b :: ds) none (some 2)))) = _ by rw [cut_ini2]) q
theorem b_anyDI {ks : List Int} {vs : List D} (e : x.peek ρ = some (.dic (ikeys ks) vs)) (e2 : x.fzA ρ = .ok (.d (.dic (ikeys ks) vs)) ρ') (q : QI (ks.map D.int, none) ρ') : (anySrc x ρ).wp QI X := b_anyDic e e2 (by rw [keys_ints]; exact q)
theorem blsD_map {β : Type} {p : β → Bool} {bs : List β} : blsD (bs.map fun b => D.bl (p b)) = some (bs.map p) := by
  rw [show (bs.map fun b => D.bl (p b)) = (bs.map p).map D.bl from by rw [List.map_map]; rfl]
  exact bls_map _
theorem x_allM {β : Type} {p : β → Bool} {bs : List β} (h1 : peekL ρ xs = some [.lst (bs.map fun b => D.bl (p b))]) (q : Q (.d (.bl (bs.all p))) ρ) : (callV allD xs ρ).wp Q X := by
  refine b_callV h1 ?_ q
  show (blsD _).map _ = _
  rw [blsD_map]
  show some (Val.d (.bl ((bs.map p).all id))) = _
  rw [List.all_map]; rfl
theorem x_anyM {β : Type} {p : β → Bool} {bs : List β} (h1 : peekL ρ xs = some [.lst (bs.map fun b => D.bl (p b))]) (q : Q (.d (.bl (bs.any p))) ρ) : (callV anyD xs ρ).wp Q X := by
  refine b_callV h1 ?_ q
  show (blsD _).map _ = _
  rw [blsD_map]
  show some (Val.d (.bl ((bs.map p).any id))) = _
  rw [List.any_map]; rfl
theorem intsD_mapf {β : Type} {p : β → Int} {bs : List β} : intsD (bs.map fun b => D.int (p b)) = some (bs.map p) := by
  rw [show (bs.map fun b => D.int (p b)) = (bs.map p).map D.int from by rw [List.map_map]; rfl]
  exact intsD_map _
theorem x_sumM {β : Type} {p : β → Int} {bs : List β} (h1 : peekL ρ xs = some [.lst (bs.map fun b => D.int (p b))]) (q : Q (.d (.int (bs.map p).sum)) ρ) : (callV sumD xs ρ).wp Q X := by
  refine b_callV h1 ?_ q
  show (intsD _).map _ = _
  rw [intsD_mapf]; rfl
theorem x_lenM {β : Type} {f : β → D} {bs : List β} (h1 : peekL ρ xs = some [.lst (bs.map f)]) (q : Q (.d (.int (bs.length : Nat))) ρ) : (callV lenD xs ρ).wp Q X := by
  refine b_callV h1 ?_ q
  show some (Val.d (.int ((bs.map f).length : Nat))) = _
  rw [List.length_map]
theorem x_lenMT {β : Type} {f : β → D} {bs : List β} (h1 : peekL ρ xs = some [.tup (bs.map f)]) (q : Q (.d (.int (bs.length : Nat))) ρ) : (callV lenD xs ρ).wp Q X := by
  refine b_callV h1 ?_ q
  show some (Val.d (.int ((bs.map f).length : Nat))) = _
  rw [List.length_map]
theorem k_write {o : Op} : decide (o.k = ("write" : Str)) = o.w := by
  obtain ⟨w, v, b, e⟩ := o; cases w
  · show decide (("read" : Str) = "write") = false; decide
  · show decide (("write" : Str) = "write") = true; decide
theorem k_read {o : Op} : decide (o.k = ("read" : Str)) = !o.w := by
  obtain ⟨w, v, b, e⟩ := o; cases w
  · show decide (("read" : Str) = "read") = !false; decide
  · show decide (("write" : Str) = "read") = !true; decide
theorem x_eqKw {o : Op} (h1 : x.peek ρ = some (.str o.k)) (h2 : y.peek ρ = some (.str "write")) (q : Q (.d (.bl o.w)) ρ) : (opV eqV' x y ρ).wp Q X := x_eq (k := decide (o.k = ("write" : Str))) h1 h2 rfl (by rw [k_write]; exact q)
theorem x_eqKr {o : Op} (h1 : x.peek ρ = some (.str o.k)) (h2 : y.peek ρ = some (.str "read")) (q : Q (.d (.bl !o.w)) ρ) : (opV eqV' x y ρ).wp Q X := x_eq (k := decide (o.k = ("read" : Str))) h1 h2 rfl (by rw [k_read]; exact q)
theorem x_neKw {o : Op} (h1 : x.peek ρ = some (.str o.k)) (h2 : y.peek ρ = some (.str "write")) (q : Q (.d (.bl !o.w)) ρ) : (opV neV' x y ρ).wp Q X := x_ne (k := decide (o.k = ("write" : Str))) h1 h2 rfl (by rw [k_write]; exact q)
theorem x_neKr {o : Op} (h1 : x.peek ρ = some (.str o.k)) (h2 : y.peek ρ = some (.str "read")) (q : Q (.d (.bl o.w)) ρ) : (opV neV' x y ρ).wp Q X := x_ne (k := decide (o.k = ("read" : Str))) h1 h2 rfl (by rw [k_read, Bool.not_not]; exact q)
instance st_x_eqKw {o : Op} : St ((opV eqV' (.d (.str o.k)) (.d (.str ("write" : Str))) ρ).wp Q X) (Q (.d (.bl (o.w))) ρ) := ⟨fun q => x_eqKw rfl rfl q⟩
instance st_x_eqKr {o : Op} : St ((opV eqV' (.d (.str o.k)) (.d (.str ("read" : Str))) ρ).wp Q X) (Q (.d (.bl (!o.w))) ρ) := ⟨fun q => x_eqKr rfl rfl q⟩
instance st_x_neKw {o : Op} : St ((opV neV' (.d (.str o.k)) (.d (.str ("write" : Str))) ρ).wp Q X) (Q (.d (.bl (!o.w))) ρ) := ⟨fun q => x_neKw rfl rfl q⟩
instance st_x_neKr {o : Op} : St ((opV neV' (.d (.str o.k)) (.d (.str ("read" : Str))) ρ).wp Q X) (Q (.d (.bl (o.w))) ρ) := ⟨fun q => x_neKr rfl rfl q⟩
def lenSetV (x : Val) : EM := unV (fun x => (setI x).map fun ns => .d (.int ((sortSetI ns).length : Nat))) x
def sortSetV (x : Val) : EM := unV (fun x => (setI x).map fun ns => .fr (.lst ((sortSetI ns).map D.int))) x
theorem b_lenSet {f : EM} (q : (f ρ).wp (fun x ρ1 => (lenSetV x ρ1).wp Q X) X) : (eLenSet f ρ).wp Q X := b_un q
theorem b_sortSet {f : EM} (q : (f ρ).wp (fun x ρ1 => (sortSetV x ρ1).wp Q X) X) : (eSortSet f ρ).wp Q X := b_un q
instance st_b_lenSet {f : EM} : St ((eLenSet f ρ).wp Q X) ((f ρ).wp (fun x ρ1 => (lenSetV x ρ1).wp Q X) X) := ⟨b_lenSet⟩
instance st_b_sortSet {f : EM} : St ((eSortSet f ρ).wp Q X) ((f ρ).wp (fun x ρ1 => (sortSetV x ρ1).wp Q X) X) := ⟨b_sortSet⟩
theorem setI_map {β : Type} {p : β → Int} {bs : List β} (hl : bs.length < 4000) : setI (.lst (bs.map fun b => D.int (p b))) = some (bs.map p) := by
  unfold setI
  dsimp only
  rw [intsD_mapf]
  exact if_pos (by rw [List.length_map]; exact hl)
theorem x_lenSetM {β : Type} {p : β → Int} {bs : List β} (h1 : x.peek ρ = some (.lst (bs.map fun b => D.int (p b)))) (hl : bs.length < 4000) (q : Q (.d (.int ((sortSetI (bs.map p)).length : Nat))) ρ) : (lenSetV x ρ).wp Q X :=
  b_unV h1 (by rw [setI_map hl]; rfl) q
end
end CM
local macro_rules
  | `(tactic| case orE => $s:tacticSeq) => do
    let a := s.raw[0][0].getSepArgs
    if a.size ≤ 1 then Lean.Macro.throwUnsupported
    let b : Array (Lean.TSyntax `tactic) := (a.extract ((a.size + 1) / 2) a.size).map (fun x => ⟨x⟩)
    if b.size = 1 then return b[0]! else `(tactic| case orE => $[$b]*)
local macro_rules
  | `(tactic| case orE => $s:tacticSeq) => do
    let a := s.raw[0][0].getSepArgs
    let b : Array (Lean.TSyntax `tactic) := (a.extract 0 ((a.size + 1) / 2)).map (fun x => ⟨x⟩)
    if b.size = 1 then return b[0]! else `(tactic| case orE => $[$b]*)
local macro_rules
  | `(tactic| fail $n:str) => do
    unless n.getString.startsWith "WU" do Lean.Macro.throwUnsupported
    let w := (((n.getString.splitOn "WU").getD 1 "").splitOn "/").map String.toNat!
    match w with
    | [lo, hi, k] => if hi ≤ lo + 1 then Lean.Macro.throwUnsupported else `(tactic| fail $(Lean.quote s!"WU{(lo + hi + 1) / 2}/{hi}/{k}"))
    | _ => Lean.Macro.throwUnsupported
local macro_rules
  | `(tactic| fail $n:str) => do
    unless n.getString.startsWith "WU" do Lean.Macro.throwUnsupported
    let w := (((n.getString.splitOn "WU").getD 1 "").splitOn "/").map String.toNat!
    match w with
    | [k] => `(tactic| fail $(Lean.quote s!"WU0/20/{k}"))
    | [lo, hi, k] =>
      let mk := fun (a b : Nat) => (Lean.quote s!"WU{a}/{b}/{k}" : Lean.TSyntax `str)
      if lo + 1 < hi then `(tactic| fail $(mk lo ((lo + hi + 1) / 2))) else
      let us : Array (Lean.TSyntax `term) := Array.replicate (if lo ∈ [3, 58, 73, 83] then k else 0) (← `(_))
      match lo with
      | 0 => `(tactic| (with_reducible refine DL.St.ap ?_))
      | 1 => `(tactic| ((with_reducible change DL.R.wp _ _ _); fail $(mk 20 73)))
      | 2 => `(tactic| ((with_reducible change DL.RS.wp _ _); fail $(mk 73 84)))
      | 3 => `(tactic| ((with_reducible refine DL.b_pb (by with_unfolding_all exact (rfl : _ = [$us,*])) ?_)))
      | 4 => `(tactic| ((with_reducible refine DL.b_isDK (by with_unfolding_all exact rfl) ?_)))
      | 5 => `(tactic| ((with_reducible refine DL.s_storeK (by with_unfolding_all exact rfl) ?_)))
      | 6 => `(tactic| ((with_reducible refine DL.b_selK (by with_unfolding_all exact rfl) ?_)))
      | 7 => `(tactic| (with_reducible refine CM.way_eq ?_))
      | 8 => `(tactic| (with_reducible refine CM.way_eq' ?_))
      | 9 => `(tactic| ((with_reducible refine DL.way_t (by decide +kernel) ?_)))
      | 10 => `(tactic| ((with_reducible refine DL.way_f (by decide +kernel) ?_)))
      | 11 => `(tactic| ((with_reducible refine DL.way_t (by (first | with_unfolding_all exact rfl | assumption | (simp only [decide_eq_true_eq, decide_eq_false_iff_not, Bool.not_eq_true', Bool.not_eq_false', Bool.and_eq_true, Bool.or_eq_true]; first | assumption | omega))) ?_)))
      | 12 => `(tactic| ((with_reducible refine DL.way_f (by (first | with_unfolding_all exact rfl | assumption | (simp only [decide_eq_true_eq, decide_eq_false_iff_not, Bool.not_eq_true', Bool.not_eq_false', Bool.and_eq_true, Bool.or_eq_true]; first | assumption | omega))) ?_)))
      | 13 => `(tactic| ((with_reducible refine DL.b_compK (by with_unfolding_all exact rfl) (by (first | ((try simp only [List.length_map, List.length_range, List.length_zipIdx, DL.enumL_len, List.length_cons, List.length_nil, List.length_append, List.length_replicate, List.length_take, List.length_drop, CM.natsD_len]); omega) | decide)) ?_)))
      | 14 => `(tactic| (with_reducible refine DL.b_itV (by with_unfolding_all exact rfl)))
      | 15 => `(tactic| (with_reducible refine DL.b_diV ?_))
      | 16 => `(tactic| ((with_reducible refine DL.b_diK (by with_unfolding_all exact rfl) (fun hk => ?_))))
      | 17 => `(tactic| ((with_reducible refine DL.b_itK (by with_unfolding_all exact rfl) (fun hk => ?_))))
      | 18 => `(tactic| ((with_reducible change DL.RF.wp _ _ _); fail $(mk 84 86)))
      | 19 => `(tactic| ((with_reducible change DL.GRS.wp _ _); fail $(mk 86 87)))
      | 20 => `(tactic| ((with_reducible refine DL.b_var_d (by with_unfolding_all exact rfl) ?_)))
      | 21 => `(tactic| ((with_reducible refine DL.b_var_o (by with_unfolding_all exact rfl) ?_)))
      | 22 => `(tactic| ((with_reducible refine CM.b_seqLogS (by with_unfolding_all exact rfl) ?_)))
      | 23 => `(tactic| ((with_reducible refine CM.x_lenLog (by with_unfolding_all exact rfl) ?_)))
      | 24 => `(tactic| ((with_reducible refine CM.x_tailT (by with_unfolding_all exact rfl) ?_)))
      | 25 => `(tactic| ((with_reducible refine CM.x_tailL (by with_unfolding_all exact rfl) ?_)))
      | 26 => `(tactic| ((with_reducible refine CM.x_ini2 (by with_unfolding_all exact rfl) ?_)))
      | 27 => `(tactic| ((with_reducible refine CM.x_allM (by with_unfolding_all exact rfl) ?_)))
      | 28 => `(tactic| ((with_reducible refine CM.x_anyM (by with_unfolding_all exact rfl) ?_)))
      | 29 => `(tactic| ((with_reducible refine CM.x_sumM (by with_unfolding_all exact rfl) ?_)))
      | 30 => `(tactic| ((with_reducible refine CM.x_lenM (by with_unfolding_all exact rfl) ?_)))
      | 31 => `(tactic| ((with_reducible refine CM.x_lenMT (by with_unfolding_all exact rfl) ?_)))
      | 32 => `(tactic| ((with_reducible refine DL.x_inD (by with_unfolding_all exact rfl) (by with_unfolding_all exact rfl) ?_)))
      | 33 => `(tactic| ((with_reducible refine DL.x_ninD (by with_unfolding_all exact rfl) (by with_unfolding_all exact rfl) ?_)))
      | 34 => `(tactic| ((with_reducible refine DL.x_inI (by with_unfolding_all exact rfl) (by with_unfolding_all exact rfl) ?_)))
      | 35 => `(tactic| ((with_reducible refine DL.x_ninI (by with_unfolding_all exact rfl) (by with_unfolding_all exact rfl) ?_)))
      | 36 => `(tactic| ((with_reducible refine DL.x_inIT (by with_unfolding_all exact rfl) (by with_unfolding_all exact rfl) ?_)))
      | 37 => `(tactic| ((with_reducible refine DL.x_ninIT (by with_unfolding_all exact rfl) (by with_unfolding_all exact rfl) ?_)))
      | 38 => `(tactic| ((with_reducible refine DL.x_getV (by with_unfolding_all exact rfl) (by with_unfolding_all exact rfl) ?_)))
      | 39 => `(tactic| ((with_reducible refine CM.b_anyDI (by with_unfolding_all exact rfl) (by with_unfolding_all exact rfl) ?_)))
      | 40 => `(tactic| ((with_reducible refine DL.b_anySeq (by with_unfolding_all exact rfl) ?_)))
      | 41 => `(tactic| ((with_reducible refine DL.b_igenV (by with_unfolding_all exact rfl) ?_)))
      | 42 => `(tactic| ((with_reducible refine DL.b_fzv (by with_unfolding_all exact rfl) ?_)))
      | 43 => `(tactic| ((with_reducible refine DL.b_fzvA (by with_unfolding_all exact rfl) ?_)))
      | 44 => `(tactic| ((with_reducible refine DL.b_methL (by with_unfolding_all exact rfl) ?_)))
      | 45 => `(tactic| ((with_reducible refine DL.b_methV (by with_unfolding_all exact rfl) ?_)))
      | 46 => `(tactic| ((with_reducible refine DL.b_mkTup (by with_unfolding_all exact rfl) (by with_unfolding_all exact Nat.le_of_ble_eq_true rfl) ?_)))
      | 47 => `(tactic| ((with_reducible refine DL.b_mkLst (by with_unfolding_all exact rfl) (by with_unfolding_all exact Nat.le_of_ble_eq_true rfl) ?_)))
      | 48 => `(tactic| ((with_reducible refine DL.x_mul (by with_unfolding_all exact rfl) (by with_unfolding_all exact rfl) (by (first | omega | decide)) ?_)))
      | 49 => `(tactic| ((with_reducible refine DL.x_mod (by with_unfolding_all exact rfl) (by with_unfolding_all exact rfl) (by decide) ?_)))
      | 50 => `(tactic| ((with_reducible refine DL.x_div (by with_unfolding_all exact rfl) (by with_unfolding_all exact rfl) (by (first | omega | decide)) ?_)))
      | 51 => `(tactic| ((with_reducible refine DL.b_unV (by with_unfolding_all exact rfl) (by with_unfolding_all exact rfl) ?_)))
      | 52 => `(tactic| ((with_reducible refine DL.b_callV (by with_unfolding_all exact rfl) (by with_unfolding_all exact rfl) ?_)))
      | 53 => `(tactic| ((with_reducible refine DL.b_callFP (by with_unfolding_all exact rfl) (by with_unfolding_all exact rfl) ?_)))
      | 54 => `(tactic| ((with_reducible refine DL.b_rng1 (by (first | omega | decide)) ?_)))
      | 55 => `(tactic| ((with_reducible refine DL.b_rng2 (by (first | omega | decide)) ?_)))
      | 56 => `(tactic| ((with_reducible refine DL.b_fzvA (by with_unfolding_all exact rfl) ?_)))
      | 57 => `(tactic| ((with_reducible refine DL.b_seqO (by with_unfolding_all exact rfl) ?_)))
      | 58 => `(tactic| (((with_reducible refine DL.compN (by with_unfolding_all exact ((rfl : _ = [$us,*]))) ?_); (first | with_reducible refine DL.comp_nil ?_ | with_reducible refine DL.comp_cons0 ?_ | with_reducible refine DL.comp_cons ?_ | ((with_reducible refine' DL.comp_all (fun b hb => ?_) ?_); rotate_left) | ((with_reducible refine' DL.comp_mapK (fun b hb => ?_) ?_); rotate_left 2)))))
      | 59 => `(tactic| ((with_reducible refine DL.b_opV (op := DL.idxD) (by with_unfolding_all exact rfl) (by with_unfolding_all exact rfl) (by with_unfolding_all exact rfl) ?_)))
      | 60 => `(tactic| ((with_reducible refine DL.b_opV (op := DL.addD) (by with_unfolding_all exact rfl) (by with_unfolding_all exact rfl) (by with_unfolding_all exact rfl) ?_)))
      | 61 => `(tactic| ((with_reducible refine DL.b_opV (op := DL.subD) (by with_unfolding_all exact rfl) (by with_unfolding_all exact rfl) (by with_unfolding_all exact rfl) ?_)))
      | 62 => `(tactic| ((with_reducible refine DL.b_opV (op := DL.ltD) (by with_unfolding_all exact rfl) (by with_unfolding_all exact rfl) (by with_unfolding_all exact rfl) ?_)))
      | 63 => `(tactic| ((with_reducible refine DL.b_opV (op := DL.leD) (by with_unfolding_all exact rfl) (by with_unfolding_all exact rfl) (by with_unfolding_all exact rfl) ?_)))
      | 64 => `(tactic| ((with_reducible refine DL.b_opV (op := DL.gtD) (by with_unfolding_all exact rfl) (by with_unfolding_all exact rfl) (by with_unfolding_all exact rfl) ?_)))
      | 65 => `(tactic| ((with_reducible refine DL.b_opV (op := DL.geD) (by with_unfolding_all exact rfl) (by with_unfolding_all exact rfl) (by with_unfolding_all exact rfl) ?_)))
      | 66 => `(tactic| ((with_reducible refine DL.b_opV (op := DL.powD) (by with_unfolding_all exact rfl) (by with_unfolding_all exact rfl) (by with_unfolding_all exact rfl) ?_)))
      | 67 => `(tactic| ((with_reducible refine DL.b_opV (op := DL.inD) (by with_unfolding_all exact rfl) (by with_unfolding_all exact rfl) (by with_unfolding_all exact rfl) ?_)))
      | 68 => `(tactic| ((with_reducible refine DL.b_opV (op := DL.ninD) (by with_unfolding_all exact rfl) (by with_unfolding_all exact rfl) (by with_unfolding_all exact rfl) ?_)))
      | 69 => `(tactic| ((with_reducible refine DL.b_opV (op := DL.isBD) (by with_unfolding_all exact rfl) (by with_unfolding_all exact rfl) (by with_unfolding_all exact rfl) ?_)))
      | 70 => `(tactic| ((with_reducible refine DL.b_opV (op := DL.isnotBD) (by with_unfolding_all exact rfl) (by with_unfolding_all exact rfl) (by with_unfolding_all exact rfl) ?_)))
      | 71 => `(tactic| ((with_reducible refine DL.b_opV (op := DL.lrgD) (by with_unfolding_all exact rfl) (by with_unfolding_all exact rfl) (by with_unfolding_all exact rfl) ?_)))
      | 72 => `(tactic| ((with_reducible refine DL.b_opV (op := DL.trgD) (by with_unfolding_all exact rfl) (by with_unfolding_all exact rfl) (by with_unfolding_all exact rfl) ?_)))
      | 73 => `(tactic| ((with_reducible refine DL.s_seqNW (by with_unfolding_all exact (rfl : _ = [$us,*])) ?_)))
      | 74 => `(tactic| ((with_reducible refine DL.s_tupGL (by with_unfolding_all exact rfl) (by with_unfolding_all exact rfl) ?_)))
      | 75 => `(tactic| ((with_reducible refine DL.s_asgV (by with_unfolding_all exact rfl) ?_)))
      | 76 => `(tactic| ((with_reducible refine DL.s_asgs (by with_unfolding_all exact rfl) ?_)))
      | 77 => `(tactic| ((with_reducible refine DL.s_asgsD (by with_unfolding_all exact rfl) (by first | assumption | exact DL.Fr.un | exact DL.Fr.dat | exact DL.Fr.own) ?_)))
      | 78 => `(tactic| ((with_reducible refine DL.s_asgsO (by with_unfolding_all exact rfl) (by first | assumption | exact DL.Fr.un | exact DL.Fr.dat | exact DL.Fr.own) ?_)))
      | 79 => `(tactic| ((with_reducible refine DL.s_asgF (by with_unfolding_all exact rfl) (by first | assumption | exact DL.Fr.un | exact DL.Fr.dat | exact DL.Fr.own) ?_)))
      | 80 => `(tactic| ((with_reducible refine DL.s_asgFO (by with_unfolding_all exact rfl) (by first | assumption | exact DL.Fr.un | exact DL.Fr.dat | exact DL.Fr.own) ?_)))
      | 81 => `(tactic| ((with_reducible refine DL.s_storeV (by with_unfolding_all exact rfl) ?_)))
      | 82 => `(tactic| ((with_reducible refine DL.s_tupG (by with_unfolding_all exact rfl) (by with_unfolding_all exact rfl) ?_)))
      | 83 => `(tactic| (((with_reducible refine DL.loopN (by with_unfolding_all exact ((rfl : _ = [$us,*]))) ?_); (first | with_reducible refine DL.loop_nil ?_ | with_reducible refine DL.loop_consW ?_))))
      | 84 => `(tactic| ((with_reducible refine DL.f_sl (by with_unfolding_all exact rfl) ?_)))
      | 85 => `(tactic| ((with_reducible refine DL.f_sld (by with_unfolding_all exact rfl) ?_)))
      | 86 => `(tactic| ((with_reducible refine DL.g_yield (by omega) ?_)))
      | _ => Lean.Macro.throwUnsupported
    | _ => Lean.Macro.throwUnsupported
namespace CM
open PySem PySem.Spec PyProof.Rows L2 DL
theorem isint_wp {i a b : Int} {Q : Val → DEnv → Prop} {X : Ex → DEnv → Prop} (q : Q (.d (.bl (decide (a ≤ i) && decide (i ≤ b)))) [.d (.int i), .d (.int a), .d (.int b)]) : (s_is_integer [.d (.int i), .d (.int a), .d (.int b)]).wp Q X := by
  unfold s_is_integer e_is_integer; with_reducible refine f_fnW (by with_unfolding_all exact rfl) ?_
  repeat fail "WU3"
  exact q
end CM
set_option maxHeartbeats 1000000
namespace CM
open PySem PySem.Spec PyProof.Rows L2 DL
theorem q_bl {k k' : Bool} {ρ ρ' : DEnv} {Q : Val → DEnv → Prop} (q : Q (.d (.bl k)) ρ) (e : k = k') (e2 : ρ = ρ' := by rfl) : Q (.d (.bl k')) ρ' := by subst e; subst e2; exact q
def Op.okB (o : Op) : Bool := decide (if o.w then 1 ≤ o.v else 0 ≤ o.v) && decide (o.v ≤ 1000000000) && decide (-1000000000000000 ≤ o.b) && decide (o.b ≤ o.e) && decide (o.e ≤ 1000000000000000)
theorem okB_iff {o : Op} : o.okB = true ↔ o.Ok := by
  obtain ⟨w, v, b, e⟩ := o
  unfold Op.okB
  constructor
  · intro h
    cases w <;> simp at h <;> exact ⟨by dsimp only; omega, by simp <;> omega, by dsimp only; omega, by dsimp only; omega, by dsimp only; omega, by dsimp only; omega⟩
  · rintro ⟨h1, h2, h3, h4, h5, h6⟩
    cases w <;> simp at * <;> omega
theorem stamps_wp {b e : Int} {Q : Val → DEnv → Prop} {X : Ex → DEnv → Prop} (q : Q (.d (.bl (decide (-1000000000000000 ≤ b) && decide (b ≤ e) && decide (e ≤ 1000000000000000)))) [.d (.int b), .d (.int e)]) : (s_are_stamps [.d (.int b), .d (.int e)]).wp Q X := by
  unfold s_are_stamps e_are_stamps; with_reducible refine f_fnW (by with_unfolding_all exact rfl) ?_
  (repeat (case orE => (fail "WU2"); (with_reducible refine isint_wp ?_)))
  refine q_bl q ?_
  rw [Bool.eq_iff_iff]; simp; omega
theorem isop_wp {o : Op} {Q : Val → DEnv → Prop} {X : Ex → DEnv → Prop} (q : Q (.d (.bl o.okB)) [.d o.d]) : (s_is_operation [.d o.d]).wp Q X := by
  obtain ⟨w, v, b, e⟩ := o
  cases w
  · show (s_is_operation [.d (.tup [.str "read", .int v, .int b, .int e])]).wp Q X
    unfold s_is_operation e_is_operation; with_reducible refine f_fnW (by with_unfolding_all exact rfl) ?_
    (repeat (case orE => (fail "WU5"); (with_reducible refine isint_wp ?_); (with_reducible refine stamps_wp ?_)))
    refine ⟨fun h => ?_, fun h => ?_⟩
    · repeat fail "WU5"
      refine q_bl q ?_
      have h : ((false || !(decide ((0 : Int) ≤ v) && decide (v ≤ 1000000000)))) = true := h
      unfold Op.okB
      rw [Bool.eq_iff_iff]; simp at h ⊢; omega
    · (repeat (case orE => (fail "WU5"); (with_reducible refine isint_wp ?_); (with_reducible refine stamps_wp ?_)))
      refine q_bl q ?_
      have h : ((false || !(decide ((0 : Int) ≤ v) && decide (v ≤ 1000000000)))) = false := h
      unfold Op.okB
      rw [Bool.eq_iff_iff]; simp at h ⊢; omega
  · show (s_is_operation [.d (.tup [.str "write", .int v, .int b, .int e])]).wp Q X
    unfold s_is_operation e_is_operation; with_reducible refine f_fnW (by with_unfolding_all exact rfl) ?_
    (repeat (case orE => (fail "WU5"); (with_reducible refine isint_wp ?_); (with_reducible refine stamps_wp ?_)))
    refine ⟨fun h => ?_, fun h => ?_⟩
    · repeat fail "WU5"
      refine q_bl q ?_
      have h : ((false || !(decide ((1 : Int) ≤ v) && decide (v ≤ 1000000000)))) = true := h
      unfold Op.okB
      rw [Bool.eq_iff_iff]; simp at h ⊢; omega
    · (repeat (case orE => (fail "WU5"); (with_reducible refine isint_wp ?_); (with_reducible refine stamps_wp ?_)))
      refine q_bl q ?_
      have h : ((false || !(decide ((1 : Int) ≤ v) && decide (v ≤ 1000000000)))) = false := h
      unfold Op.okB
      rw [Bool.eq_iff_iff]; simp at h ⊢; omega
def Log.okB (l : Log) : Bool := decide (l.length ≤ 200) && l.all Op.okB && decide l.wr.Nodup
theorem logB_iff {l : Log} : l.okB = true ↔ l.Ok := by
  unfold Log.okB
  simp only [Bool.and_eq_true, decide_eq_true_eq, List.all_eq_true]
  exact ⟨fun ⟨⟨h1, h2⟩, h3⟩ => ⟨fun o ho => okB_iff.mp (h2 o ho), h3, h1⟩, fun h => ⟨⟨h.len, fun o ho => okB_iff.mpr (h.ops o ho)⟩, h.nd⟩⟩
theorem insI_nin {k : Int} : ∀ {xs : List Int}, k ∉ xs → (insI k xs).length = xs.length + 1
  | [], _ => rfl
  | x :: xs, h => by
    unfold insI
    split
    · rfl
    · rw [if_neg (fun z => h (by rw [z]; exact List.mem_cons_self)), List.length_cons, insI_nin (fun z => h (List.mem_cons_of_mem _ z)), List.length_cons]
theorem insI_in {k : Int} : ∀ {xs : List Int}, xs.Pairwise (· < ·) → k ∈ xs → (insI k xs).length = xs.length
  | [], _, h => by simp at h
  | x :: xs, hp, h => by
    obtain ⟨h1, h2⟩ := List.pairwise_cons.mp hp
    unfold insI
    rcases List.mem_cons.mp h with rfl | z
    · rw [if_neg (by omega), if_pos rfl]
    · have := h1 k z
      rw [if_neg (by omega), if_neg (by omega), List.length_cons, insI_in h2 z, List.length_cons]
theorem sortSet_nodup : ∀ {ns : List Int}, (sortSetI ns).length = ns.length ↔ ns.Nodup
  | [] => by simp [sortSetI]
  | n :: ns => by
    have ih := sortSet_nodup (ns := ns)
    have hle := sortSetI_len (xs := ns)
    show (insI n (sortSetI ns)).length = _ ↔ _
    rw [List.nodup_cons, List.length_cons]
    by_cases h : n ∈ ns
    · rw [insI_in (sortSetI_pw _) (mem_sortSetI.mpr h)]
      exact ⟨fun z => by omega, fun z => absurd h z.1⟩
    · rw [insI_nin (fun z => h (mem_sortSetI.mp z)), ← ih]
      exact ⟨fun z => ⟨h, by omega⟩, fun z => by rw [z.2]⟩
theorem islog_wp {l : Log} {Q : Val → DEnv → Prop} {X : Ex → DEnv → Prop} (hl : l.length < 4000) (q : Q (.d (.bl l.okB)) [.d l.d]) : (s_is_log [.d l.d]).wp Q X := by
  unfold s_is_log e_is_log; with_reducible refine f_fnW (by with_unfolding_all exact rfl) ?_
  repeat fail "WU3"
  by_cases h : l.length ≤ 200
  · refine way_f (by simp; omega) ?_
    unfold c1_is_log
    (repeat (case orE => (fail "WU3"); (with_reducible refine isop_wp ?_)))
    refine ⟨fun ha => ?_, fun ha => ?_⟩
    · have e : l.okB = false := by
        unfold Log.okB
        have : l.all Op.okB = false := by simpa using ha
        rw [this]; simp
      repeat fail "WU3"
      exact q_bl q e
    · unfold c2_is_log
      (repeat (case orE => (fail "WU3"); (with_reducible refine x_lenSetM rfl (by have := List.length_filter_le Op.w l; omega) ?_)))
      refine q_bl q ?_
      have ha : l.all Op.okB = true := by simpa using ha
      unfold Log.okB
      rw [ha, decide_eq_true h, Bool.true_and, Bool.true_and, Bool.eq_iff_iff, decide_eq_true_eq, decide_eq_true_eq, ← sortSet_nodup]
      rw [show Log.wr l = (l.filter Op.w).map Op.v from rfl, List.length_map]
      omega
  · have e : l.okB = false := by
      unfold Log.okB
      rw [decide_eq_false h]; rfl
    refine way_t (by simp; omega) ?_
    repeat fail "WU3"
    exact q_bl q e
end CM
set_option maxHeartbeats 1000000
namespace CM
open PySem PySem.Spec PyProof.Rows L2 DL
/-! what the faults of a log are -/
instance : Inhabited Op := ⟨⟨false, 0, 0, 0⟩⟩
def Log.at (l : Log) (i : Nat) : Op := l.getD i default
theorem at_get {l : Log} {i : Nat} (h : i < l.length) : l[i]? = some (l.at i) := by
  unfold Log.at
  rw [List.getD_eq_getElem?_getD, List.getElem?_eq_getElem h]; rfl
theorem at_of {l : Log} {i : Nat} {o : Op} (h : l[i]? = some o) : l.at i = o := by
  unfold Log.at
  rw [List.getD_eq_getElem?_getD, h]; rfl
/-- the index of the write of a value -/
def Log.wix (l : Log) (v : Int) : Nat := l.findIdx fun o => o.w && decide (o.v = v)
theorem mem_wr {l : Log} {v : Int} : v ∈ l.wr ↔ ∃ o ∈ l, o.w = true ∧ o.v = v := by
  unfold Log.wr
  rw [List.mem_map]
  constructor
  · rintro ⟨o, h, rfl⟩
    obtain ⟨h1, h2⟩ := List.mem_filter.mp h
    exact ⟨o, h1, h2, rfl⟩
  · rintro ⟨o, h1, h2, rfl⟩
    exact ⟨o, List.mem_filter.mpr ⟨h1, h2⟩, rfl⟩
theorem wix_at {l : Log} {v : Int} (h : v ∈ l.wr) : l.wix v < l.length ∧ (l.at (l.wix v)).w = true ∧ (l.at (l.wix v)).v = v := by
  obtain ⟨o, h1, h2, h3⟩ := mem_wr.mp h
  have hl : l.wix v < l.length := List.findIdx_lt_length_of_exists ⟨o, h1, by simp [h2, h3]⟩
  refine ⟨hl, ?_⟩
  have := List.findIdx_getElem (xs := l) (p := fun o : Op => o.w && decide (o.v = v)) (w := hl)
  have e : l.at (l.wix v) = l[l.wix v] := at_of (List.getElem?_eq_getElem hl)
  rw [e]
  simp only [Bool.and_eq_true, decide_eq_true_eq] at this
  exact this
/-- writes at two indexes are of two values -/
theorem wr_inj : ∀ {l : Log} {i j : Nat} {a b : Op}, (Log.wr l).Nodup → l[i]? = some a → l[j]? = some b → a.w = true → b.w = true → a.v = b.v → i = j
  | [], i, j, a, b, _, h, _, _, _, _ => by simp at h
  | o :: l, i, j, a, b, nd, h1, h2, w1, w2, e => by
    have sub : (Log.wr l).Nodup := by
      unfold Log.wr at nd ⊢
      rw [List.filter_cons] at nd
      split at nd
      · rw [List.map_cons, List.nodup_cons] at nd; exact nd.2
      · exact nd
    have no : ∀ {k : Nat} {c : Op}, l[k]? = some c → c.w = true → o.w = true → o.v = c.v → False := fun {k c} hk hw ow ev => by
      unfold Log.wr at nd
      rw [List.filter_cons, if_pos ow, List.map_cons, List.nodup_cons] at nd
      exact nd.1 (List.mem_map.mpr ⟨c, List.mem_filter.mpr ⟨List.mem_of_getElem? hk, hw⟩, ev.symm⟩)
    cases i with
    | zero =>
      cases j with
      | zero => rfl
      | succ j =>
        have h1 : o = a := by simpa using h1
        subst h1
        exact (no (k := j) (by simpa using h2) w2 w1 e).elim
    | succ i =>
      cases j with
      | zero =>
        have h2 : o = b := by simpa using h2
        subst h2
        exact (no (k := i) (by simpa using h1) w1 w2 e.symm).elim
      | succ j => exact congrArg (· + 1) (wr_inj sub (by simpa using h1) (by simpa using h2) w1 w2 e)
theorem wix_of {l : Log} {i : Nat} {o : Op} (nd : l.wr.Nodup) (h : l[i]? = some o) (hw : o.w = true) : l.wix o.v = i := by
  obtain ⟨h1, h2, h3⟩ := wix_at (mem_wr.mpr ⟨o, List.mem_of_getElem? h, hw, rfl⟩)
  exact wr_inj nd (at_get h1) h h2 hw h3
inductive Flt where
  | unw (r : Nat) | early (r w : Nat) | crossed (a b c d : Nat) | late (c d : Nat)
  deriving DecidableEq
def nD (n : Nat) : D := .int (n : Nat)
def Flt.d : Flt → D
  | .unw r => .tup [.str "unwritten", .int (r : Nat)]
  | .early r w => .tup [.str "early", .int (r : Nat), .int (w : Nat)]
  | .crossed a b c d => .tup [.str "crossed", .int (a : Nat), .int (b : Nat), .int (c : Nat), .int (d : Nat)]
  | .late c d => .tup [.str "late", .int (c : Nat), .int (d : Nat)]
def Flt.ixs : Flt → List Nat
  | .unw r => [r]
  | .early r w => [r, w]
  | .crossed a b c d => [a, b, c, d]
  | .late c d => [c, d]
def Flt.In (n : Nat) (f : Flt) : Prop := ∀ i ∈ f.ixs, i < n
def sureB (l : Log) (t : Int) (i j : Nat) : Bool := decide ((l.at i).e + t < (l.at j).b)
/-- whether it is a fault, its indexes given -/
def Flt.is (l : Log) (t : Int) : Flt → Bool
  | .unw r => !(l.at r).w && decide ((l.at r).v ≠ 0) && !decide ((l.at r).v ∈ l.wr)
  | .early r w => !(l.at r).w && (l.at w).w && decide ((l.at r).v = (l.at w).v) && sureB l t r w
  | .crossed a b c d => decide ((l.at a).v = (l.at d).v) && decide ((l.at b).v = (l.at c).v) && decide ((l.at a).v ≠ (l.at b).v) && decide ((l.at a).v ≠ 0) && decide ((l.at b).v ≠ 0) && sureB l t a b && sureB l t c d
  | .late c d => decide ((l.at c).v ≠ 0) && !(l.at d).w && decide ((l.at d).v = 0) && sureB l t c d
def Log.unw (l : Log) : List Nat := (l.zipIdx.filter fun p => !p.1.w && decide (p.1.v ≠ 0) && !decide (p.1.v ∈ l.wr)).map (·.2)
def Log.early (l : Log) (t : Int) : List Nat := (l.zipIdx.filter fun p => !p.1.w && decide (p.1.v ≠ 0) && decide (p.1.v ∈ l.wr) && decide (p.1.e + t < (l.at (l.wix p.1.v)).b)).map (·.2)
def Log.singles (l : Log) (t : Int) : List Flt := l.unw.map .unw ++ (l.early t).map fun i => .early i (l.wix (l.at i).v)
theorem mem_zipx {α : Type} {l : List α} {p : α × Nat} (h : p ∈ l.zipIdx) : l[p.2]? = some p.1 := List.mem_zipIdx_iff_getElem?.mp h
theorem mem_unw {l : Log} {i : Nat} : i ∈ l.unw ↔ i < l.length ∧ Flt.is l 0 (.unw i) = true := by
  unfold Log.unw Flt.is
  constructor
  · intro h
    obtain ⟨p, hp, rfl⟩ := List.mem_map.mp h
    obtain ⟨h1, h2⟩ := List.mem_filter.mp hp
    have e := mem_zipx h1
    exact ⟨(List.getElem?_eq_some_iff.mp e).1, by dsimp only; rw [at_of e]; exact h2⟩
  · rintro ⟨h1, h2⟩
    exact List.mem_map.mpr ⟨(l.at i, i), List.mem_filter.mpr ⟨List.mem_zipIdx_iff_getElem?.mpr (at_get h1), h2⟩, rfl⟩
theorem mem_early {l : Log} {t : Int} {i : Nat} : i ∈ l.early t ↔ i < l.length ∧ (l.at i).w = false ∧ (l.at i).v ≠ 0 ∧ (l.at i).v ∈ l.wr ∧ (l.at i).e + t < (l.at (l.wix (l.at i).v)).b := by
  unfold Log.early
  constructor
  · intro h
    obtain ⟨p, hp, rfl⟩ := List.mem_map.mp h
    obtain ⟨h1, h2⟩ := List.mem_filter.mp hp
    have e := mem_zipx h1
    rw [at_of e]
    simp only [Bool.and_eq_true, Bool.not_eq_true', decide_eq_true_eq] at h2
    exact ⟨(List.getElem?_eq_some_iff.mp e).1, h2.1.1.1, h2.1.1.2, h2.1.2, h2.2⟩
  · rintro ⟨h1, h2, h3, h4, h5⟩
    exact List.mem_map.mpr ⟨(l.at i, i), List.mem_filter.mpr ⟨List.mem_zipIdx_iff_getElem?.mpr (at_get h1), by simp only [Bool.and_eq_true, Bool.not_eq_true', decide_eq_true_eq]; exact ⟨⟨⟨h2, h3⟩, h4⟩, h5⟩⟩, rfl⟩
/-! marks -/
def mkStep (l : Log) (m : Int → Option (Nat × Nat)) (o : Op) (i : Nat) : Int → Option (Nat × Nat) := fun v => if v = o.v then
    (let p := (m v).getD (i, i); some (if o.e < (l.at p.1).e then i else p.1, if (l.at p.2).b < o.b then i else p.2)) else m v
def mkAt (l : Log) : Nat → Int → Option (Nat × Nat)
  | 0 => fun _ => none
  | k + 1 => mkStep l (mkAt l k) (l.at k) k
def Log.fi (l : Log) (v : Int) : Nat := ((mkAt l l.length v).getD (0, 0)).1
def Log.la (l : Log) (v : Int) : Nat := ((mkAt l l.length v).getD (0, 0)).2
/-- what stands for a value behind k operations -/
structure MkOk (l : Log) (k : Nat) (v : Int) (f a : Nat) : Prop where
  fk : f < k
  ak : a < k
  fv : (l.at f).v = v
  av : (l.at a).v = v
  fm : ∀ i, i < k → (l.at i).v = v → (l.at f).e ≤ (l.at i).e
  am : ∀ i, i < k → (l.at i).v = v → (l.at i).b ≤ (l.at a).b
theorem mkAt_ok {l : Log} {v : Int} : ∀ {k : Nat}, match mkAt l k v with | some (f, a) => MkOk l k v f a | none => ∀ i, i < k → (l.at i).v ≠ v
  | 0 => by
    show ∀ i, i < 0 → _
    intro i hi; omega
  | k + 1 => by
    have ih := mkAt_ok (l := l) (v := v) (k := k)
    show match mkStep l (mkAt l k) (l.at k) k v with | some (f, a) => MkOk l (k + 1) v f a | none => ∀ i, i < k + 1 → (l.at i).v ≠ v
    unfold mkStep
    by_cases hv : v = (l.at k).v
    · rw [if_pos hv]
      cases hm : mkAt l k v with
      | none =>
        rw [hm] at ih
        have ih : ∀ i, i < k → (l.at i).v ≠ v := ih
        show MkOk l (k + 1) v (if (l.at k).e < (l.at k).e then k else k) (if (l.at k).b < (l.at k).b then k else k)
        rw [if_neg (by omega), if_neg (by omega)]
        refine ⟨by omega, by omega, hv.symm, hv.symm, fun i hi e => ?_, fun i hi e => ?_⟩
        · by_cases z : i = k
          · subst z; omega
          · exact absurd e (ih i (by omega))
        · by_cases z : i = k
          · subst z; omega
          · exact absurd e (ih i (by omega))
      | some p =>
        obtain ⟨f, a⟩ := p
        rw [hm] at ih
        have ih : MkOk l k v f a := ih
        show MkOk l (k + 1) v (if (l.at k).e < (l.at f).e then k else f) (if (l.at a).b < (l.at k).b then k else a)
        obtain ⟨h1, h2, h3, h4, h5, h6⟩ := ih
        refine ⟨by split <;> omega, by split <;> omega, by split <;> simp_all, by split <;> simp_all, fun i hi e => ?_, fun i hi e => ?_⟩
        · by_cases z : i = k
          · subst z; split <;> omega
          · have := h5 i (by omega) e
            split <;> omega
        · by_cases z : i = k
          · subst z; split <;> omega
          · have := h6 i (by omega) e
            split <;> omega
    · rw [if_neg hv]
      cases hm : mkAt l k v with
      | none =>
        rw [hm] at ih
        have ih : ∀ i, i < k → (l.at i).v ≠ v := ih
        intro i hi e
        by_cases z : i = k
        · subst z; exact hv e.symm
        · exact ih i (by omega) e
      | some p =>
        obtain ⟨f, a⟩ := p
        rw [hm] at ih
        obtain ⟨h1, h2, h3, h4, h5, h6⟩ := (ih : MkOk l k v f a)
        have nk : ∀ i, i < k + 1 → (l.at i).v = v → i < k := fun i hi e => by
          by_cases z : i = k
          · subst z; exact absurd e.symm hv
          · omega
        exact ⟨by omega, by omega, h3, h4, fun i hi e => h5 i (nk i hi e) e, fun i hi e => h6 i (nk i hi e) e⟩
theorem at_v {l : Log} {v : Int} : v ∈ l.vals ↔ ∃ i, i < l.length ∧ (l.at i).v = v := by
  rw [mem_vals]
  constructor
  · rintro ⟨o, ho, e⟩
    obtain ⟨i, hi⟩ := List.getElem?_of_mem ho
    exact ⟨i, (List.getElem?_eq_some_iff.mp hi).1, by rw [at_of hi]; exact e⟩
  · rintro ⟨i, hi, e⟩
    exact ⟨l.at i, List.mem_of_getElem? (at_get hi), e⟩
theorem mk_some {l : Log} {v : Int} (h : v ∈ l.vals) : mkAt l l.length v = some (l.fi v, l.la v) := by
  have ok := mkAt_ok (l := l) (v := v) (k := l.length)
  unfold Log.fi Log.la
  cases hm : mkAt l l.length v with
  | none =>
    rw [hm] at ok
    obtain ⟨i, hi, e⟩ := at_v.mp h
    exact absurd e ((ok : ∀ i, i < l.length → (l.at i).v ≠ v) i hi)
  | some p => rfl
theorem fi_ok {l : Log} {v : Int} (h : v ∈ l.vals) : MkOk l l.length v (l.fi v) (l.la v) := by
  have ok := mkAt_ok (l := l) (v := v) (k := l.length)
  rw [mk_some h] at ok
  exact ok
theorem minL_iff {xs : List Int} {m : Int} (h : m ∈ xs) (hm : ∀ x ∈ xs, m ≤ x) : minL xs = m := by
  have h1 : minL xs ∈ xs := minL_mem fun z => by rw [z] at h; simp at h
  have h2 := minL_le h
  have := hm _ h1
  omega
theorem maxL_iff {xs : List Int} {m : Int} (h : m ∈ xs) (hm : ∀ x ∈ xs, x ≤ m) : maxL xs = m := by
  have h1 : maxL xs ∈ xs := maxL_mem fun z => by rw [z] at h; simp at h
  have h2 := maxL_le h
  have := hm _ h1
  omega
theorem fe_fi {l : Log} {v : Int} (h : v ∈ l.vals) (h0 : v ≠ 0) : l.fe v = (l.at (l.fi v)).e := by
  obtain ⟨h1, h2, h3, h4, h5, h6⟩ := fi_ok h
  unfold Log.fe
  rw [if_neg h0]
  refine minL_iff (List.mem_map.mpr ⟨l.at (l.fi v), List.mem_filter.mpr ⟨List.mem_of_getElem? (at_get h1), by simpa using h3⟩, rfl⟩) fun x hx => ?_
  obtain ⟨o, ho, rfl⟩ := List.mem_map.mp hx
  obtain ⟨hm, e⟩ := List.mem_filter.mp ho
  obtain ⟨i, hi⟩ := List.getElem?_of_mem hm
  have := h5 i (List.getElem?_eq_some_iff.mp hi).1 (by rw [at_of hi]; simpa using e)
  rw [at_of hi] at this
  exact this
theorem lb_la {l : Log} {v : Int} (h : v ∈ l.vals) : l.lb v = (l.at (l.la v)).b := by
  obtain ⟨h1, h2, h3, h4, h5, h6⟩ := fi_ok h
  unfold Log.lb
  refine maxL_iff (List.mem_map.mpr ⟨l.at (l.la v), List.mem_filter.mpr ⟨List.mem_of_getElem? (at_get h2), by simpa using h4⟩, rfl⟩) fun x hx => ?_
  obtain ⟨o, ho, rfl⟩ := List.mem_map.mp hx
  obtain ⟨hm, e⟩ := List.mem_filter.mp ho
  obtain ⟨i, hi⟩ := List.getElem?_of_mem hm
  have := h6 i (List.getElem?_eq_some_iff.mp hi).1 (by rw [at_of hi]; simpa using e)
  rw [at_of hi] at this
  exact this
/-! pairs -/
def Log.somes (l : Log) : List Int := l.vals.filter fun v => decide (v = 0) || decide (v ∈ l.wr)
def pairF (l : Log) (a b : Int) : Flt := if a = 0 then .late (l.fi b) (l.la a) else .crossed (l.fi a) (l.la b) (l.fi b) (l.la a)
def pairsOf (l : Log) (t : Int) : List Int → List Flt
  | [] => []
  | a :: as => (as.filter fun b => l.bef t a b && l.bef t b a).map (pairF l a) ++ pairsOf l t as
def Log.pairs (l : Log) (t : Int) : List Flt := pairsOf l t l.somes
def Log.flts (l : Log) (t : Int) : List Flt := l.singles t ++ l.pairs t
end CM
set_option maxHeartbeats 1000000
namespace CM
open PySem PySem.Spec PyProof.Rows L2 DL
end CM
set_option maxHeartbeats 1000000
namespace CM
open PySem PySem.Spec PyProof.Rows L2 DL
end CM
set_option maxHeartbeats 1000000
namespace CM
open PySem PySem.Spec PyProof.Rows L2 DL
theorem somes_mem {l : Log} {v : Int} (h : v ∈ l.somes) : v ∈ l.vals := (List.mem_filter.mp h).1
end CM
set_option maxHeartbeats 1000000
namespace CM
open PySem PySem.Spec PyProof.Rows L2 DL
theorem cut_from {α : Type} {xs : List α} {i : Nat} : DL.cutD xs (some ((i : Nat) : Int)) none = xs.drop i := by
  unfold DL.cutD
  rw [HT.sIx_nat, HT.sIx_none]
  by_cases h : i ≤ xs.length
  · rw [Nat.min_eq_left h, List.take_of_length_le (by rw [List.length_drop]; exact Nat.le_refl _)]
  · rw [Nat.min_eq_right (by omega), List.drop_of_length_le (Nat.le_refl _), List.drop_of_length_le (by omega)]
    simp
/-- all that is given is a fault -/
theorem bef_iff {l : Log} {t a b : Int} : l.bef t a b = true ↔ a ≠ b ∧ l.fe a + t < l.lb b := by
  unfold Log.bef
  simp
theorem pairs_mem {l : Log} {t : Int} {f : Flt} : ∀ {vs : List Int}, vs.Pairwise (· < ·) → f ∈ pairsOf l t vs → ∃ a b, a ∈ vs ∧ b ∈ vs ∧ a < b ∧ l.bef t a b = true ∧ l.bef t b a = true ∧ f = pairF l a b
  | [], _, h => by simp [pairsOf] at h
  | v :: vs, hp, h => by
    obtain ⟨h1, h2⟩ := List.pairwise_cons.mp hp
    have h : f ∈ (vs.filter fun b => l.bef t v b && l.bef t b v).map (pairF l v) ++ pairsOf l t vs := h
    rcases List.mem_append.mp h with h | h
    · obtain ⟨b, hb, rfl⟩ := List.mem_map.mp h
      obtain ⟨h3, h4⟩ := List.mem_filter.mp hb
      rw [Bool.and_eq_true] at h4
      exact ⟨v, b, List.mem_cons_self, List.mem_cons_of_mem _ h3, h1 b h3, h4.1, h4.2, rfl⟩
    · obtain ⟨a, b, ha, hb, r⟩ := pairs_mem h2 h
      exact ⟨a, b, List.mem_cons_of_mem _ ha, List.mem_cons_of_mem _ hb, r⟩
theorem flts_is {l : Log} {t : Int} {f : Flt} (ok : l.Ok) (h : f ∈ l.flts t) : f.In l.length ∧ f.is l t = true := by
  unfold Log.flts at h
  rcases List.mem_append.mp h with h | h
  · unfold Log.singles at h
    rcases List.mem_append.mp h with h | h
    · obtain ⟨i, hi, rfl⟩ := List.mem_map.mp h
      obtain ⟨h1, h2⟩ := mem_unw.mp hi
      exact ⟨fun j hj => by have := List.mem_singleton.mp hj; omega, h2⟩
    · obtain ⟨i, hi, rfl⟩ := List.mem_map.mp h
      obtain ⟨h1, h2, h3, h4, h5⟩ := mem_early.mp hi
      obtain ⟨w1, w2, w3⟩ := wix_at h4
      refine ⟨fun j hj => ?_, ?_⟩
      · simp only [Flt.ixs, List.mem_cons, List.not_mem_nil, or_false] at hj
        rcases hj with rfl | rfl <;> assumption
      · simp only [Flt.is, sureB, h2, w2, w3, h5, decide_true, Bool.not_false, Bool.and_self]
  · obtain ⟨a, b, ha, hb, hab, h1, h2, rfl⟩ := pairs_mem ((vals_pw l).filter _) h
    have va := somes_mem ha
    have vb := somes_mem hb
    obtain ⟨_, b1⟩ := bef_iff.mp h1
    obtain ⟨_, b2⟩ := bef_iff.mp h2
    obtain ⟨A1, A2, A3, A4, A5, A6⟩ := fi_ok va
    obtain ⟨B1, B2, B3, B4, B5, B6⟩ := fi_ok vb
    have a0 := (vals_bd ok va).1
    have hb0 : b ≠ 0 := by omega
    rw [fe_fi vb hb0, lb_la va] at b2
    unfold pairF
    by_cases z : a = 0
    · rw [if_pos z]
      refine ⟨fun j hj => ?_, ?_⟩
      · simp only [Flt.ixs, List.mem_cons, List.not_mem_nil, or_false] at hj
        rcases hj with rfl | rfl <;> assumption
      · have hw : (l.at (l.la a)).w = false := by
          rw [Bool.eq_false_iff]
          intro hw
          have := (ok.ops _ (List.mem_of_getElem? (at_get A2))).wr hw
          omega
        subst z
        simp only [Flt.is, sureB, hw, A4, B3, hb0, b2, decide_true, Bool.not_false, Bool.and_self, ne_eq, not_false_eq_true]
    · rw [if_neg z]
      rw [fe_fi va z, lb_la vb] at b1
      refine ⟨fun j hj => ?_, ?_⟩
      · simp only [Flt.ixs, List.mem_cons, List.not_mem_nil, or_false] at hj
        rcases hj with rfl | rfl | rfl | rfl <;> assumption
      · have hne : ¬ a = b := by omega
        simp only [Flt.is, sureB, A3, A4, B3, B4, z, hb0, hne, b1, b2, decide_true, Bool.and_self, ne_eq, not_false_eq_true]
end CM
set_option maxHeartbeats 1000000
namespace CM
open PySem PySem.Spec PyProof.Rows L2 DL
end CM
set_option maxHeartbeats 1000000
namespace CM
open PySem PySem.Spec PyProof.Rows L2 DL
end CM
set_option maxHeartbeats 400000
namespace CM
open PySem PySem.Spec PyProof.Rows L2 DL
/-! other logs -/
end CM
set_option maxHeartbeats 2000000
namespace CM
open PySem PySem.Spec PyProof.Rows L2 DL
/-! a drawn log, its stamps within the room -/
section
local macro_rules
  | `(tactic| infer_instance) => `(tactic| (first | with_reducible refine b_op ?_ | with_reducible refine b_cb ?_ | with_reducible refine b_un ?_ | with_reducible refine b_call ?_ | with_reducible refine b_cons ?_ | with_reducible refine b_nil ?_ | with_reducible refine b_C ?_ | with_reducible refine b_tup ?_ | with_reducible refine b_lst ?_ | with_reducible refine b_fz ?_ | with_reducible refine b_nsl ?_ | with_reducible refine b_nslD ?_ | with_reducible refine b_nslF ?_ | with_reducible refine b_nslS ?_ | with_reducible refine b_tst ?_ | with_reducible refine b_bT ?_ | with_reducible refine b_andK ?_ | with_reducible refine b_orK ?_ | with_reducible refine b_not ?_ | with_reducible refine b_eIf ?_ | with_reducible refine b_ok ?_ | with_reducible refine b_rng ?_ | with_reducible refine b_iseq ?_ | with_reducible refine b_yes ?_ | with_reducible refine s_skip ?_ | with_reducible refine s_drop ?_ | with_reducible refine s_ret ?_ | with_reducible refine s_retN ?_ | with_reducible refine s_break ?_ | with_reducible refine s_cont ?_ | with_reducible refine s_if ?_ | with_reducible refine s_asg ?_ | with_reducible refine s_par ?_ | with_reducible refine s_tgt ?_ | with_reducible refine s_for ?_ | with_reducible refine s_loop ?_ | with_reducible refine s_store ?_ | with_reducible refine s_asgsN ?_ | with_reducible refine f_d ?_ | with_reducible refine f_fr ?_ | ((with_reducible apply s_seqN); exact (rfl : _ = [_, _, _, _, _, _, _, _, _, _])) | ((with_reducible apply b_var_d); rfl) | ((with_reducible apply b_var_o); rfl) | ((with_reducible apply b_fzv); rfl) | ((with_reducible apply b_fzvA); rfl) | ((with_reducible apply s_asgV); rfl) | ((with_reducible apply s_asgs); rfl) | ((with_reducible apply s_asgsD); rfl; first | assumption | exact Fr.un | exact Fr.dat | exact Fr.own) | ((with_reducible apply s_asgsO); rfl; first | assumption | exact Fr.un | exact Fr.dat | exact Fr.own) | ((with_reducible apply s_asgF); rfl; first | assumption | exact Fr.un | exact Fr.dat | exact Fr.own) | ((with_reducible apply s_asgFO); rfl; first | assumption | exact Fr.un | exact Fr.dat | exact Fr.own) | ((with_reducible apply s_storeV); rfl) | ((with_reducible apply s_storeK); rfl) | ((with_reducible apply b_methL); rfl) | ((with_reducible apply b_methV); rfl) | ((with_reducible apply b_mkTup); rfl; exact Nat.le_of_ble_eq_true rfl) | ((with_reducible apply b_mkLst); rfl; exact Nat.le_of_ble_eq_true rfl) | ((with_reducible apply f_sl); rfl) | ((with_reducible apply f_sld); rfl) | ((with_reducible apply x_mul); rfl; rfl; (first | omega | decide)) | ((with_reducible apply x_mod); rfl; rfl; decide) | ((with_reducible apply x_div); rfl; rfl; (first | omega | decide)) | ((with_reducible apply b_opV); rfl; rfl; rfl) | ((with_reducible apply b_unV); rfl; rfl) | ((with_reducible apply b_callV); rfl; rfl) | ((with_reducible apply b_callF); rfl; rfl) | ((with_reducible apply b_rng1); (first | omega | decide)) | ((with_reducible apply b_rng2); (first | omega | decide))))
end
end CM
set_option maxHeartbeats 1000000
namespace CM
open PySem PySem.Spec PyProof.Rows L2 DL
theorem s_unlk {lk : Option Nat} {ρ1 : DEnv} {r : RS} {P : Po} (q : r.wp { nx := fun ρ2 => P.nx (unlk lk ρ1 ρ2), rt := fun x ρ2 => P.rt x (unlk lk ρ1 ρ2), bk := fun ρ2 => P.bk (unlk lk ρ1 ρ2), ct := fun ρ2 => P.ct (unlk lk ρ1 ρ2), ex := fun x ρ2 => P.ex x (unlk lk ρ1 ρ2) }) : (unlkS lk ρ1 r).wp P := by
  cases r <;> exact q
/-! lists that can be shown, counted part by part -/
structure GL (k n : Nat) (ds : List D) : Prop where
  good : goodL ds = true
  short : shortL ds = true
  dep : depL ds ≤ k
  cnt : cntL ds ≤ n
theorem GL.mono {k n k' n' : Nat} {ds : List D} (h : GL k n ds) (hk : k ≤ k') (hn : n ≤ n') : GL k' n' ds := ⟨h.good, h.short, Nat.le_trans h.dep hk, Nat.le_trans h.cnt hn⟩
theorem GL.nil {k n : Nat} : GL k n [] := ⟨rfl, rfl, Nat.zero_le _, Nat.zero_le _⟩
theorem GL.cons {k n m : Nat} {d : D} {ds : List D} (h : Gd k n d) (h2 : GL k m ds) : GL k (n + m) (d :: ds) := by
  refine ⟨by simp [goodL, h.good, h2.good], by simp [shortL, h.short, h2.short], ?_, ?_⟩
  · simp only [depL]; exact Nat.max_le.mpr ⟨h.dep, h2.dep⟩
  · simp only [cntL]; exact Nat.add_le_add h.cnt h2.cnt
theorem GL.app {k n m : Nat} : ∀ {ds es : List D}, GL k n ds → GL k m es → GL k (n + m) (ds ++ es)
  | [], es, h, h2 => h2.mono (Nat.le_refl _) (by omega)
  | d :: ds, es, h, h2 => by
    obtain ⟨h1, h3, h4, h5⟩ := h
    simp only [goodL, Bool.and_eq_true] at h1
    simp only [shortL, Bool.and_eq_true] at h3
    simp only [depL] at h4
    simp only [cntL] at h5
    have hd : Gd k d.cnt d := ⟨h1.1, h3.1, Nat.le_trans (Nat.le_max_left _ _) h4, Nat.le_refl _⟩
    have hr : GL k (cntL ds) ds := ⟨h1.2, h3.2, Nat.le_trans (Nat.le_max_right _ _) h4, Nat.le_refl _⟩
    exact (GL.cons hd (hr.app h2)).mono (Nat.le_refl _) (by omega)
theorem GL.lst {k n : Nat} {ds : List D} (h : GL k n ds) : Gd (k + 1) (n + 1) (.lst ds) := ⟨by simpa [D.good] using h.good, by simpa [D.short] using h.short, by simpa [D.dep] using h.dep, by simp only [D.cnt]; have := h.cnt; omega⟩
theorem GL.tup {k n : Nat} {ds : List D} (h : GL k n ds) : Gd (k + 1) (n + 1) (.tup ds) := ⟨by simpa [D.good] using h.good, by simpa [D.short] using h.short, by simpa [D.dep] using h.dep, by simp only [D.cnt]; have := h.cnt; omega⟩
theorem GL.of {k n : Nat} {ds : List D} (h : ∀ x ∈ ds, Gd k n x) : GL k (n * ds.length) ds := by
  induction ds with
  | nil => exact GL.nil
  | cons d ds ih => exact (GL.cons (h d List.mem_cons_self) (ih fun x hx => h x (List.mem_cons_of_mem _ hx))).mono (Nat.le_refl _) (by rw [List.length_cons, Nat.mul_succ]; omega)
theorem GL.flat {α : Type} {k n : Nat} {as : List α} {f : α → List D} (h : ∀ a ∈ as, GL k n (f a)) : GL k (n * as.length) (as.flatMap f) := by
  induction as with
  | nil => exact GL.nil
  | cons a as ih =>
    rw [List.flatMap_cons]
    exact ((h a List.mem_cons_self).app (ih fun x hx => h x (List.mem_cons_of_mem _ hx))).mono (Nat.le_refl _) (by rw [List.length_cons, Nat.mul_succ]; omega)
theorem nat_gd {i : Nat} (h : i ≤ 100000) : Gd 0 1 (.int (i : Nat)) := Gd.nat (by omega) (by omega)
theorem word_gd (x : Str) (h : (D.str x).good = true ∧ (D.str x).short = true) : Gd 0 1 (.str x) := ⟨h.1, h.2, Nat.le_refl _, Nat.le_refl _⟩
theorem Flt.gd {f : Flt} {n : Nat} (h : f.In n) (hn : n ≤ 100000) : Gd 1 6 f.d := by
  have b : ∀ i ∈ f.ixs, Gd 0 1 (.int (i : Nat)) := fun i hi => nat_gd (by have := h i hi; omega)
  cases f with
  | unw r => exact (GL.tup (GL.cons (word_gd "unwritten" ⟨by decide +kernel, by decide +kernel⟩) (GL.cons (b r (by simp [Flt.ixs])) (GL.nil (n := 0))))).mono (by decide) (by decide)
  | early r w => exact (GL.tup (GL.cons (word_gd "early" ⟨by decide +kernel, by decide +kernel⟩) (GL.cons (b r (by simp [Flt.ixs])) (GL.cons (b w (by simp [Flt.ixs])) (GL.nil (n := 0)))))).mono (by decide) (by decide)
  | crossed a c d e => exact (GL.tup (GL.cons (word_gd "crossed" ⟨by decide +kernel, by decide +kernel⟩) (GL.cons (b a (by simp [Flt.ixs])) (GL.cons (b c (by simp [Flt.ixs])) (GL.cons (b d (by simp [Flt.ixs])) (GL.cons (b e (by simp [Flt.ixs])) (GL.nil (n := 0)))))))).mono (by decide) (by decide)
  | late c d => exact (GL.tup (GL.cons (word_gd "late" ⟨by decide +kernel, by decide +kernel⟩) (GL.cons (b c (by simp [Flt.ixs])) (GL.cons (b d (by simp [Flt.ixs])) (GL.nil (n := 0)))))).mono (by decide) (by decide)
end CM
set_option maxHeartbeats 2000000
namespace CM
open PySem PySem.Spec PyProof.Rows L2 DL
end CM
set_option maxHeartbeats 1000000
namespace CM
open PySem PySem.Spec PyProof.Rows L2 DL
/-! a fault that is one at all is so by one that is given, whose bound is not less -/
def Flt.bi (l : Log) : Flt → Int
  | .unw _ => 0
  | .early r w => (l.at w).b - (l.at r).e
  | .crossed a b c d => min ((l.at b).b - (l.at a).e) ((l.at d).b - (l.at c).e)
  | .late c d => (l.at d).b - (l.at c).e
def Flt.isU : Flt → Bool
  | .unw _ => true
  | _ => false
theorem pairs_in {l : Log} {t a b : Int} : ∀ {vs : List Int}, vs.Pairwise (· < ·) → a ∈ vs → b ∈ vs → a < b → l.bef t a b = true → l.bef t b a = true → pairF l a b ∈ pairsOf l t vs
  | [], _, h, _, _, _, _ => by simp at h
  | v :: vs, hp, ha, hb, hab, h1, h2 => by
    obtain ⟨p1, p2⟩ := List.pairwise_cons.mp hp
    show pairF l a b ∈ (vs.filter fun b => l.bef t v b && l.bef t b v).map (pairF l v) ++ pairsOf l t vs
    rw [List.mem_append]
    rcases List.mem_cons.mp ha with ea | ma
    · subst ea
      rcases List.mem_cons.mp hb with eb | mb
      · omega
      · exact .inl (List.mem_map.mpr ⟨b, List.mem_filter.mpr ⟨mb, by rw [h1, h2]; rfl⟩, rfl⟩)
    · rcases List.mem_cons.mp hb with eb | mb
      · have := p1 a ma; omega
      · exact .inr (pairs_in p2 ma mb hab h1 h2)
theorem fe_le {l : Log} {i : Nat} {v : Int} (ok : l.Ok) (hi : i < l.length) (e : (l.at i).v = v) : l.fe v ≤ (l.at i).e := by
  by_cases h0 : v = 0
  · unfold Log.fe LOWEST
    rw [if_pos h0]
    have o := ok.ops _ (List.mem_of_getElem? (at_get hi))
    have := o.b; have := o.be
    omega
  · have hv : v ∈ l.vals := at_v.mpr ⟨i, hi, e⟩
    rw [fe_fi hv h0]
    exact (fi_ok hv).fm i hi e
theorem le_lb {l : Log} {i : Nat} {v : Int} (hi : i < l.length) (e : (l.at i).v = v) : (l.at i).b ≤ l.lb v := by
  have hv : v ∈ l.vals := at_v.mpr ⟨i, hi, e⟩
  rw [lb_la hv]
  exact (fi_ok hv).am i hi e
theorem somes_of {l : Log} {v : Int} (h : v ∈ l.vals) (hw : v = 0 ∨ v ∈ l.wr) : v ∈ l.somes := by
  unfold Log.somes
  refine List.mem_filter.mpr ⟨h, ?_⟩
  rcases hw with rfl | hw
  · simp
  · simp [hw]
theorem bef_of {l : Log} {t a b : Int} (hab : a ≠ b) (h : l.fe a + t < l.lb b) : l.bef t a b = true := bef_iff.mpr ⟨hab, h⟩
/-- the pair of two values, the lesser one first -/
theorem pair_bi {l : Log} {t a b : Int} (ok : l.Ok) (ht : t ≤ 10000000000000000) (ha : a ∈ l.somes) (hb : b ∈ l.somes) (hab : a ≠ b) (h1 : l.fe a + t < l.lb b) (h2 : l.fe b + t < l.lb a) :
    ∃ g ∈ l.flts t, g.isU = false ∧ (a ≠ 0 → b ≠ 0 → g.bi l = min (l.lb b - l.fe a) (l.lb a - l.fe b)) ∧ (a = 0 → g.bi l = l.lb a - l.fe b) ∧ (b = 0 → g.bi l = l.lb b - l.fe a) := by
  have key : ∀ a b : Int, a ∈ l.somes → b ∈ l.somes → a < b → l.fe a + t < l.lb b → l.fe b + t < l.lb a → ∃ g ∈ l.flts t, g.isU = false ∧ (a ≠ 0 → g.bi l = min (l.lb b - l.fe a) (l.lb a - l.fe b)) ∧ (a = 0 → g.bi l = l.lb a - l.fe b) := fun a b ha hb hab h1 h2 => by
    have va := somes_mem ha
    have vb := somes_mem hb
    have b0 : b ≠ 0 := by have := (vals_bd ok va).1; omega
    refine ⟨pairF l a b, List.mem_append_right _ (pairs_in ((vals_pw l).filter _) ha hb hab (bef_of (by omega) h1) (bef_of (by omega) h2)), ?_, fun a0 => ?_, fun a0 => ?_⟩
    · unfold pairF; split <;> rfl
    · unfold pairF
      rw [if_neg a0, fe_fi va a0, fe_fi vb b0, lb_la va, lb_la vb]
      rfl
    · unfold pairF
      rw [if_pos a0, fe_fi vb b0, lb_la va]
      rfl
  have va := (vals_bd ok (somes_mem ha)).1
  have vb := (vals_bd ok (somes_mem hb)).1
  rcases Int.lt_or_gt_of_ne hab with z | z
  · obtain ⟨g, hg, hu, h3, h4⟩ := key a b ha hb z h1 h2
    exact ⟨g, hg, hu, fun a0 _ => h3 a0, h4, fun b0 => by omega⟩
  · obtain ⟨g, hg, hu, h3, h4⟩ := key b a hb ha z h2 h1
    exact ⟨g, hg, hu, fun _ b0 => by rw [h3 b0, Int.min_comm], fun a0 => by omega, h4⟩
theorem dom {l : Log} {t : Int} {f : Flt} (ok : l.Ok) (ht : t ≤ 10000000000000000) (hf : f.In l.length) (h : f.is l t = true) (hw : ∀ i ∈ f.ixs, (l.at i).v = 0 ∨ (l.at i).v ∈ l.wr) :
    f.isU = false ∧ ∃ g ∈ l.flts t, g.isU = false ∧ f.bi l ≤ g.bi l := by
  cases f with
  | unw r =>
    simp only [Flt.is, Bool.and_eq_true, Bool.not_eq_true', decide_eq_true_eq, decide_eq_false_iff_not] at h
    rcases hw r (by simp [Flt.ixs]) with z | z
    · exact absurd z h.1.2
    · exact absurd z h.2
  | early r w =>
    simp only [Flt.is, sureB, Bool.and_eq_true, Bool.not_eq_true', decide_eq_true_eq] at h
    obtain ⟨⟨⟨h1, h2⟩, h3⟩, h4⟩ := h
    have hr := hf r (by simp [Flt.ixs])
    have hwl := hf w (by simp [Flt.ixs])
    have wx : l.wix (l.at r).v = w := by rw [h3]; exact wix_of ok.nd (at_get hwl) h2
    have o := (ok.ops _ (List.mem_of_getElem? (at_get hwl))).wr h2
    refine ⟨rfl, .early r w, List.mem_append_left _ (List.mem_append_right _ (List.mem_map.mpr ⟨r, mem_early.mpr ⟨hr, h1, by omega, ?_, by rw [wx]; exact h4⟩, by rw [wx]⟩)), rfl, Int.le_refl _⟩
    exact mem_wr.mpr ⟨l.at w, List.mem_of_getElem? (at_get hwl), h2, h3.symm⟩
  | late c d =>
    simp only [Flt.is, sureB, Bool.and_eq_true, Bool.not_eq_true', decide_eq_true_eq] at h
    obtain ⟨⟨⟨h1, h2⟩, h3⟩, h4⟩ := h
    have hc := hf c (by simp [Flt.ixs])
    have hd := hf d (by simp [Flt.ixs])
    have vc : (l.at c).v ∈ l.vals := at_v.mpr ⟨c, hc, rfl⟩
    have v0 : (0 : Int) ∈ l.vals := at_v.mpr ⟨d, hd, h3⟩
    have f1 := fe_le ok hc rfl
    have f2 := le_lb hd h3
    have f3 := le_lb hc rfl
    have oc := ok.ops _ (List.mem_of_getElem? (at_get hc))
    have f0 : l.fe 0 = -1000000000000000000 := by unfold Log.fe; rw [if_pos rfl]; rfl
    have ocb := oc.b
    obtain ⟨g, hg, hu, _, g2, _⟩ := pair_bi (a := 0) (b := (l.at c).v) ok ht (somes_of v0 (.inl rfl)) (somes_of vc (.inr ((hw c (by simp [Flt.ixs])).resolve_left h1))) (by omega) (by omega) (by omega)
    refine ⟨rfl, g, hg, hu, ?_⟩
    rw [g2 rfl]
    show (l.at d).b - (l.at c).e ≤ _
    omega
  | crossed a b c d =>
    simp only [Flt.is, sureB, Bool.and_eq_true, decide_eq_true_eq] at h
    obtain ⟨⟨⟨⟨⟨⟨h1, h2⟩, h3⟩, h4⟩, h5⟩, h6⟩, h7⟩ := h
    have ha := hf a (by simp [Flt.ixs])
    have hb := hf b (by simp [Flt.ixs])
    have hc := hf c (by simp [Flt.ixs])
    have hd := hf d (by simp [Flt.ixs])
    have va : (l.at a).v ∈ l.vals := at_v.mpr ⟨a, ha, rfl⟩
    have vb : (l.at b).v ∈ l.vals := at_v.mpr ⟨b, hb, rfl⟩
    have f1 := fe_le ok ha rfl
    have f2 := le_lb hb rfl
    have f3 := fe_le ok hc h2.symm
    have f4 := le_lb hd h1.symm
    obtain ⟨g, hg, hu, g1, _, _⟩ := pair_bi (a := (l.at a).v) (b := (l.at b).v) ok ht (somes_of va (.inr ((hw a (by simp [Flt.ixs])).resolve_left h4))) (somes_of vb (.inr ((hw b (by simp [Flt.ixs])).resolve_left h5))) h3 (by omega) (by omega)
    refine ⟨rfl, g, hg, hu, ?_⟩
    rw [g1 h4 h5]
    show min ((l.at b).b - (l.at a).e) ((l.at d).b - (l.at c).e) ≤ _
    omega
end CM
set_option maxHeartbeats 1000000
namespace CM
open PySem PySem.Spec PyProof.Rows L2 DL
/-! dict(pairs), the keys whole numbers -/
theorem s_as {ρ ρ' : DEnv} {f : SM} {P : Po} (e : ρ = ρ') (q : (f ρ').wp P) : (f ρ).wp P := by subst e; exact q
/-! first_fault, can_explain -/
def Log.fst (l : Log) (t : Int) : D := match l.flts t with
  | [] => .non
  | f :: _ => f.d
end CM
set_option maxHeartbeats 1000000
namespace CM
open PySem PySem.Spec PyProof.Rows L2 DL
/-! the gaps of a log: by how much it is amiss; the least tolerance -/
/-! the law's own -/
/-! gaps -/
end CM
set_option maxHeartbeats 1000000
namespace CM
open PySem PySem.Spec PyProof.Rows L2 DL
theorem Log.Ok.perm {l m : Log} (ok : m.Ok) (p : l.Perm m) : l.Ok := ⟨fun o ho => ok.ops o (p.mem_iff.mp ho), (((p.filter _).map _).nodup_iff).mpr ok.nd, by rw [p.length_eq]; exact ok.len⟩
end CM
set_option maxHeartbeats 1000000
namespace CM
open PySem PySem.Spec PyProof.Rows L2 DL
/-! the faults within a tolerance are those within 0 whose bound is greater -/
theorem x_neSame {ρ : DEnv} {x y : Val} {Q : Val → DEnv → Prop} {X : Ex → DEnv → Prop} {a b : D} {k n : Nat} (h1 : x.peek ρ = some a) (h2 : y.peek ρ = some b) (g : Gd k n a) (hk : k ≤ 64) (e : b = a) (q : Q (.d (.bl false)) ρ) : (opV neV' x y ρ).wp Q X := by
  subst e
  exact x_ne h1 h2 (g.eq g hk hk) (by rw [eqG_refl g.good]; exact q)
end CM
set_option maxHeartbeats 1000000
namespace CM
open PySem PySem.Spec PyProof.Rows L2 DL
/-! the law's own marks and faults -/
end CM
set_option maxHeartbeats 1000000
namespace CM
open PySem PySem.Spec PyProof.Rows L2 DL
/-! orders that explain a log -/
def surB (l : Log) (t : Int) (i j : Nat) : Bool := decide ((l.at i).e + t < (l.at j).b)
def nxt (l : Log) (v : Int) (i : Nat) : Int := if (l.at i).w then (l.at i).v else v
/-- each read has the value of the last write ahead of it -/
def rrB (l : Log) : Int → List Nat → Bool
  | _, [] => true
  | v, i :: is => decide ((l.at i).v = nxt l v i) && rrB l (nxt l v i) is
/-- none stands ahead of one that is surely before it -/
def pwB (l : Log) (t : Int) : List Nat → Bool
  | [] => true
  | i :: is => (!is.any fun j => surB l t j i) && pwB l t is
structure Expl (l : Log) (t : Int) (os : List Nat) : Prop where
  perm : os.Perm (List.range l.length)
  rr : rrB l 0 os = true
  pw : pwB l t os = true
theorem pwB_iff {l : Log} {t : Int} : ∀ {os : List Nat}, pwB l t os = true ↔ os.Pairwise fun i j => ¬ (l.at j).e + t < (l.at i).b
  | [] => by simp [pwB]
  | i :: is => by
    unfold pwB
    rw [Bool.and_eq_true, pwB_iff, List.pairwise_cons]
    refine and_congr_left fun _ => ?_
    simp [surB]
/-- what is seen at a place: the write that is last ahead of it, and the value since then -/
theorem rr_split {l : Log} : ∀ {as : List Nat} {i : Nat} {bs : List Nat} {v : Int}, rrB l v (as ++ i :: bs) = true →
    ((l.at i).v = v ∧ ∀ j ∈ as ++ [i], (l.at j).v = v ∧ (l.at j).w = false) ∨ ∃ cs k ds, as ++ [i] = cs ++ k :: ds ∧ (l.at k).w = true ∧ ∀ j ∈ k :: ds, (l.at j).v = (l.at i).v
  | [], i, bs, v, h => by
    have h : (decide ((l.at i).v = nxt l v i) && rrB l (nxt l v i) bs) = true := h
    rw [Bool.and_eq_true, decide_eq_true_eq] at h
    by_cases hw : (l.at i).w = true
    · exact .inr ⟨[], i, [], rfl, hw, fun j hj => by rw [List.mem_singleton.mp hj]⟩
    · have e : (l.at i).v = v := by rw [h.1]; unfold nxt; rw [if_neg hw]
      refine .inl ⟨e, fun j hj => ?_⟩
      rw [List.mem_singleton.mp hj]
      exact ⟨e, by simpa using hw⟩
  | a :: as, i, bs, v, h => by
    have h : (decide ((l.at a).v = nxt l v a) && rrB l (nxt l v a) (as ++ i :: bs)) = true := h
    rw [Bool.and_eq_true, decide_eq_true_eq] at h
    rcases rr_split h.2 with ⟨h1, h2⟩ | ⟨cs, k, ds, h1, h2, h3⟩
    · by_cases hw : (l.at a).w = true
      · refine .inr ⟨[], a, as ++ [i], rfl, hw, fun j hj => ?_⟩
        rcases List.mem_cons.mp hj with e | hj
        · rw [e, h1, h.1]
        · rw [(h2 j hj).1, h1]
      · have e : nxt l v a = v := by unfold nxt; rw [if_neg hw]
        rw [e] at h1 h2 h
        refine .inl ⟨h1, fun j hj => ?_⟩
        rcases List.mem_cons.mp hj with z | hj
        · rw [z]; exact ⟨h.1, by simpa using hw⟩
        · exact h2 j hj
    · exact .inr ⟨a :: cs, k, ds, by rw [List.cons_append, h1]; rfl, h2, h3⟩
theorem Expl.mem {l : Log} {t : Int} {os : List Nat} (x : Expl l t os) {i : Nat} : i ∈ os ↔ i < l.length := by
  rw [x.perm.mem_iff, List.mem_range]
theorem Expl.nd {l : Log} {t : Int} {os : List Nat} (x : Expl l t os) : os.Nodup := x.perm.nodup_iff.mpr List.nodup_range
theorem Expl.at {l : Log} {t : Int} {os : List Nat} (x : Expl l t os) {i : Nat} (h : i < l.length) : ∃ as bs, os = as ++ i :: bs := List.append_of_mem (x.mem.mpr h)
/-- i stands ahead of j -/
def Ahead (os : List Nat) (i j : Nat) : Prop := ∃ as bs cs, os = as ++ i :: bs ++ j :: cs
theorem ahead_sure {l : Log} {t : Int} {os : List Nat} (x : Expl l t os) {i j : Nat} (hi : i < l.length) (hj : j < l.length) (hij : i ≠ j) (s : (l.at i).e + t < (l.at j).b) : Ahead os i j := by
  obtain ⟨as, bs, e⟩ := x.at hi
  have hjm : j ∈ as ++ i :: bs := by rw [← e]; exact x.mem.mpr hj
  rcases List.mem_append.mp hjm with h | h
  · obtain ⟨cs, ds, e2⟩ := List.append_of_mem h
    have pw := pwB_iff.mp x.pw
    rw [e, e2, List.append_assoc, List.pairwise_append] at pw
    have := (List.pairwise_cons.mp pw.2.1).1 i (by simp)
    exact absurd s this
  · rcases List.mem_cons.mp h with h | h
    · exact absurd h.symm hij
    · obtain ⟨cs, ds, e2⟩ := List.append_of_mem h
      exact ⟨as, cs, ds, by rw [e, e2]; simp⟩
theorem idx_lt {i j : Nat} {as bs cs : List Nat} (nd : (as ++ i :: bs ++ j :: cs).Nodup) : List.idxOf i (as ++ i :: bs ++ j :: cs) < List.idxOf j (as ++ i :: bs ++ j :: cs) := by
  have n2 : j ∉ as ++ i :: bs := fun z => by
    rw [List.nodup_append] at nd
    exact nd.2.2 j z j List.mem_cons_self rfl
  have e1 : List.idxOf j (as ++ i :: bs ++ j :: cs) = List.idxOf j (j :: cs) + (as ++ i :: bs).length := by rw [List.idxOf_append, if_neg n2]
  have e2 : List.idxOf i (as ++ i :: bs ++ j :: cs) = List.idxOf i (as ++ i :: bs) := by rw [List.idxOf_append, if_pos (by simp)]
  have e3 : List.idxOf i (as ++ i :: bs) < (as ++ i :: bs).length := List.idxOf_lt_length_of_mem (by simp)
  omega
theorem ahead_idx {os : List Nat} (nd : os.Nodup) {i j : Nat} (a : Ahead os i j) : os.idxOf i < os.idxOf j := by
  obtain ⟨a1, a2, a3, e1⟩ := a
  rw [e1] at nd ⊢
  exact idx_lt nd
/-- the write of a value, and what stands between it and an operation of the value -/
theorem Expl.back {l : Log} {t : Int} {os : List Nat} (x : Expl l t os) {i : Nat} (hi : i < l.length) (h0 : (l.at i).v ≠ 0) :
    ∃ k, k < l.length ∧ (l.at k).w = true ∧ (l.at k).v = (l.at i).v ∧ os.idxOf k ≤ os.idxOf i ∧ ∀ j, j < l.length → os.idxOf k ≤ os.idxOf j → os.idxOf j ≤ os.idxOf i → (l.at j).v = (l.at i).v := by
  obtain ⟨as, bs, e⟩ := x.at hi
  have rr := x.rr
  rw [e] at rr
  rcases rr_split rr with ⟨h1, _⟩ | ⟨cs, k, ds, e2, hw, hb⟩
  · exact absurd h1 h0
  · have e3 : os = cs ++ (k :: ds) ++ bs := by
      have : as ++ i :: bs = (as ++ [i]) ++ bs := by simp
      rw [e, this, e2]
    have hk : k ∈ os := by rw [e3]; simp
    have nd := x.nd
    have len : as.length + 1 = cs.length + ds.length + 1 := by have := congrArg List.length e2; simp at this; omega
    have n1 : i ∉ as := fun z => by
      rw [e, List.nodup_append] at nd
      exact nd.2.2 i z i List.mem_cons_self rfl
    have n2 : k ∉ cs := fun z => by
      rw [e3, List.append_assoc, List.nodup_append] at nd
      exact nd.2.2 k z k (by simp) rfl
    have pi : os.idxOf i = as.length := by rw [e, List.idxOf_append, if_neg n1]; simp
    have pk : os.idxOf k = cs.length := by rw [e3, List.append_assoc, List.idxOf_append, if_neg n2]; simp
    refine ⟨k, x.mem.mp hk, hw, hb k List.mem_cons_self, by omega, fun j hj h1 h2 => ?_⟩
    have hjm := x.mem.mpr hj
    have hjl := List.idxOf_lt_length_of_mem hjm
    have gj : os[os.idxOf j]? = some j := by rw [List.getElem?_eq_getElem hjl, List.getElem_idxOf]
    generalize os.idxOf j = p at h1 h2 gj hjl
    rw [e3, List.append_assoc, List.getElem?_append_right (by omega), List.getElem?_append_left (by simp; omega)] at gj
    exact hb j (List.mem_of_getElem? gj)
theorem Expl.zero {l : Log} {t : Int} {os : List Nat} (ok : l.Ok) (x : Expl l t os) {i : Nat} (hi : i < l.length) (h0 : (l.at i).v = 0) : ∀ j, j < l.length → os.idxOf j ≤ os.idxOf i → (l.at j).v = 0 := by
  obtain ⟨as, bs, e⟩ := x.at hi
  have rr := x.rr
  rw [e] at rr
  rcases rr_split rr with ⟨_, h2⟩ | ⟨cs, k, ds, e2, hw, hb⟩
  · intro j hj hij
    have nd := x.nd
    have n1 : i ∉ as := fun z => by
      rw [e, List.nodup_append] at nd
      exact nd.2.2 i z i List.mem_cons_self rfl
    have pi : os.idxOf i = as.length := by rw [e, List.idxOf_append, if_neg n1]; simp
    have hjl := List.idxOf_lt_length_of_mem (x.mem.mpr hj)
    have gj : os[os.idxOf j]? = some j := by rw [List.getElem?_eq_getElem hjl, List.getElem_idxOf]
    have e3 : os = (as ++ [i]) ++ bs := by rw [e]; simp
    generalize os.idxOf j = p at hij gj hjl
    rw [e3, List.getElem?_append_left (by simp; omega)] at gj
    exact (h2 j (List.mem_of_getElem? gj)).1
  · have hk : k ∈ as ++ [i] := by rw [e2]; simp
    have hkl : k < l.length := x.mem.mp (by rw [e]; simp at hk ⊢; rcases hk with h | h; exact .inl h; exact .inr (.inl h))
    have := (ok.ops _ (List.mem_of_getElem? (at_get hkl))).wr hw
    have := hb k List.mem_cons_self
    omega
/-- an order that explains the log: no fault -/
theorem Expl.none {l : Log} {t : Int} {os : List Nat} (ok : l.Ok) (h0 : 0 ≤ t) (x : Expl l t os) {f : Flt} (hf : f.In l.length) : f.is l t = false := by
  have nd := x.nd
  have ne : ∀ {i j : Nat}, i < l.length → (l.at i).e + t < (l.at j).b → i ≠ j := fun {i j} hi s e => by
    subst e
    have := (ok.ops _ (List.mem_of_getElem? (at_get hi))).be
    omega
  have wu : ∀ {i j : Nat}, i < l.length → j < l.length → (l.at i).w = true → (l.at j).w = true → (l.at i).v = (l.at j).v → i = j := fun {i j} hi hj h1 h2 e => wr_inj ok.nd (at_get hi) (at_get hj) h1 h2 e
  rw [Bool.eq_false_iff]
  intro h
  cases f with
  | unw r =>
    have hr := hf r (by simp [Flt.ixs])
    simp only [Flt.is, Bool.and_eq_true, Bool.not_eq_true', decide_eq_true_eq, decide_eq_false_iff_not] at h
    obtain ⟨k, hk, hw, hv, _⟩ := x.back hr h.1.2
    exact h.2 (mem_wr.mpr ⟨l.at k, List.mem_of_getElem? (at_get hk), hw, hv⟩)
  | early r w =>
    have hr := hf r (by simp [Flt.ixs])
    have hw := hf w (by simp [Flt.ixs])
    simp only [Flt.is, sureB, Bool.and_eq_true, Bool.not_eq_true', decide_eq_true_eq] at h
    obtain ⟨⟨⟨h1, h2⟩, h3⟩, h4⟩ := h
    have := (ok.ops _ (List.mem_of_getElem? (at_get hw))).wr h2
    obtain ⟨k, hk, kw, kv, le, _⟩ := x.back hr (by omega)
    have := wu hk hw kw h2 (by omega)
    subst this
    have := ahead_idx nd (ahead_sure x hr hk (ne hr h4) h4)
    omega
  | late c d =>
    have hc := hf c (by simp [Flt.ixs])
    have hd := hf d (by simp [Flt.ixs])
    simp only [Flt.is, sureB, Bool.and_eq_true, Bool.not_eq_true', decide_eq_true_eq] at h
    obtain ⟨⟨⟨h1, h2⟩, h3⟩, h4⟩ := h
    have a := ahead_idx nd (ahead_sure x hc hd (ne hc h4) h4)
    exact h1 (x.zero ok hd h3 c hc (by omega))
  | crossed a b c d =>
    have ha := hf a (by simp [Flt.ixs])
    have hb := hf b (by simp [Flt.ixs])
    have hc := hf c (by simp [Flt.ixs])
    have hd := hf d (by simp [Flt.ixs])
    simp only [Flt.is, sureB, Bool.and_eq_true, decide_eq_true_eq] at h
    obtain ⟨⟨⟨⟨⟨⟨h1, h2⟩, h3⟩, h4⟩, h5⟩, h6⟩, h7⟩ := h
    have p1 := ahead_idx nd (ahead_sure x ha hb (ne ha h6) h6)
    have p2 := ahead_idx nd (ahead_sure x hc hd (ne hc h7) h7)
    obtain ⟨ka, ka1, ka2, ka3, ka4, ka5⟩ := x.back ha h4
    obtain ⟨kb, kb1, kb2, kb3, kb4, kb5⟩ := x.back hb h5
    obtain ⟨kc, kc1, kc2, kc3, kc4, kc5⟩ := x.back hc (by omega)
    obtain ⟨kd, kd1, kd2, kd3, kd4, kd5⟩ := x.back hd (by omega)
    have e1 := wu ka1 kd1 ka2 kd2 (by omega)
    have e2 := wu kb1 kc1 kb2 kc2 (by omega)
    subst e1
    subst e2
    rcases Nat.lt_or_ge (os.idxOf ka) (os.idxOf kb) with z | z
    · have q := kd5 kb kb1 (by omega) (by omega)
      omega
    · have q := kb5 ka ka1 (by omega) (by omega)
      omega
end CM
set_option maxHeartbeats 1000000
namespace CM
open PySem PySem.Spec PyProof.Rows L2 DL
/-! without a fault there is an order -/
structure Blk (l : Log) (t : Int) (v : Int) (os : List Nat) : Prop where
  nd : os.Nodup
  mem : ∀ i, i ∈ os ↔ i < l.length ∧ (l.at i).v = v
  wf : v ∈ l.wr → ∃ is, os = l.wix v :: is
  pw : os.Pairwise fun i j => ¬ (l.at j).e + t < (l.at i).b
/-- operations of the value that is there -/
theorem rrB_same {l : Log} {v : Int} : ∀ {as : List Nat}, (∀ i ∈ as, (l.at i).v = v) → rrB l v as = true
  | [], _ => rfl
  | a :: as, h => by
    have e := h a List.mem_cons_self
    have e2 : nxt l v a = v := by unfold nxt; split <;> simp [e]
    show (decide ((l.at a).v = nxt l v a) && rrB l (nxt l v a) as) = true
    rw [e2, Bool.and_eq_true, decide_eq_true_eq]
    exact ⟨e, rrB_same fun i hi => h i (List.mem_cons_of_mem _ hi)⟩
theorem Blk.rr {l : Log} {t v s : Int} {os : List Nat} (b : Blk l t v os) (h : v ∈ l.wr ∨ s = v) : rrB l s os = true := by
  have hv : ∀ i ∈ os, (l.at i).v = v := fun i hi => ((b.mem i).mp hi).2
  rcases h with h | h
  · obtain ⟨is, e⟩ := b.wf h
    subst e
    obtain ⟨_, w1, w2⟩ := wix_at h
    have e2 : nxt l s (l.wix v) = v := by unfold nxt; rw [if_pos w1, w2]
    show (decide ((l.at (l.wix v)).v = nxt l s (l.wix v)) && rrB l (nxt l s (l.wix v)) is) = true
    rw [e2, Bool.and_eq_true, decide_eq_true_eq]
    exact ⟨w2, rrB_same fun i hi => hv i (List.mem_cons_of_mem _ hi)⟩
  · rw [h]; exact rrB_same hv
/-! there is a row -/
end CM
set_option maxHeartbeats 1000000
namespace CM
open PySem PySem.Spec PyProof.Rows L2 DL
/-! the program's and the law's look at orders -/
abbrev ordD (os : List Nat) : D := .tup (natsD os)
/-! the law's own look -/
theorem lsure_wp {l : Log} {t : Int} {i j : Nat} {Q : Val → DEnv → Prop} {X : Ex → DEnv → Prop} (hi : i < l.length) (hj : j < l.length) (q : Q (.d (.bl (surB l t i j))) [.d l.d, .d (.int t), .d (.int (i : Nat)), .d (.int (j : Nat))]) : (s_l_is_sure [.d l.d, .d (.int t), .d (.int (i : Nat)), .d (.int (j : Nat))]).wp Q X := by
  unfold s_l_is_sure e_l_is_sure; with_reducible refine f_fnW (by with_unfolding_all exact rfl) ?_
  (repeat (case orE => (fail "WU4"); (with_reducible refine b_idxK (at_get hi) ?_); (with_reducible refine b_idxK (at_get hj) ?_)))
  exact q
theorem cut_nats {os : List Nat} {k : Nat} : DL.cutD (natsD os) (some (((k : Nat) : Int) + 1)) none = natsD (os.drop (k + 1)) := by
  rw [show ((k : Nat) : Int) + 1 = ((k + 1 : Nat) : Int) by omega, cut_from]
  unfold natsD
  rw [List.map_drop]
theorem c1f_wp {l : Log} {t : Int} {os : List Nat} {k i : Nat} {s3 s6 : DL.Slot} {Q : Val → DEnv → Prop} {X : Ex → DEnv → Prop} (hl : l.length ≤ 400) (hlen : os.length ≤ 400) (ho : ∀ i ∈ os, i < l.length) (hi : i < l.length) (f6 : Fr s6)
    (q : Q (.fr (.lst ((os.drop (k + 1)).map fun j => D.bl (surB l t j i)))) [.d l.d, .d (.int t), .d (ordD os), s3, .d (.int (k : Nat)), .d (.int (i : Nat)), s6]) :
    (c1_l_fits [.d l.d, .d (.int t), .d (ordD os), s3, .d (.int (k : Nat)), .d (.int (i : Nat)), s6]).wp Q X := by
  unfold c1_l_fits
  repeat fail "WU7"
  rw [cut_nats]
  have e : (natsD (os.drop (k + 1)), (none : Option Nat)).fst = (os.drop (k + 1)).map fun i : Nat => D.int (i : Nat) := rfl
  have hd : (os.drop (k + 1)).length ≤ 400 := by rw [List.length_drop]; omega
  rw [e]
  (repeat (case orE => (fail "WU7"); (with_reducible refine lsure_wp (ho _ (List.mem_of_mem_drop (by assumption))) hi ?_)))
  exact q
/-! all orders -/
end CM
set_option maxHeartbeats 1000000
namespace CM
open PySem PySem.Spec PyProof.Rows L2 DL
/-! moments along an order -/
def nb (l : Log) : Option Int → Nat → Int
  | none, i => (l.at i).b
  | some m, i => max m (l.at i).b
end CM
set_option maxHeartbeats 1000000
namespace CM
open PySem PySem.Spec PyProof.Rows L2 DL
/-! a log with a hidden order -/
/-- each read has the value that stands -/
def Right : Int → Log → Prop
  | _, [] => True
  | v, o :: os => (o.w = true ∨ o.v = v) ∧ Right o.v os
def lastV : Int → Log → Int
  | v, [] => v
  | _, o :: os => lastV o.v os
theorem lastV_app {o : Op} : ∀ {l : Log} {v : Int}, lastV v (l ++ [o]) = o.v
  | [], _ => rfl
  | a :: l, _ => lastV_app (l := l)
theorem Right.app {o : Op} : ∀ {l : Log} {v : Int}, Right v l → (o.w = true ∨ o.v = lastV v l) → Right v (l ++ [o])
  | [], _, _, h => ⟨h, trivial⟩
  | a :: l, _, ⟨h1, h2⟩, h => ⟨h1, Right.app (l := l) h2 h⟩
structure Hid (off w t : Int) (l : Log) : Prop where
  rg : Right 0 l
  lv : lastV 0 l = w
  pw : l.Pairwise fun a b => a.b ≤ b.e + 2 * off
  tb : ∀ o ∈ l, o.b ≤ t + off
theorem Hid.nil {off t : Int} : Hid off 0 t [] := ⟨trivial, rfl, List.Pairwise.nil, fun o h => nomatch h⟩
theorem Hid.app {off w t t' : Int} {l : Log} {o : Op} (h : Hid off w t l) (ht : t ≤ t') (hr : o.w = true ∨ o.v = w) (hb : o.b ≤ t' + off) (he : t' - off ≤ o.e) : Hid off o.v t' (l ++ [o]) := by
  refine ⟨h.rg.app (by rw [h.lv]; exact hr), lastV_app, ?_, fun x hx => ?_⟩
  · rw [List.pairwise_append]
    refine ⟨h.pw, List.pairwise_singleton _ _, fun a ha b hb => ?_⟩
    rw [List.mem_singleton.mp hb]
    have := h.tb a ha
    omega
  · rcases List.mem_append.mp hx with hx | hx
    · have := h.tb x hx; omega
    · rw [List.mem_singleton.mp hx]; exact hb
theorem rr_drop {l : Log} : ∀ {os : Log} {k : Nat} {v : Int}, l.drop k = os → Right v os → rrB l v ((List.range os.length).map (k + ·)) = true
  | [], _, _, _, _ => rfl
  | o :: os, k, v, h, hr => by
    have hk : l[k]? = some o := by
      have := congrArg List.head? h
      rwa [List.head?_drop] at this
    have e := at_of hk
    have h2 : l.drop (k + 1) = os := by rw [← List.drop_drop, h]; rfl
    have ih := rr_drop h2 hr.2
    rw [List.length_cons, List.range_succ_eq_map, List.map_cons, List.map_map]
    have em : (List.range os.length).map ((k + ·) ∘ Nat.succ) = (List.range os.length).map (k + 1 + ·) := List.map_congr_left fun j _ => by show k + (j + 1) = k + 1 + j; omega
    rw [em]
    show (decide ((l.at (k + 0)).v = nxt l v (k + 0)) && rrB l (nxt l v (k + 0)) _) = true
    rw [Nat.add_zero]
    have en : nxt l v k = o.v := by
      unfold nxt
      rw [e]
      rcases hr.1 with z | z
      · rw [if_pos z]
      · by_cases hw : o.w = true
        · rw [if_pos hw]
        · rw [if_neg hw, z]
    rw [en, e, ih]
    simp
theorem Hid.expl {off w t : Int} {l : Log} (h : Hid off w t l) : Expl l (2 * off) (List.range l.length) := by
  refine ⟨List.Perm.refl _, ?_, ?_⟩
  · have := rr_drop (l := l) (k := 0) rfl h.rg
    simpa using this
  · rw [pwB_iff]
    refine (List.Pairwise.and_mem.mp List.pairwise_lt_range).imp fun {i j} hh => ?_
    obtain ⟨h1, h2, h3⟩ := hh
    have h1 := List.mem_range.mp h1
    have h2 := List.mem_range.mp h2
    have := (List.pairwise_iff_getElem.mp h.pw) i j h1 h2 h3
    rw [at_of (List.getElem?_eq_getElem h1), at_of (List.getElem?_eq_getElem h2)]
    omega
theorem perm_none {l m : Log} {t : Int} (ok : l.Ok) (p : l.Perm m) (h : ∀ f : Flt, f.In m.length → f.is m t = false) : l.flts t = [] := by
  refine List.eq_nil_iff_forall_not_mem.mpr fun f hf => ?_
  obtain ⟨h1, h2⟩ := flts_is ok hf
  have ix : ∀ i, i < l.length → ∃ j, j < m.length ∧ m.at j = l.at i := fun i hi => by
    obtain ⟨j, hj⟩ := List.getElem?_of_mem (p.mem_iff.mp (List.mem_of_getElem? (at_get hi)))
    exact ⟨j, (List.getElem?_eq_some_iff.mp hj).1, at_of hj⟩
  have hw : ∀ v, v ∈ l.wr ↔ v ∈ m.wr := fun v => ((p.filter _).map _).mem_iff
  have contra : ∀ g : Flt, g.In m.length → g.is m t = true → False := fun g hg hi => by
    rw [h g hg] at hi
    cases hi
  cases f with
  | unw r =>
    obtain ⟨j, hj, e⟩ := ix r (h1 r (by simp [Flt.ixs]))
    refine contra (.unw j) (fun i hi => by simp [Flt.ixs] at hi; omega) ?_
    simp only [Flt.is] at h2 ⊢
    rw [e]
    simpa [hw] using h2
  | early r w =>
    obtain ⟨j, hj, e⟩ := ix r (h1 r (by simp [Flt.ixs]))
    obtain ⟨k, hk, e2⟩ := ix w (h1 w (by simp [Flt.ixs]))
    refine contra (.early j k) (fun i hi => by simp [Flt.ixs] at hi; omega) ?_
    simp only [Flt.is, sureB] at h2 ⊢
    rw [e, e2]
    exact h2
  | crossed a b c d =>
    obtain ⟨j, hj, e⟩ := ix a (h1 a (by simp [Flt.ixs]))
    obtain ⟨k, hk, e2⟩ := ix b (h1 b (by simp [Flt.ixs]))
    obtain ⟨x, hx, e3⟩ := ix c (h1 c (by simp [Flt.ixs]))
    obtain ⟨y, hy, e4⟩ := ix d (h1 d (by simp [Flt.ixs]))
    refine contra (.crossed j k x y) (fun i hi => by simp [Flt.ixs] at hi; omega) ?_
    simp only [Flt.is, sureB] at h2 ⊢
    rw [e, e2, e3, e4]
    exact h2
  | late c d =>
    obtain ⟨j, hj, e⟩ := ix c (h1 c (by simp [Flt.ixs]))
    obtain ⟨k, hk, e2⟩ := ix d (h1 d (by simp [Flt.ixs]))
    refine contra (.late j k) (fun i hi => by simp [Flt.ixs] at hi; omega) ?_
    simp only [Flt.is, sureB] at h2 ⊢
    rw [e, e2]
    exact h2
/-- within twice the greatest move of a stamp no fault is left -/
theorem Hid.none {off w t : Int} {l m : Log} (h : Hid off w t m) (h0 : 0 ≤ off) (ok : l.Ok) (okm : m.Ok) (p : l.Perm m) : l.flts (2 * off) = [] :=
  perm_none ok p fun f hf => h.expl.none okm (by omega) hf
theorem opd_inj {a b : Op} (h : a.d = b.d) : a = b := by
  obtain ⟨w, v, x, y⟩ := a
  obtain ⟨w', v', x', y'⟩ := b
  have h : D.tup [.str (Op.k ⟨w, v, x, y⟩), .int v, .int x, .int y] = D.tup [.str (Op.k ⟨w', v', x', y'⟩), .int v', .int x', .int y'] := h
  injection h with h
  simp only [List.cons.injEq, D.int.injEq, D.str.injEq, and_true] at h
  obtain ⟨h1, rfl, rfl, rfl⟩ := h
  have : w = w' := by
    cases w <;> cases w'
    · rfl
    · have h1 : ("read" : Str) = ("write" : Str) := h1
      exact absurd h1 (by decide +kernel)
    · have h1 : ("write" : Str) = ("read" : Str) := h1
      exact absurd h1 (by decide +kernel)
    · rfl
  rw [this]
section
local macro_rules
  | `(tactic| infer_instance) => `(tactic| (first | with_reducible refine b_op ?_ | with_reducible refine b_cb ?_ | with_reducible refine b_un ?_ | with_reducible refine b_call ?_ | with_reducible refine b_cons ?_ | with_reducible refine b_nil ?_ | with_reducible refine b_C ?_ | with_reducible refine b_tup ?_ | with_reducible refine b_lst ?_ | with_reducible refine b_fz ?_ | with_reducible refine b_nsl ?_ | with_reducible refine b_nslD ?_ | with_reducible refine b_nslF ?_ | with_reducible refine b_nslS ?_ | with_reducible refine b_tst ?_ | with_reducible refine b_bT ?_ | with_reducible refine b_andK ?_ | with_reducible refine b_orK ?_ | with_reducible refine b_not ?_ | with_reducible refine b_eIf ?_ | with_reducible refine b_ok ?_ | with_reducible refine b_rng ?_ | with_reducible refine b_iseq ?_ | with_reducible refine b_yes ?_ | with_reducible refine s_skip ?_ | with_reducible refine s_drop ?_ | with_reducible refine s_ret ?_ | with_reducible refine s_retN ?_ | with_reducible refine s_break ?_ | with_reducible refine s_cont ?_ | with_reducible refine s_if ?_ | with_reducible refine s_asg ?_ | with_reducible refine s_par ?_ | with_reducible refine s_tgt ?_ | with_reducible refine s_for ?_ | with_reducible refine s_loop ?_ | with_reducible refine s_store ?_ | with_reducible refine s_asgsN ?_ | with_reducible refine f_d ?_ | with_reducible refine f_fr ?_ | ((with_reducible apply s_seqN); exact (rfl : _ = [_, _, _, _, _, _, _, _, _, _, _, _, _])) | ((with_reducible apply b_var_d); rfl) | ((with_reducible apply b_var_o); rfl) | ((with_reducible apply b_fzv); rfl) | ((with_reducible apply b_fzvA); rfl) | ((with_reducible apply s_asgV); rfl) | ((with_reducible apply s_asgs); rfl) | ((with_reducible apply s_asgsD); rfl; first | assumption | exact Fr.un | exact Fr.dat | exact Fr.own) | ((with_reducible apply s_asgsO); rfl; first | assumption | exact Fr.un | exact Fr.dat | exact Fr.own) | ((with_reducible apply s_asgF); rfl; first | assumption | exact Fr.un | exact Fr.dat | exact Fr.own) | ((with_reducible apply s_asgFO); rfl; first | assumption | exact Fr.un | exact Fr.dat | exact Fr.own) | ((with_reducible apply s_storeV); rfl) | ((with_reducible apply s_storeK); rfl) | ((with_reducible apply b_methL); rfl) | ((with_reducible apply b_methV); rfl) | ((with_reducible apply b_mkTup); rfl; exact Nat.le_of_ble_eq_true rfl) | ((with_reducible apply b_mkLst); rfl; exact Nat.le_of_ble_eq_true rfl) | ((with_reducible apply f_sl); rfl) | ((with_reducible apply f_sld); rfl) | ((with_reducible apply x_mul); rfl; rfl; (first | omega | decide)) | ((with_reducible apply x_mod); rfl; rfl; decide) | ((with_reducible apply x_div); rfl; rfl; (first | omega | decide)) | ((with_reducible apply b_opV); rfl; rfl; rfl) | ((with_reducible apply b_unV); rfl; rfl) | ((with_reducible apply b_callV); rfl; rfl) | ((with_reducible apply b_callF); rfl; rfl) | ((with_reducible apply b_rng1); (first | omega | decide)) | ((with_reducible apply b_rng2); (first | omega | decide))))
end
end CM
set_option maxHeartbeats 1000000
namespace CM
open PySem PySem.Spec PyProof.Rows L2 DL
/-! CMhid3: l_true with its hidden order and bounds of its stamps -/
def BdL (c : Int) (l : Log) : Prop := ∀ o ∈ l, -c ≤ o.b ∧ o.e ≤ c
theorem BdL.app {c : Int} {l : Log} {o : Op} (h : BdL c l) (h1 : -c ≤ o.b) (h2 : o.e ≤ c) : BdL c (l ++ [o]) := fun x hx => by
  rcases List.mem_append.mp hx with z | z
  · exact h x z
  · rw [List.mem_singleton.mp z]; exact ⟨h1, h2⟩
section
local macro_rules
  | `(tactic| infer_instance) => `(tactic| (first | with_reducible refine b_op ?_ | with_reducible refine b_cb ?_ | with_reducible refine b_un ?_ | with_reducible refine b_call ?_ | with_reducible refine b_cons ?_ | with_reducible refine b_nil ?_ | with_reducible refine b_C ?_ | with_reducible refine b_tup ?_ | with_reducible refine b_lst ?_ | with_reducible refine b_fz ?_ | with_reducible refine b_nsl ?_ | with_reducible refine b_nslD ?_ | with_reducible refine b_nslF ?_ | with_reducible refine b_nslS ?_ | with_reducible refine b_tst ?_ | with_reducible refine b_bT ?_ | with_reducible refine b_andK ?_ | with_reducible refine b_orK ?_ | with_reducible refine b_not ?_ | with_reducible refine b_eIf ?_ | with_reducible refine b_ok ?_ | with_reducible refine b_rng ?_ | with_reducible refine b_iseq ?_ | with_reducible refine b_yes ?_ | with_reducible refine s_skip ?_ | with_reducible refine s_drop ?_ | with_reducible refine s_ret ?_ | with_reducible refine s_retN ?_ | with_reducible refine s_break ?_ | with_reducible refine s_cont ?_ | with_reducible refine s_if ?_ | with_reducible refine s_asg ?_ | with_reducible refine s_par ?_ | with_reducible refine s_tgt ?_ | with_reducible refine s_for ?_ | with_reducible refine s_loop ?_ | with_reducible refine s_store ?_ | with_reducible refine s_asgsN ?_ | with_reducible refine f_d ?_ | with_reducible refine f_fr ?_ | ((with_reducible apply s_seqN); exact (rfl : _ = [_, _, _, _, _, _, _, _, _, _, _, _, _])) | ((with_reducible apply b_var_d); rfl) | ((with_reducible apply b_var_o); rfl) | ((with_reducible apply b_fzv); rfl) | ((with_reducible apply b_fzvA); rfl) | ((with_reducible apply s_asgV); rfl) | ((with_reducible apply s_asgs); rfl) | ((with_reducible apply s_asgsD); rfl; first | assumption | exact Fr.un | exact Fr.dat | exact Fr.own) | ((with_reducible apply s_asgsO); rfl; first | assumption | exact Fr.un | exact Fr.dat | exact Fr.own) | ((with_reducible apply s_asgF); rfl; first | assumption | exact Fr.un | exact Fr.dat | exact Fr.own) | ((with_reducible apply s_asgFO); rfl; first | assumption | exact Fr.un | exact Fr.dat | exact Fr.own) | ((with_reducible apply s_storeV); rfl) | ((with_reducible apply s_storeK); rfl) | ((with_reducible apply b_methL); rfl) | ((with_reducible apply b_methV); rfl) | ((with_reducible apply b_mkTup); rfl; exact Nat.le_of_ble_eq_true rfl) | ((with_reducible apply b_mkLst); rfl; exact Nat.le_of_ble_eq_true rfl) | ((with_reducible apply f_sl); rfl) | ((with_reducible apply f_sld); rfl) | ((with_reducible apply x_mul); rfl; rfl; (first | omega | decide)) | ((with_reducible apply x_mod); rfl; rfl; decide) | ((with_reducible apply x_div); rfl; rfl; (first | omega | decide)) | ((with_reducible apply b_opV); rfl; rfl; rfl) | ((with_reducible apply b_unV); rfl; rfl) | ((with_reducible apply b_callV); rfl; rfl) | ((with_reducible apply b_callF); rfl; rfl) | ((with_reducible apply b_rng1); (first | omega | decide)) | ((with_reducible apply b_rng2); (first | omega | decide))))
end
end CM
set_option maxHeartbeats 1000000
namespace CM
open PySem PySem.Spec PyProof.Rows L2 DL
/-! no fault, told by members; a further read -/
/-! ### a further read -/
def rd (v b e : Int) : Op := ⟨false, v, b, e⟩
end CM
set_option maxHeartbeats 1000000
namespace CM
open PySem PySem.Spec PyProof.Rows L2 DL
/-! readable, must_return -/
end CM
set_option maxHeartbeats 1000000
namespace CM
open PySem PySem.Spec PyProof.Rows L2 DL
/-! an order for a log without faults -/
end CM
set_option maxHeartbeats 1000000
namespace CM
open PySem PySem.Spec PyProof.Rows L2 DL
/-! moments that are shown, evidence for the least tolerance -/
end CM
set_option maxHeartbeats 1000000
namespace CM
open PySem PySem.Spec PyProof.Rows L2 DL
/-! the law's look at any moments of all operations; the faults that bar, the evidence -/
end CM
set_option maxHeartbeats 1000000
namespace CM
open PySem PySem.Spec PyProof.Rows L2 DL
/-! another value in the place of a part -/
/-! texts -/
/-! the law's bending -/
theorem x_addSs {ρ : DEnv} {x y : Val} {a b : Str} {Q : Val → DEnv → Prop} {X : Ex → DEnv → Prop} (h1 : x.peek ρ = some (.str a)) (h2 : y.peek ρ = some (.str b)) (h : a.length + b.length ≤ 10000000) (q : Q (.d (.str (a ++ b))) ρ) : (opV addD x y ρ).wp Q X := b_opV h1 h2 (by
  have e : addS (.str a) (.str b) = some (.d (.str (a ++ b))) := if_pos (by rw [sizeLine_eq]; omega)
  show (match addS (.str a) (.str b) with | some z => some z | none => match addL (.str a) (.str b) with | some z => some z | none => addT (.str a) (.str b)) = _
  rw [e]) q
end CM
set_option maxHeartbeats 1000000
namespace CM
open PySem PySem.Spec PyProof.Rows L2 DL
end CM
set_option maxHeartbeats 1000000
namespace CM
open PySem PySem.Spec PyProof.Rows L2 DL
/-! is_integer, is_operation, is_log of any value -/
end CM
set_option maxHeartbeats 1000000
namespace CM
open PySem PySem.Spec PyProof.Rows L2 DL
/-! is_log of any value -/
end CM
set_option maxHeartbeats 2000000
namespace CM
open PySem PySem.Spec PyProof.Rows L2 DL
/-! has_form, shows_fault, the law's look at a fault (texts of the laws with values of any kind) at a fault -/
end CM
set_option maxHeartbeats 1000000
namespace CM
open PySem PySem.Spec PyProof.Rows L2 DL
/-! values that are no fault: has_form, shows_fault and the law's look say no -/
end CM
set_option maxHeartbeats 1000000
namespace CM
open PySem PySem.Spec PyProof.Rows L2 DL
/-! sequences of indexes of any values: has_each_once -/
/-! pairs of integers -/
end CM
set_option maxHeartbeats 2000000
/-! DL84: xs.index(i), a list of ints that is any expression. -/
namespace DL
open PySem PySem.Spec PyProof.Rows L2
variable [TabT]
def indexD : List D → Option Val
  | [.lst ds, .int i] => match intsD ds with
    | some ns => if i ∈ ns then some (.d (.int (ns.idxOf i : Nat))) else none
    | none => none
  | _ => none
def eIdxL (f : EM) (gl : M (List Val)) : EM := fun ρ => (f ρ).bind fun x ρ1 => match x.peek ρ1 with
  | some (.lst _) => (gl ρ1).bind fun ys ρ2 => callV indexD (x :: ys) ρ2
  | _ => .bad
section
variable {ρ : DEnv} {f : EM} {gl : M (List Val)} {x : Val} {xs : List Val} {Q : Val → DEnv → Prop} {X : Ex → DEnv → Prop}
def idxLV (gl : M (List Val)) (x : Val) : EM := fun ρ => match x.peek ρ with
  | some (.lst _) => (gl ρ).bind fun ys ρ2 => callV indexD (x :: ys) ρ2
  | _ => .bad
theorem b_idxL (q : (f ρ).wp (fun x ρ1 => (idxLV gl x ρ1).wp Q X) X) : (eIdxL f gl ρ).wp Q X := b_bind q
instance st_b_idxL : St ((eIdxL f gl ρ).wp Q X) ((f ρ).wp (fun x ρ1 => (idxLV gl x ρ1).wp Q X) X) := ⟨b_idxL⟩
end
end DL
set_option maxHeartbeats 1000000
/-! DL85: whether data of any depth does not stand in a list or a tuple. -/
namespace DL
open PySem PySem.Spec PyProof.Rows L2
end DL
set_option maxHeartbeats 2000000
/-! DL86: list(d), a dict that is data. -/
namespace DL
open PySem PySem.Spec PyProof.Rows L2
end DL
set_option maxHeartbeats 2000000
/-! DL87: whether data of any kind (empty dicts too) stands in a list of ints. -/
namespace DL
open PySem PySem.Spec PyProof.Rows L2
open PySem.SeqAt
end DL
set_option maxHeartbeats 2000000
/-! DL88: != with the empty list, of a list of any data. -/
namespace DL
open PySem PySem.Spec PyProof.Rows L2
end DL
set_option maxHeartbeats 2000000
/-! DL89: [one for log in logs for one in log], logs a tuple of tuples. -/
namespace DL
open PySem PySem.Spec PyProof.Rows L2
end DL
set_option maxHeartbeats 2000000
/-! DL90: def f(*logs), called with data by place; [one for log in logs for one in log]. -/
namespace DL
open PySem PySem.Spec PyProof.Rows L2
variable [TabT]
/-! ### a def whose one parameter takes all arguments -/
def spStar (K : PySem.W.Frag) (mg : Str → Option Value) (Fm : FM) : Sp := fun vs H Q E => vs.length ≤ sizeLine ∧ ∀ p, H p = none → spD K mg 1 Fm [V.ref p] (upd H p (.tup vs)) Q E
def GStar (P : Program) (w : World) (K : PySem.W.Frag) (mg : Str → Option Value) (base : Heap) (k : Nat) (f : Addr) (Fm : FM) : Prop :=
  ∀ (A : Around) (outer : List Env) (s : Shared) (H : Hp) (us : List Value) (vs : List V) (Q : VK) (E : XK), Room k A → NoGd A → Env0 P w K mg base A outer s H → Vals vs us → spStar K mg Fm vs H Q E → codeAny (model P w) A (.call (.ref f) ⟨us, []⟩) (CR (L2.CX P w) outer P w H s Q E) s
theorem GStar.mono {P : Program} {w : World} {K : PySem.W.Frag} {mg : Str → Option Value} {base : Heap} {j k : Nat} {f : Addr} {Fm : FM} (G : GStar P w K mg base j f Fm) (h : j ≤ k) : GStar P w K mg base k f Fm := fun A outer s H us vs Q E hr hG => G A outer s H us vs Q E (hr.mono h) hG
/-! ### calls -/
def eCallS (Fm : FM) (g : M (List Val)) : EM := fun ρ => (g ρ).bind fun xs ρ1 => (mkTup xs ρ1).bind fun t ρ2 => callF Fm [t] ρ2
/-! ### reading rules -/
section
variable {ρ : DEnv} {i j k : Nat} {ds : List D} {Fm : FM} {g : M (List Val)} {Q : Val → DEnv → Prop} {X : Ex → DEnv → Prop}
theorem b_callS (q : (g ρ).wp (fun xs ρ1 => (mkTup xs ρ1).wp (fun t ρ2 => (callF Fm [t] ρ2).wp Q X) X) X) : (eCallS Fm g ρ).wp Q X := b_bind (R.wp_mono q (fun xs ρ1 h => b_bind h) fun _ _ h => h)
instance st_b_callS : St ((eCallS Fm g ρ).wp Q X) ((g ρ).wp (fun xs ρ1 => (mkTup xs ρ1).wp (fun t ρ2 => (callF Fm [t] ρ2).wp Q X) X) X) := ⟨b_callS⟩
end
end DL
set_option maxHeartbeats 2000000
/-! DL91: a def passes the thunk that it is given on to another one. -/
namespace DL
open PySem PySem.Spec PyProof.Rows L2
end DL
set_option maxHeartbeats 2000000
/-! DL92: {k: e}, a dict of one written key and a value that is data. -/
namespace DL
open PySem PySem.Spec PyProof.Rows L2
variable [TabT]
def dict1V (k : Key) : Val → EM
  | .d d => fun ρ1 => .ok (.fr (.dic [k] [d])) ρ1
  | _ => fun _ => .bad
def eDict1 (k : Key) (f : EM) : EM := fun ρ => (f ρ).bind (dict1V k)
section
variable {k : Key} {f : EM} {d : D} {ρ : DEnv} {Q : Val → DEnv → Prop} {X : Ex → DEnv → Prop}
theorem b_dict1 (q : (f ρ).wp (fun x ρ1 => (dict1V k x ρ1).wp Q X) X) : (eDict1 k f ρ).wp Q X := b_bind q
theorem b_dict1V (q : Q (.fr (.dic [k] [d])) ρ) : (dict1V k (.d d) ρ).wp Q X := q
instance st_b_dict1 : St ((eDict1 k f ρ).wp Q X) ((f ρ).wp (fun x ρ1 => (dict1V k x ρ1).wp Q X) X) := ⟨b_dict1⟩
instance st_b_dict1V : St ((dict1V k (.d d) ρ).wp Q X) (Q (.fr (.dic [k] [d])) ρ) := ⟨b_dict1V⟩
end
end DL
set_option maxHeartbeats 2000000
/-! DL93: d.values() walked. -/
namespace DL
open PySem PySem.Spec PyProof.Rows L2
variable [TabT]
def valSrc (x : Val) (ρ : DEnv) : R Src := (x.fzA ρ).bind fun y ρ1 => match y with
  | .d (.dic ks ds) => .ok (ds, none) ρ1
  | _ => .bad
def iVal (f : EM) : IM := fun ρ => (f ρ).bind valSrc
/-! ### its reading -/
section
variable {ρ : DEnv} {QI : Src → DEnv → Prop} {X : Ex → DEnv → Prop}
theorem b_ival {f : EM} (q : (f ρ).wp (fun x ρ1 => (valSrc x ρ1).wp QI X) X) : (iVal f ρ).wp QI X := b_bind q
theorem b_valD {ks : List Key} {ds : List D} (q : QI (ds, none) ρ) : (valSrc (.d (.dic ks ds)) ρ).wp QI X := q
instance st_ival {f : EM} : St ((iVal f ρ).wp QI X) ((f ρ).wp (fun x ρ1 => (valSrc x ρ1).wp QI X) X) := ⟨b_ival⟩
instance st_valD {ks : List Key} {ds : List D} : St ((valSrc (.d (.dic ks ds)) ρ).wp QI X) (QI (ds, none) ρ) := ⟨b_valD⟩
end
end DL
set_option maxHeartbeats 2000000
/-! DL94: an instance that __init__ is still building: its fields are data, or objects of its own (dicts that are filled). -/
namespace DL
open PySem PySem.Spec PyProof.Rows L2
variable [TabT]
/-! ### data without instances -/
mutual
def D.nI : D → Bool
  | .tup xs => nIL xs
  | .lst xs => nIL xs
  | .dic _ vs => nIL vs
  | .obj _ _ vs => nIL vs
  | .ins _ _ _ => false
  | .set (_ :: _ :: _) => false
  | _ => true
def nIL : List D → Bool
  | [] => true
  | x :: xs => x.nI && nIL xs
end
theorem nIL_cons {x : D} {xs : List D} (h : nIL (x :: xs) = true) : x.nI = true ∧ nIL xs = true := by unfold nIL at h; simpa using h
structure DropLe (F F' : Hp) : Prop where
  «1» : ∀ a xs, F a = some (.lst xs) → F' a = some (.lst xs)
  «2» : ∀ a u, Rd F a (.tup u) → Rd F' a (.tup u)
  «3» : ∀ a u, Rd F a (.lst u) → Rd F' a (.lst u)
  fr : ∀ a o u, F a = some (.frz o u) → F' a = some (.frz o u)
  xo : ∀ a cls d, F a = some (xoO a cls d) → F' a = some (xoO a cls d)
  xd : ∀ a fs, F a = some (.xd fs) → F' a = some (.xd fs)
  x0 : ∀ a cls, F a = some (xo0 a cls) → F' a = some (xo0 a cls)
section
variable {K : PySem.W.Frag} {F F' : Hp}
theorem DropLe.sqT (h : DropLe F F') {a : Addr} {xs : List V} (s : SqT K F a xs) : SqT K F' a xs := by
  rcases s with s | s
  · exact .inl (h.2 _ _ s)
  · exact .inr s
theorem DropLe.sqL (h : DropLe F F') {a : Addr} {xs : List V} (s : SqL K F a xs) : SqL K F' a xs := by
  rcases s with s | s
  · exact .inl (h.3 _ _ s)
  · exact .inr s
mutual
theorem Rep.drop (h : DropLe F F') : ∀ {v : V} {d : D}, Rep K F v d → d.nI = true → Rep K F' v d
  | _, _, .non, _ => .non
  | _, _, .bl b, _ => .bl b
  | _, _, .int i, _ => .int i
  | _, _, .str x, _ => .str x
  | _, _, .lst e r, n => .lst (h.1 _ _ e) (RepL.drop' h r n)
  | _, _, .tup e r, n => .tup (h.sqT e) (RepL.drop' h r n)
  | _, _, .dic e l r, n => .dic (h.fr _ _ _ e) l (RepL.drop' h r n)
  | _, _, .scr e, _ => .scr (h.sqL e)
  | _, _, .ty n, _ => .ty n
  | _, _, .obj e1 e2 e3 l r, n => .obj (h.xo _ _ _ e1) e2 (h.xd _ _ e3) l (RepL.drop' h r n)
  | _, _, .ob0 e1 e2, _ => .ob0 (h.x0 _ _ e1) e2
  | _, _, .pt a, _ => .pt a
  | _, _, .opq a, _ => .opq a
  | _, _, .cch e, n => by simp [D.nI] at n
  | _, _, .ins e1 e2 l r, n => by simp [D.nI] at n
theorem RepL.drop' (h : DropLe F F') : ∀ {v : List V} {d : List D}, RepL K F v d → nIL d = true → RepL K F' v d
  | _, _, .nil, _ => .nil
  | _, _, .cons a b, n => .cons (Rep.drop h a (nIL_cons n).1) (RepL.drop' h b (nIL_cons n).2)
end
end
def dropA (F : Hp) (a : Addr) : Hp := fun b => if b = a then none else F b
theorem dropA_ne {F : Hp} {a b : Addr} (h : b ≠ a) : dropA F a b = F b := by unfold dropA; rw [if_neg h]
theorem dropA_self {F : Hp} {a : Addr} : dropA F a a = none := by unfold dropA; rw [if_pos rfl]
theorem drop_le {F : Hp} {a C dx : Addr} {fs : List (Str × V)} (h : F a = some (.ins C dx fs)) : DropLe F (dropA F a) where
  «1» := fun b xs e => by rw [dropA_ne (by rintro rfl; rw [h] at e; cases e)]; exact e
  «2» := fun b u e => by
    rcases e with e | ⟨o, e⟩
    · exact .inl (by rw [dropA_ne (by rintro rfl; rw [h] at e; cases e)]; exact e)
    · exact .inr ⟨o, by rw [dropA_ne (by rintro rfl; rw [h] at e; cases e)]; exact e⟩
  «3» := fun b u e => by
    rcases e with e | ⟨o, e⟩
    · exact .inl (by rw [dropA_ne (by rintro rfl; rw [h] at e; cases e)]; exact e)
    · exact .inr ⟨o, by rw [dropA_ne (by rintro rfl; rw [h] at e; cases e)]; exact e⟩
  fr := fun b o u e => by rw [dropA_ne (by rintro rfl; rw [h] at e; cases e)]; exact e
  xo := fun b c d e => by rw [dropA_ne (by rintro rfl; rw [h] at e; unfold xoO at e; cases e)]; exact e
  xd := fun b fs e => by rw [dropA_ne (by rintro rfl; rw [h] at e; cases e)]; exact e
  x0 := fun b c e => by rw [dropA_ne (by rintro rfl; rw [h] at e; unfold xo0 at e; cases e)]; exact e
/-! ### the half-built instance -/
inductive FV where
  | d (x : D) | ow (c : Cont)
abbrev Flds := List (Str × FV)
def FV.view : FV → D
  | .d x => x
  | .ow _ => .set []
abbrev vw (c : Str) (I : Flds) : D := .ins c (I.map (·.1)) (I.map fun p => p.2.view)
def Cont.nI : Cont → Bool
  | .lst xs => nIL xs
  | .dic _ vs => nIL vs
def okE (ρ : DEnv) : Bool := ρ.all fun s => match s with
  | .un => true
  | .d x => x.nI
  | .ow _ _ => false
theorem okE_get {ρ : DEnv} {i : Nat} {s : Slot} (h : okE ρ = true) (e : ρ[i]? = some s) : s = .un ∨ ∃ x, s = .d x ∧ x.nI = true := by
  have := List.all_eq_true.mp h s (List.mem_of_getElem? e)
  cases s with
  | un => exact .inl rfl
  | d x => exact .inr ⟨x, rfl, this⟩
  | ow c m => cases this
theorem okE_now {σ : L2.St} {ρ : DEnv} {b : Addr} (h : okE ρ = true) : ¬ Ow σ ρ b := fun ⟨i, c, m, e, _⟩ => by
  rcases okE_get h e with z | ⟨x, z, _⟩ <;> cases z
/-- what was there ahead of the making stays -/
structure EvB (F0 H0 F H : Hp) : Prop where
  ext : Same F0 F
  keep : ∀ b o, H0 b = some o → NT o → H b = some o
  newF : ∀ b, F0 b = none → F b ≠ none → H0 b = none
  dom : ∀ b, H0 b ≠ none → H b ≠ none
theorem EvB.refl {F H : Hp} : EvB F H F H := ⟨.refl _, fun _ _ e _ => e, fun _ e n => absurd e n, fun _ e => e⟩
theorem EvB.step {F0 H0 F H F' H' : Hp} {σ σ' : L2.St} {ρ ρ' : DEnv} (a : EvB F0 H0 F H) (no : ∀ b, ¬ Ow σ ρ b) (ev : Ev σ ρ F H σ' ρ' F' H') : EvB F0 H0 F' H' where
  ext := a.ext.trans ev.ext
  keep := fun b o e n => ev.keep b o (a.keep b o e n) (fun z => no b z.ow) n
  newF := fun b e n => by
    by_cases q : F b = none
    · rcases ev.newF b q n with z | z
      · cases hb : H0 b with
        | none => rfl
        | some o => exact absurd z (a.dom b (by rw [hb]; simp))
      · exact absurd z (no b)
    · exact a.newF b e q
  dom := fun b h => ev.dom b (a.dom b h)
/-- a field's value -/
def FR (K : PySem.W.Frag) (F H H0 : Hp) (a : Addr) (v : V) : FV → Prop
  | .d x => Rep K F v x ∧ x.nI = true
  | .ow c => ∃ p, v = .ref p ∧ p ≠ a ∧ F p = none ∧ H0 p = none ∧ CRep K F H p c ∧ c.nI = true
structure ST (K : PySem.W.Frag) (C a dx : Addr) (F0 H0 : Hp) (σ : L2.St) (ρ : DEnv) (I : Flds) (vs : List V) (F H : Hp) : Prop where
  sr : SR K F H σ ρ
  ev : EvB F0 H0 F H
  env : okE ρ = true
  s0 : σ[0]? = some (some (.ref a))
  r0 : ρ[0]? = some .un
  ins : H a = some (.ins C dx ((I.map (·.1)).zip vs))
  len : vs.length = I.length
  fa : F a = none
  na : H0 a = none
  fld : ∀ (i : Nat) (f : Str) (x : FV), I[i]? = some (f, x) → ∃ v, vs[i]? = some v ∧ FR K F H H0 a v x
  dist : ∀ (i j : Nat) (f g : Str) (c c' : Cont) (p : Addr), I[i]? = some (f, .ow c) → I[j]? = some (g, .ow c') → vs[i]? = some (.ref p) → vs[j]? = some (.ref p) → i = j
section
variable {K : PySem.W.Frag} {C a dx : Addr} {F0 H0 F H F' H' : Hp} {σ : L2.St} {ρ ρ1 : DEnv} {I : Flds} {vs : List V}
/-- the same instance in a later heap -/
theorem FR.mono {v : V} {x : FV} (h : FR K F H H0 a v x) (e : Same F F') (k : ∀ b o, H b = some o → F b = none → NT o → H' b = some o) (n : ∀ b, b ≠ a → F b = none → H b ≠ none → F' b = none) : FR K F' H' H0 a v x := by
  cases x with
  | d x => exact ⟨h.1.mono (.of e), h.2⟩
  | ow c =>
    obtain ⟨p, e1, e2, e3, e4, e5, e6⟩ := h
    obtain ⟨o, ho⟩ := e5.some
    exact ⟨p, e1, e2, n p e2 e3 (by rw [ho]; simp), e4, e5.mono (.of e) ((k p o ho e3 (e5.nt ho)).trans ho.symm), e6⟩
theorem okE_set0 (h : okE ρ = true) {x : D} : ∀ b, ¬ Ow σ (ρ.set 0 (.d x)) b := fun b ⟨i, c, m, e, _⟩ => by
  cases i with
  | zero =>
    by_cases hl : 0 < ρ.length
    · rw [List.getElem?_set_self hl] at e; cases e
    · rw [List.getElem?_eq_none (by rw [List.length_set]; omega)] at e; cases e
  | succ i =>
    rw [List.getElem?_set_ne (by omega)] at e
    rcases okE_get h e with z | ⟨x, z, _⟩ <;> cases z
/-- .. and it is its own again behind it -/
theorem ST.back {c : Str} {F1 H1 : Hp} (h : ST K C a dx F0 H0 σ ρ I vs F H) (s1 : SR K F1 H1 σ ρ1) (ev : Ev σ (ρ.set 0 (.d (vw c I))) (upd F a (.ins C dx ((I.map (·.1)).zip vs))) H σ ρ1 F1 H1) (ok : okE (ρ1.set 0 .un) = true) :
    F1 a = some (.ins C dx ((I.map (·.1)).zip vs)) ∧ ST K C a dx F0 H0 σ (ρ1.set 0 .un) I vs (dropA F1 a) H1 ∧ Same F (dropA F1 a) := by
  have fa1 : F1 a = some (.ins C dx ((I.map (·.1)).zip vs)) := ev.ext _ _ upd_same
  have sf0 : Same F (upd F a (.ins C dx ((I.map (·.1)).zip vs))) := froz_ext h.fa
  have sf : Same F (dropA F1 a) := fun b o e => by
    rw [dropA_ne (by rintro rfl; rw [h.fa] at e; cases e)]
    exact ev.ext _ _ (sf0 _ _ e)
  have no := okE_set0 (σ := σ) (x := vw c I) h.env
  have keep : ∀ b o, H b = some o → NT o → H1 b = some o := fun b o e n => ev.keep b o e (fun z => no b z.ow) n
  have ni : NT (.ins C dx ((I.map (·.1)).zip vs)) := fun ps z => by cases z
  have hl : 0 < ρ.length := (List.getElem?_eq_some_iff.mp h.r0).1
  have hl1 : 0 < ρ1.length := by rw [← s1.len, h.sr.len]; exact hl
  have nf : ∀ b, b ≠ a → F b = none → H b ≠ none → dropA F1 a b = none := fun b z e n => by
    rw [dropA_ne z]
    refine Classical.byContradiction fun q => ?_
    rcases ev.newF b (by rw [upd_ne z]; exact e) q with w | w
    · exact n w
    · exact no b w
  refine ⟨fa1, ⟨⟨by rw [List.length_set]; exact s1.len, fun b u e => ?_, fun i s e => ?_, fun i j c1 m c2 m' b e1 e2 e3 e4 => absurd ⟨i, c1, m, e1, e3⟩ (okE_now ok), s1.tab.tabs, fun p hp => ?_, fun b o e => sf _ _ (h.sr.tab.base _ _ e)⟩, ⟨h.ev.ext.trans sf, fun b o e n => keep b o (h.ev.keep b o e n) n, fun b e n => ?_, fun b n => ev.dom b (h.ev.dom b n)⟩, ok, h.s0, List.getElem?_set_self hl1, keep _ _ h.ins ni, h.len, dropA_self, h.na, fun i f x e => ?_, h.dist⟩, sf⟩
  · by_cases z : b = a
    · subst z; rw [dropA_self] at e; cases e
    · rw [dropA_ne z] at e; exact s1.sub b u e
  · cases i with
    | zero =>
      rw [List.getElem?_set_self hl1] at e
      cases e
      exact ⟨_, h.s0, trivial⟩
    | succ i =>
      have e' := e
      rw [List.getElem?_set_ne (by omega)] at e
      obtain ⟨ov, q1, q2⟩ := s1.slot _ _ e
      refine ⟨ov, q1, ?_⟩
      rcases okE_get ok e' with rfl | ⟨x, rfl, nx⟩
      · trivial
      · obtain ⟨v, q, r⟩ := q2; exact ⟨v, q, r.drop (drop_le fa1) nx⟩
  · by_cases z : p.1 = a
    · rw [z]; exact dropA_self
    · rw [dropA_ne z]; exact s1.tab.out p hp
  · have z : b ≠ a := fun z => by subst z; exact n dropA_self
    rw [dropA_ne z] at n
    by_cases q : F b = none
    · rcases ev.newF b (by rw [upd_ne z]; exact q) n with w | w
      · cases hb : H0 b with
        | none => rfl
        | some o => exact absurd w (h.ev.dom b (by rw [hb]; simp))
      · exact absurd w (no b)
    · exact h.ev.newF b e q
  · obtain ⟨v, q, r⟩ := h.fld i f x e
    exact ⟨v, q, r.mono sf (fun b o e _ n => keep b o e n) nf⟩
end
end DL
set_option maxHeartbeats 2000000
/-! DL95: __init__: values, tests, statements over the half-built instance. -/
namespace DL
open PySem PySem.Spec PyProof.Rows L2
variable [TabT]
abbrev MV := DEnv → Flds → Option (Val × DEnv)
abbrev MT := DEnv → Flds → Option (Bool × DEnv)
abbrev MI := DEnv → Flds → Option (DEnv × Flds)
section
variable {X : Cx} {W : WX} {C : Addr} {c : Str} {e e1 e2 k : Expr} {f : EM} {t : M Bool} {h h1 h2 : MV} {ht : MT} {g g1 g2 : MI} {st : Stmt} {sts sts' : List Stmt} {pos pos' : Pos}
/-- self.f[k], self.f a dict that is being filled -/
def FV.lk (I : Flds) (f : Str) : Option FV := I.lookup f
/-! ### statements -/
end
end DL
set_option maxHeartbeats 2000000
/-! DL96: __init__: stores into fields, loops, the end. -/
namespace DL
open PySem PySem.Spec PyProof.Rows L2
variable [TabT]
theorem nk_ins {b C dx : Addr} {fs : List (Str × V)} : ¬ KT b (.ins C dx fs) := fun z => by
  rcases z with ⟨ps, z⟩ | ⟨q, z⟩
  · cases z
  · unfold LamX.CodeO at z; cases z
section
variable {K : PySem.W.Frag} {C a dx : Addr} {F0 H0 F H F' H' : Hp} {σ σ' : L2.St} {ρ ρ' : DEnv} {I : Flds} {vs : List V}
/-- a step that changes no field -/
theorem ST.step (s : ST K C a dx F0 H0 σ ρ I vs F H) (sr : SR K F' H' σ' ρ') (ev : Ev σ ρ F H σ' ρ' F' H') (ok : okE ρ' = true) (e0 : σ'[0]? = σ[0]?) (r0 : ρ'[0]? = some .un) : ST K C a dx F0 H0 σ' ρ' I vs F' H' := by
  have no : ∀ b, ¬ Ow σ ρ b := fun b => okE_now s.env
  have keep : ∀ b o, H b = some o → NT o → H' b = some o := fun b o e n => ev.keep b o e (fun z => no b z.ow) n
  have nf : ∀ b, F b = none → H b ≠ none → F' b = none := fun b e n => by
    refine Classical.byContradiction fun q => ?_
    rcases ev.newF b e q with w | w
    · exact n w
    · exact no b w
  exact ⟨sr, s.ev.step no ev, ok, e0.trans s.s0, r0, keep _ _ s.ins (fun ps z => by cases z), s.len, nf a s.fa (by rw [s.ins]; simp), s.na, fun i f x e => let ⟨v, q, r⟩ := s.fld i f x e; ⟨v, q, r.mono ev.ext (fun b o e _ n => keep b o e n) fun b _ => nf b⟩, s.dist⟩
theorem putF_new {nm : Str} {v : V} : ∀ {ns : List Str} {vs : List V}, ns.contains nm = false → vs.length = ns.length → putF nm v (ns.zip vs) = (ns ++ [nm]).zip (vs ++ [v])
  | [], [], _, _ => rfl
  | n :: ns, u :: vs, h, l => by
    have h2 : ¬ nm = n ∧ ns.contains nm = false := by simpa using h
    rw [List.zip_cons_cons, List.cons_append, List.cons_append, List.zip_cons_cons]
    show (if n = nm then _ else _) = _
    rw [if_neg (fun z => h2.1 z.symm), putF_new h2.2 (by simpa using l)]
  | [], _ :: _, _, l => by simp at l
  | _ :: _, [], _, l => by simp at l
/-- a field comes in -/
theorem ST.add (s : ST K C a dx F0 H0 σ ρ I vs F H) {nm : Str} {fv : FV} {v : V} (hn : (I.map (·.1)).contains nm = false) (r : FR K F H H0 a v fv) (nd : ∀ (c : Cont) (p : Addr), fv = .ow c → v = .ref p → ∀ (i : Nat) (f : Str) (c' : Cont), I[i]? = some (f, .ow c') → vs[i]? ≠ some (.ref p)) :
    ST K C a dx F0 H0 σ ρ (I ++ [(nm, fv)]) (vs ++ [v]) F (upd H a (.ins C dx (putF nm v ((I.map (·.1)).zip vs)))) := by
  have no : ¬ Ow σ ρ a := okE_now s.env
  have mono : ∀ {u : V} {x : FV}, FR K F H H0 a u x → FR K F (upd H a (.ins C dx (putF nm v ((I.map (·.1)).zip vs)))) H0 a u x := fun {u x} h => by
    cases x with
    | d x => exact h
    | ow c =>
      obtain ⟨p, e1, e2, e3, e4, e5, e6⟩ := h
      exact ⟨p, e1, e2, e3, e4, e5.mono (.of (Same.refl _)) (upd_ne e2), e6⟩
  refine ⟨sr_upd s.sr s.fa no s.ins nk_ins, ⟨s.ev.ext, fun b o e n => ?_, s.ev.newF, fun b n => ?_⟩, s.env, s.s0, s.r0, ?_, by simp [s.len], s.fa, s.na, fun i f x e => ?_, fun i j f g c c' p e1 e2 e3 e4 => ?_⟩
  · have hb : b ≠ a := fun z => by subst z; rw [s.na] at e; cases e
    rw [upd_ne hb]; exact s.ev.keep b o e n
  · by_cases hb : b = a
    · subst hb; rw [upd_same]; simp
    · rw [upd_ne hb]; exact s.ev.dom b n
  · rw [upd_same, putF_new hn (by rw [List.length_map, s.len]), List.map_append]
    rfl
  · by_cases hi : i < I.length
    · rw [List.getElem?_append_left hi] at e
      obtain ⟨u, q, r⟩ := s.fld i f x e
      exact ⟨u, by rw [List.getElem?_append_left (by rw [s.len]; exact hi)]; exact q, mono r⟩
    · rw [List.getElem?_append_right (by omega)] at e
      have h0 : i - I.length = 0 := by
        have := (List.getElem?_eq_some_iff.mp e).1
        simp at this
        omega
      rw [h0] at e
      cases e
      exact ⟨v, by rw [List.getElem?_append_right (by rw [s.len]; omega), s.len, h0]; rfl, mono r⟩
  · have low : ∀ {i : Nat} {f : Str} {c : Cont}, (I ++ [(nm, fv)])[i]? = some (f, .ow c) → (vs ++ [v])[i]? = some (.ref p) → (i < I.length ∧ I[i]? = some (f, .ow c) ∧ vs[i]? = some (.ref p)) ∨ (i = I.length ∧ fv = .ow c ∧ v = .ref p) := fun {i f c} e e' => by
      by_cases hi : i < I.length
      · rw [List.getElem?_append_left hi] at e
        rw [List.getElem?_append_left (by rw [s.len]; exact hi)] at e'
        exact .inl ⟨hi, e, e'⟩
      · rw [List.getElem?_append_right (by omega)] at e
        rw [List.getElem?_append_right (by rw [s.len]; omega), s.len] at e'
        have h0 : i - I.length = 0 := by
          have := (List.getElem?_eq_some_iff.mp e).1
          simp at this
          omega
        rw [h0] at e e'
        cases e; cases e'
        exact .inr ⟨by omega, rfl, rfl⟩
    rcases low e1 e3 with ⟨l1, q1, q3⟩ | ⟨l1, q1, q3⟩
    · rcases low e2 e4 with ⟨l2, q2, q4⟩ | ⟨l2, q2, q4⟩
      · exact s.dist i j f g c c' p q1 q2 q3 q4
      · exact absurd q3 (nd c' p q2 q4 i f c q1)
    · rcases low e2 e4 with ⟨l2, q2, q4⟩ | ⟨l2, q2, q4⟩
      · exact absurd q4 (nd c p q1 q3 j g c' q2)
      · omega
def setF (nm : Str) (fv : FV) : Flds → Flds
  | [] => []
  | (g, y) :: I => if (nm == g) = true then (g, fv) :: I else (g, y) :: setF nm fv I
theorem setF_len {nm : Str} {fv : FV} : ∀ {I : Flds}, (setF nm fv I).length = I.length
  | [] => rfl
  | (g, y) :: I => by unfold setF; split <;> simp [setF_len]
theorem setF_names {nm : Str} {fv : FV} : ∀ {I : Flds}, (setF nm fv I).map (·.1) = I.map (·.1)
  | [] => rfl
  | (g, y) :: I => by unfold setF; split <;> simp [setF_names]
/-- the object of a field is changed (o': what lies there now); frozen too, if F' says so -/
theorem ST.own (s : ST K C a dx F0 H0 σ ρ I vs F H) {nm : Str} {fv : FV} {c0 : Cont} {i : Nat} {p : Addr} {o o' : HO} (i1 : I[i]? = some (nm, .ow c0)) (i2 : vs[i]? = some (.ref p)) (i3 : (setF nm fv I)[i]? = some (nm, fv)) (i4 : ∀ j, j ≠ i → (setF nm fv I)[j]? = I[j]?)
    (hp : H p = some o) (nk : ¬ KT p o) (fr : F' = F ∨ F' = upd F p o') (r : FR K F' (upd H p o') H0 a (.ref p) fv) : ST K C a dx F0 H0 σ ρ (setF nm fv I) vs F' (upd H p o') := by
  obtain ⟨v, j1, p', j2, j3, j4, j5, j6, j7⟩ := s.fld i _ _ i1
  rw [i2] at j1
  cases j1
  cases j2
  have sf : Same F F' := by
    rcases fr with rfl | rfl
    · exact .refl _
    · exact froz_ext j4
  have fne : ∀ b, b ≠ p → F' b = F b := fun b z => by
    rcases fr with rfl | rfl
    · rfl
    · exact upd_ne z
  have no : ¬ Ow σ ρ p := okE_now s.env
  have sr1 : SR K F (upd H p o') σ ρ := sr_upd s.sr j4 no hp nk
  have sr2 : SR K F' (upd H p o') σ ρ := by
    rcases fr with rfl | rfl
    · exact sr1
    · refine ⟨sr1.len, fun b u e => ?_, fun i sl e => ?_, sr1.dist, s.sr.tab.frz hp nk j4⟩
      · by_cases z : b = p
        · subst z; rw [upd_same] at e ⊢; exact e
        · rw [upd_ne z] at e ⊢; exact s.sr.sub b u e
      · obtain ⟨ov, q1, q2⟩ := sr1.slot _ _ e
        refine ⟨ov, q1, ?_⟩
        rcases okE_get s.env e with rfl | ⟨x, rfl, _⟩
        · trivial
        · obtain ⟨v, q, r⟩ := q2; exact ⟨v, q, r.mono (.of sf)⟩
  refine ⟨sr2, ⟨s.ev.ext.trans sf, fun b o e n => ?_, fun b e n => ?_, fun b n => ?_⟩, s.env, s.s0, s.r0, ?_, by rw [setF_len]; exact s.len, ?_, s.na, fun j f x e => ?_, fun j k f g c c' q e1 e2 e3 e4 => ?_⟩
  · have hb : b ≠ p := fun z => by subst z; rw [j5] at e; cases e
    rw [upd_ne hb]; exact s.ev.keep b o e n
  · by_cases hb : b = p
    · subst hb; exact j5
    · rw [fne b hb] at n; exact s.ev.newF b e n
  · by_cases hb : b = p
    · subst hb; rw [upd_same]; simp
    · rw [upd_ne hb]; exact s.ev.dom b n
  · rw [upd_ne (Ne.symm j3), setF_names]; exact s.ins
  · rw [fne a (Ne.symm j3)]; exact s.fa
  · by_cases hj : j = i
    · subst hj
      rw [i3] at e
      cases e
      exact ⟨_, i2, r⟩
    · rw [i4 j hj] at e
      obtain ⟨v, q, rr⟩ := s.fld j f x e
      refine ⟨v, q, ?_⟩
      cases x with
      | d x => exact ⟨rr.1.mono (.of sf), rr.2⟩
      | ow c =>
        obtain ⟨p2, rfl, e2, e3, e4, e5, e6⟩ := rr
        have hne : p2 ≠ p := fun z => by subst z; exact hj (s.dist j i f nm c c0 p2 e i1 q i2)
        exact ⟨p2, rfl, e2, by rw [fne _ hne]; exact e3, e4, e5.mono (.of sf) (upd_ne hne), e6⟩
  · have low : ∀ {j : Nat} {f : Str} {c : Cont}, (setF nm fv I)[j]? = some (f, .ow c) → ∃ c2 f2, I[j]? = some (f2, .ow c2) := fun {j f c} e => by
      by_cases hj : j = i
      · subst hj; exact ⟨_, _, i1⟩
      · rw [i4 j hj] at e; exact ⟨_, _, e⟩
    obtain ⟨c2, f2, w1⟩ := low e1
    obtain ⟨c3, f3, w2⟩ := low e2
    exact s.dist j k f2 f3 c2 c3 q w1 w2 e3 e4
end
/-! ### o.f as a target -/
end DL
set_option maxHeartbeats 2000000
/-! DL97: __init__: a filled dict becomes data; the end: the instance is data. -/
namespace DL
open PySem PySem.Spec PyProof.Rows L2
/-! ### the making -/
end DL
set_option maxHeartbeats 2000000
/-! DL98: o.m() without arguments; calls in which a keyword-only parameter takes its default (a text). -/
namespace DL
open PySem PySem.Spec PyProof.Rows L2
end DL
set_option maxHeartbeats 2000000
/-! DL99: reading an __init__ (DL95 to DL97). -/
namespace DL
open PySem PySem.Spec PyProof.Rows L2
def MI.wp (g : MI) (ρ : DEnv) (I : Flds) (Q : DEnv → Flds → Prop) : Prop := match g ρ I with
  | some (ρ', I') => Q ρ' I'
  | none => False
def MV.wp (h : MV) (ρ : DEnv) (I : Flds) (Q : Val → DEnv → Prop) : Prop := match h ρ I with
  | some (x, ρ') => Q x ρ'
  | none => False
def MT.wp (h : MT) (ρ : DEnv) (I : Flds) (Q : Bool → DEnv → Prop) : Prop := match h ρ I with
  | some (x, ρ') => Q x ρ'
  | none => False
end DL
set_option maxHeartbeats 2000000
/-! DL100: sorted(set(t)) of a tuple of ints. -/
namespace DL
open PySem PySem.Spec PyProof.Rows L2
variable [TabT]
def setT (x : D) : Option (List Int) := match x with
  | .tup ds => match intsD ds with
    | some ns => if ns.length < 4000 then some ns else none
    | none => none
  | _ => none
def eSortSetT (f : EM) : EM := eUn (fun x => (setT x).map fun ns => .fr (.lst ((sortSetI ns).map D.int))) f
def sortSetTV (x : Val) : EM := unV (fun x => (setT x).map fun ns => .fr (.lst ((sortSetI ns).map D.int))) x
theorem b_sortSetT {f : EM} {ρ : DEnv} {Q : Val → DEnv → Prop} {X : Ex → DEnv → Prop} (q : (f ρ).wp (fun x ρ1 => (sortSetTV x ρ1).wp Q X) X) : (eSortSetT f ρ).wp Q X := b_un q
instance st_b_sortSetT {f : EM} {ρ : DEnv} {Q : Val → DEnv → Prop} {X : Ex → DEnv → Prop} : St ((eSortSetT f ρ).wp Q X) ((f ρ).wp (fun x ρ1 => (sortSetTV x ρ1).wp Q X) X) := ⟨b_sortSetT⟩
end DL
namespace CM
open PySem PySem.Spec PyProof.Rows L2 DL
/-! bad_values: slots 0 log, 1 tolerance, 2 fault -/
/-! height_at: slots 0 table, 1 place, 2 found, 3 here, 4 height -/
/-! Stretches_is_below: slots 0 self, 1 value, 2 place -/
/-! Stretches_sum_of: slots 0 self, 1 values, 2 value -/
/-! Stretches_inside: slots 0 self, 1 value, 2 other, 3 here, 4 found -/
/-! Stretches_gain: slots 0 self, 1 value, 2 other -/
/-! Stretches_raised: slots 0 self, 1 found, 2 value, 3 plain, 4 height, 5 place, 6 raiser, 7 entry -/
/-! Stretches_best: slots 0 self, 1 left, 2 found, 3 start, 4 place, 5 height, 6 value, 7 entry -/
/-! Stretches_set_aside: slots 0 self, 1 value, 2 kept, 3 gone -/
/-! is_table: slots 0 stretches, 1 value, 2 wide, 3 low, 4 high, 5 pair, 6 one, 7 other -/
/-! l_subsets: slots 0 some, 1 found, 2 one, 3 few -/
/-! l_slog: slots 0 pot_here, 1 off, 2 log_here -/
/-! l_stol: slots 0 pot_here, 1 log_here, 2 bound, 3 near -/
/-! l_fewest: slots 0 log_here, 1 tolerance_here, 2 is_many, 3 found, 4 gone, 5 weight, 6 one -/
/-! l_sweight: slots 0 log_here, 1 gone, 2 word, 3 one -/
/-! Stretches: slots 0 self, 1 log, 2 tolerance, 3 by, 4 operation, 5 value, 6 first, 7 last -/
/-! fewest_aside: slots 0 log, 1 tolerance, 2 by, 3 found -/
/-! aside: slots 0 log, 1 tolerance, 2 by -/
/-! heights: slots 0 log, 1 tolerance, 2 by, 3 place, 4 height, 5 value -/
/-! are_values: slots 0 stretches, 1 value, 2 one -/
/-! shows_aside: slots 0 log, 1 tolerance, 2 value, 3 by, 4 stretches, 5 last, 6 weight, 7 some, 8 table -/
end CM
set_option maxHeartbeats 4000000
/-! DL101: a tuple times any small int (0, 1 and negative ones too). -/
namespace L2
open PySem PySem.Spec PyProof.Rows
end L2
namespace DL
open PySem PySem.Spec PyProof.Rows L2
end DL
namespace CM
open PySem PySem.Spec PyProof.Rows L2 DL
/-! l_bad: slots 0 log_here, 1 tolerance_here, 2 one, 3 writes, 4 found -/
/-! l_is_low: slots 0 one, 1 place -/
/-! l_known: slots 0 log_here, 1 tolerance_here, 2 is_many, 3 found, 4 gone, 5 value, 6 first, 7 last, 8 many, 9 one -/
/-! l_wide: slots 0 known_here, 1 value, 2 begin, 3 end, 4 many -/
/-! l_gain: slots 0 known_here, 1 value, 2 wide_here, 3 begin, 4 end, 5 many, 6 other, 7 low, 8 high, 9 its -/
/-! l_height: slots 0 table, 1 place, 2 some, 3 here, 4 height_here -/
/-! l_is_table: slots 0 known_here, 1 table, 2 far, 3 pair, 4 value, 5 begin, 6 end, 7 many, 8 one, 9 two -/
/-! l_left_weight: slots 0 log_here, 1 tolerance_here, 2 is_many, 3 table, 4 wide_here, 5 low, 6 known_here, 7 total, 8 value, 9 begin, 10 end, 11 many -/
end CM
set_option maxHeartbeats 1000000
/-! DL102: sorted() of a tuple of data. -/
namespace DL
open PySem PySem.Spec PyProof.Rows L2
end DL
set_option maxHeartbeats 2000000
/-! DL103: a dict of an instance that holds answers that are known already: opened and closed. -/
namespace DL
open PySem PySem.Spec PyProof.Rows L2
end DL
set_option maxHeartbeats 2000000
/-! DL104: an __init__ of the form self.a = e; two plain statements; self.b = e'; self.c = {}, where c is a store of known answers. -/
namespace DL
open PySem PySem.Spec PyProof.Rows L2
variable [TabT]
/-! ### the making -/
/-! ### the half-built instance -/
structure HB (K : PySem.W.Frag) (C a dx : Addr) (F0 H0 : Hp) (σ : L2.St) (ρ : DEnv) (F H : Hp) (fs : List (Str × V)) : Prop where
  sr : SR K F H σ ρ
  ha : H a = some (.ins C dx fs)
  na : H0 a = none
  fa : F a = none
  ext : Same F0 F
  keep : ∀ b o, H0 b = some o → NT o → H b = some o
  newF : ∀ b, F0 b = none → F b ≠ none → H0 b = none
  dom : ∀ b, H0 b ≠ none → H b ≠ none
  own : ∀ b, Ow σ ρ b → H0 b = none ∧ b ≠ a
section
variable {K : PySem.W.Frag} {C a dx : Addr} {F0 H0 F H F' H' : Hp} {σ σ' : L2.St} {ρ ρ' : DEnv} {fs fs' : List (Str × V)}
theorem HB.step (h : HB K C a dx F0 H0 σ ρ F H fs) (sr : SR K F' H' σ' ρ') (ev : Ev σ ρ F H σ' ρ' F' H') : HB K C a dx F0 H0 σ' ρ' F' H' fs where
  sr := sr
  ha := ev.keep a _ h.ha (fun z => (h.own a z.ow).2 rfl) (fun ps z => by cases z)
  na := h.na
  fa := Classical.byContradiction fun z => by
    rcases ev.newF a h.fa z with w | w
    · rw [h.ha] at w; cases w
    · exact (h.own a w).2 rfl
  ext := h.ext.trans ev.ext
  keep := fun b o e n => ev.keep b o (h.keep b o e n) (fun z => by rw [(h.own b z.ow).1] at e; cases e) n
  newF := fun b e n => by
    by_cases q : F b = none
    · rcases ev.newF b q n with w | w
      · cases hb : H0 b with
        | none => rfl
        | some o => exact absurd w (h.dom b (by rw [hb]; simp))
      · exact (h.own b w).1
    · exact h.newF b e q
  dom := fun b e => ev.dom b (h.dom b e)
  own := fun b e => by
    rcases ev.own' b e with w | w
    · refine ⟨?_, fun z => by subst z; rw [h.ha] at w; cases w⟩
      cases hb : H0 b with
      | none => rfl
      | some o => exact absurd w (h.dom b (by rw [hb]; simp))
    · exact h.own b w
theorem HB.fld (h : HB K C a dx F0 H0 σ ρ F H fs) : HB K C a dx F0 H0 σ ρ F (upd H a (.ins C dx fs')) fs' where
  sr := sr_upd h.sr h.fa (fun z => (h.own a z).2 rfl) h.ha nk_ins
  ha := upd_same
  na := h.na
  fa := h.fa
  ext := h.ext
  keep := fun b o e n => by rw [upd_ne (fun z => by subst z; rw [h.na] at e; cases e)]; exact h.keep b o e n
  newF := h.newF
  dom := fun b e => by
    by_cases z : b = a
    · subst z; rw [upd_same]; simp
    · rw [upd_ne z]; exact h.dom b e
  own := h.own
end
end DL
set_option maxHeartbeats 2000000
/-! DL105: a method that looks for its answer among those that are known, works it out otherwise. -/
namespace DL
open PySem PySem.Spec PyProof.Rows L2
end DL
set_option maxHeartbeats 1000000
/-! DL106: reading rules for instances with a store of known answers. -/
namespace DL
open PySem PySem.Spec PyProof.Rows L2
end DL
set_option maxHeartbeats 2000000
/-! DL107: sorted(d), a dict with int keys; name += e, ints. -/
namespace DL
open PySem PySem.Spec PyProof.Rows L2
/-! ### name += e -/
end DL
namespace CM
open PySem PySem.Spec PyProof.Rows L2 DL
end CM
set_option maxHeartbeats 1000000
/-! DL108: a call by names alone that leaves the last parameter (a text) to its default. -/
namespace DL
open PySem PySem.Spec PyProof.Rows L2
end DL
set_option maxHeartbeats 1000000
/-! DL109: an exception is made and kept as a value. -/
namespace DL
open PySem PySem.Spec PyProof.Rows L2
end DL
set_option maxHeartbeats 1000000
/-! DL110: an exception made with arguments by name. -/
namespace PySem
end PySem
namespace DL
open PySem PySem.Spec PyProof.Rows L2
end DL
set_option maxHeartbeats 1000000
/-! DL111: an exception without fields, made and kept as a value. -/
namespace DL
open PySem PySem.Spec PyProof.Rows L2
end DL
set_option maxHeartbeats 1000000
/-! DL112: exceptions as values: the rules with bundles; reading. -/
namespace DL
open PySem PySem.Spec PyProof.Rows L2
/-! ### reading -/
end DL
set_option maxHeartbeats 1000000
/-! DL114: thunks that change what they captured: the call of the thunk, the statement that asks, the def. -/
namespace DL
open PySem PySem.Spec PyProof.Rows L2 LamX
/-- what a thunk does at a heap -/
abbrev TH := Hp → VK → XK → Prop
section
variable [TabT] {K : PySem.W.Frag} {mg : Str → Option Value} {σ σ1 : L2.St} {ρ ρ1 : DEnv} {F H F0 H0 F1 H1 F2 H2 : Hp}
theorem OutS.sub {W : WX} {r : RS} {D D' : Ends} (h : OutS K mg W σ ρ F H r D) (h1 : ∀ σ H, D.nx σ H → D'.nx σ H) (h2 : ∀ v H, D.rt v H → D'.rt v H) (h3 : D.bk = D'.bk) (h4 : D.ct = D'.ct) : OutS K mg W σ ρ F H r D' := by
  cases r with
  | nx ρ' => exact fun σ' F' H' s e => h1 _ _ (h σ' F' H' s e)
  | bk ρ' => intro σ' F' H' s e; rw [← h3]; exact h σ' F' H' s e
  | ct ρ' => intro σ' F' H' s e; rw [← h4]; exact h σ' F' H' s e
  | rt x ρ' => exact fun v σ' F' H' s e r => h2 _ _ (h v σ' F' H' s e r)
  | ex x ρ' => exact h
  | bad => exact h
/-- the knowledge of the thunk, from (F0, H0) on -/
def ThKn (K : PySem.W.Frag) (mg : Str → Option Value) (W : WX) (th : TH) (F0 H0 : Hp) (k : RF → RS) (D : Ends) : Prop :=
  ∀ F1 H1, SR K F1 H1 [] [] → Ev [] [] F0 H0 [] [] F1 H1 → th H1 (fun v H2 => ∃ F2 d, SR K F2 H2 [] [] ∧ Same F1 F2 ∧ Rep K F2 v d ∧ OutS K mg W [] [] F2 H2 (k (.ret (.d d) [])) D)
    (fun c dd H2 => ∃ F2 x, SR K F2 H2 [] [] ∧ Same F1 F2 ∧ XR K mg F2 x c dd ∧ OutS K mg W [] [] F2 H2 (k (.ex x [])) D)
end
def MonoT (th : TH) : Prop := ∀ H (Q Q' : VK) (E E' : XK), (∀ v H, Q v H → Q' v H) → (∀ c d H, E c d H → E' c d H) → th H Q E → th H Q' E'
section
variable [TabT] {K : PySem.W.Frag} {mg : Str → Option Value} {σ σ1 : L2.St} {ρ ρ1 : DEnv} {F H F0 H0 F1 H1 F2 H2 : Hp} {th : TH} {W W' : WX} {D D' : Ends} {k k' : RF → RS}
theorem ThKn.sub (m : MonoT th) (h : ThKn K mg W th F0 H0 k D) (c : ∀ r F2 H2, SR K F2 H2 [] [] → OutS K mg W [] [] F2 H2 (k r) D → OutS K mg W' [] [] F2 H2 (k' r) D') : ThKn K mg W' th F0 H0 k' D' := fun F1 H1 s e =>
  m _ _ _ _ _ (fun v H2 ⟨F2, d, a, b, r, o⟩ => ⟨F2, d, a, b, r, c _ _ _ a o⟩) (fun cl dd H2 ⟨F2, x, a, b, r, o⟩ => ⟨F2, x, a, b, r, c _ _ _ a o⟩) (h F1 H1 s e)
end
/-! ### statements that ask -/
/-! ### the def -/
end DL
set_option maxHeartbeats 1000000
/-! DL115: a lambda that may change what it captured, handed to a def with further data; readings. -/
namespace DL
open PySem PySem.Spec PyProof.Rows L2 LamX
end DL
set_option maxHeartbeats 1000000
/-! DL116: reading defs that ask, and their calls. -/
namespace DL
open PySem PySem.Spec PyProof.Rows L2
end DL
set_option maxHeartbeats 1000000
/-! DL117: an expression that asks first; if with a branch that asks and ends. -/
namespace DL
open PySem PySem.Spec PyProof.Rows L2
/-! ### readings -/
end DL
set_option maxHeartbeats 1000000
/-! DL118: a def with *args alone, called without arguments. -/
namespace DL
open PySem PySem.Spec PyProof.Rows L2
/-- an operation, as data; a log, as data; one that is a log if its operations are -/
def opW : D → Bool
  | .tup [.str k, .int v, .int b, .int e] => (decide (k = ("read" : Str)) || decide (k = ("write" : Str))) && (decide (-1000000000000000000000 ≤ v) && decide (v ≤ 1000000000000000000000)) && (decide (-1000000000000000000000 ≤ b) && decide (b ≤ 1000000000000000000000)) && (decide (-1000000000000000000000 ≤ e) && decide (e ≤ 1000000000000000000000))
  | _ => false
open PySem PySem.Spec PyProof.Rows L2
end DL
set_option maxHeartbeats 4000000
/-! DL119: a tuple times 1 is the tuple itself. -/
namespace DL
open PySem PySem.Spec PyProof.Rows L2
end DL
set_option maxHeartbeats 1000000
/-! DL120: texts: split, join, startswith, index, int(text), in a text, a text times an int, a loop over a text. -/
namespace DL
open PySem PySem.Spec PyProof.Rows L2
variable [TabT]
def strsD : List D → Option (List Str)
  | [] => some []
  | .str x :: ds => (strsD ds).map (x :: ·)
  | _ :: _ => none
theorem strsD_map : ∀ (ns : List Str), strsD (ns.map D.str) = some ns
  | [] => rfl
  | n :: ns => by
    show (strsD (ns.map D.str)).map (n :: ·) = _
    rw [strsD_map ns]; rfl
theorem strsD_ok {ds : List D} {ns : List Str} (h : strsD ds = some ns) : ds = ns.map D.str := by
  induction ds generalizing ns with
  | nil => cases h; rfl
  | cons d ds ih =>
    cases d <;> try (cases h; done)
    rename_i x
    unfold strsD at h
    cases q : strsD ds with
    | none => rw [q] at h; cases h
    | some ms => rw [q] at h; cases h; rw [ih q]; rfl
section
variable {K : PySem.W.Frag} {F H : Hp}
theorem RepL.strsV : ∀ {vs : List V} {ns : List Str}, RepL K F vs (ns.map D.str) → vs = ns.map V.str
  | _, [], .nil => rfl
  | _, n :: ns, .cons a b => by
    cases a
    rw [RepL.strsV b]
    rfl
theorem RepL.strs : ∀ {ns : List Str}, RepL K F (ns.map V.str) (ns.map D.str)
  | [] => .nil
  | n :: ns => .cons (.str n) (RepL.strs (ns := ns))
def txt (r : V → List V → Hp → VK → Prop) : R2 := fun x y H Q => (∃ a, x = .str a) ∧ r x [y] H Q
/-! startswith -/
def swD : D → D → Option Val
  | .str a, .str b => some (.d (.bl (Txt.startswith a b)))
  | _, _ => none
theorem os_sw : OpS K (txt fun x xs H Q => ∃ a b, x = .str a ∧ xs = [.str b] ∧ Q (.bl (Txt.startswith a b)) H) swD := by
  intro F H v w a b z Q s ra rb e q
  unfold swD at e
  split at e
  · obtain rfl := ra.str; obtain rfl := rb.str
    cases e
    exact ⟨⟨_, rfl⟩, _, _, rfl, rfl, vn_bl s q⟩
  · cases e
/-! split -/
def splitD : D → D → Option Val
  | .str a, .str b => if (b.length == 0) = false ∧ a.length + 2 ≤ 16777216 then some (.fr (.lst ((Txt.split a b).map D.str))) else none
  | _, _ => none
theorem os_split : OpS K (txt fun x xs H Q => ∃ a b, x = .str a ∧ xs = [.str b] ∧ (b.length == 0) = false ∧ a.length + 2 ≤ sizeLine ∧ rNewStrs (Txt.split a b) H Q) splitD := by
  intro F H v w a b z Q s ra rb e q
  unfold splitD at e
  split at e
  · obtain rfl := ra.str; obtain rfl := rb.str
    split at e
    · rename_i h
      cases e
      exact ⟨⟨_, rfl⟩, _, _, rfl, rfl, h.1, by rw [sizeLine_eq]; exact h.2, fun p hp => vn_lst s q RepL.strs hp⟩
    · cases e
  · cases e
/-! join -/
def joinL (a : Str) (ds : List D) : Option Val := match strsD ds with
  | some ys => if (ys.map (·.length)).sum + ys.length * a.length ≤ 16777216 then some (.d (.str (Txt.join a ys))) else none
  | none => none
def joinD : D → D → Option Val
  | .str a, .lst ds => joinL a ds
  | .str a, .tup ds => joinL a ds
  | _, _ => none
theorem os_join : OpS K (txt fun x xs H Q => ∃ a p, ∃ ys : List Str, x = .str a ∧ xs = [.ref p] ∧ (SqL K H p (ys.map V.str) ∨ SqT K H p (ys.map V.str)) ∧
    (ys.map (·.length)).sum + ys.length * a.length ≤ 16777216 ∧ Q (.str (Txt.join a ys)) H) joinD := by
  intro F H v w a b z Q s ra rb e q
  have fin : ∀ {a : Str} {ds : List D}, joinL a ds = some z → ∃ ys : List Str, ds = ys.map D.str ∧ (ys.map (·.length)).sum + ys.length * a.length ≤ 16777216 ∧ z = .d (.str (Txt.join a ys)) := fun {a ds} e => by
    unfold joinL at e
    split at e
    · rename_i ys hy
      split at e
      · rename_i h; cases e; exact ⟨ys, strsD_ok hy, h, rfl⟩
      · cases e
    · cases e
  unfold joinD at e
  split at e
  · obtain rfl := ra.str
    obtain ⟨p, xs, rfl, hl, r⟩ := rb.lst
    obtain ⟨ys, rfl, h, rfl⟩ := fin e
    obtain rfl := r.strsV
    exact ⟨⟨_, rfl⟩, _, p, ys, rfl, rfl, .inl (.of hl), h, vn_str s q⟩
  · obtain rfl := ra.str
    obtain ⟨p, xs, rfl, hl, r⟩ := rb.tup s
    obtain ⟨ys, rfl, h, rfl⟩ := fin e
    obtain rfl := r.strsV
    exact ⟨⟨_, rfl⟩, _, p, ys, rfl, rfl, .inr hl, h, vn_str s q⟩
  · cases e
/-! index -/
def sixD : D → D → Option Val
  | .str a, .str b => match Builtin.Str.occurrences a b 0 a.length 1 with
    | i :: _ => some (.d (.int (i : Nat)))
    | [] => none
  | _, _ => none
/-! int(text) -/
def intTD : List D → Option Val
  | [.str a] => match PySem.intText? a with
    | some n => if a.length ≤ 640 then some (.d (.int n)) else none
    | none => none
  | _ => none
theorem cs_intT : CallS K (fun xs H Q => ∃ a n, xs = [.str a] ∧ PySem.intText? a = some n ∧ a.length ≤ 640 ∧ Q (.int n) H) intTD := by
  intro F H vs as z Q s ra e q
  unfold intTD at e
  split at e
  · rename_i a
    split at e
    · rename_i n hn
      split at e
      · rename_i hl
        cases e
        obtain ⟨v, rfl, r⟩ := rep1 ra
        obtain rfl := r.str
        exact ⟨_, _, rfl, hn, hl, vn_int s q⟩
      · cases e
    · cases e
  · cases e
/-! in a text -/
def inTD : D → D → Option Val
  | .str i, .str j => some (.d (.bl (!(Builtin.Str.occurrences j i 0 j.length 1).isEmpty)))
  | _, _ => none
theorem os_inT : OpS K (fun x y H Q => ∃ i j, x = .str i ∧ y = .str j ∧ Q (.bl (!(Builtin.Str.occurrences j i 0 j.length 1).isEmpty)) H) inTD := by
  intro F H v w a b z Q s ra rb e q
  unfold inTD at e
  split at e
  · obtain rfl := ra.str; obtain rfl := rb.str
    cases e
    exact ⟨_, _, rfl, rfl, vn_bl s q⟩
  · cases e
/-! a text times an int -/
end
section
variable {X : Cx} {W : WX} {a b e : Expr} {f g : EM} {apos pos : Pos}
def eTx (f : EM) : EM := fun ρ => (f ρ).bind fun x ρ1 => match x with
  | .d (.str a) => .ok (.d (.str a)) ρ1
  | _ => .bad
theorem de_m1 {op : D → D → Option Val} {r : V → List V → Hp → VK → Prop} (hp : PE X e (tM1 r (tD X.K X.mg W f) (tD X.K X.mg W g))) (s : OpS X.K (txt r) op) : DE X W e (eOp op (eTx f) g) :=
  pe_conseq hp fun σ H Q hq => by
    obtain ⟨F, ρ, sr, q⟩ := hq
    unfold eOp eTx at q
    cases hf : f ρ with
    | bad => rw [hf] at q; exact q.elim
    | ex x ρ1 =>
      rw [hf] at q
      refine ⟨F, ρ, sr, ?_⟩
      rw [hf]
      exact q
    | ok x ρ1 =>
      rw [hf] at q
      refine ⟨F, ρ, sr, ?_⟩
      rw [hf]
      intro v F1 H1 s1 ev1 r1
      change Out X.K X.mg _ (relV X.K σ) σ ρ F H ((match x with
        | .d (.str a) => R.ok (Val.d (.str a)) ρ1
        | _ => .bad).bind _) Q at q
      split at q
      · rename_i a
        have r1 : VR X.K σ H F1 H1 ρ1 v (.d (.str a)) := r1
        obtain rfl := vr_str r1
        refine ⟨⟨a, rfl⟩, F1, ρ1, s1, ?_⟩
        have q : Out X.K X.mg (fun c d H => W c d σ H) (relV X.K σ) σ ρ F H ((g ρ1).bind fun y ρ2 => opV op (.d (.str a)) y ρ2) Q := q
        refine (Out.bind (rel := relV X.K σ) (q.from ev1 (relV_from ev1))).mono fun w H2 ⟨y, F2, ρ2, e2, s2, ev2, r2, o3⟩ => ?_
        exact (opV_ok s s2 (VR.ev r1 ev2) r2 (o3.from ev2 (relV_from ev2))).2
      · exact q.elim
theorem de_sw (ha : DE X W a f) (hb : DE X W b g) (hs : starEach [b] X.env = [(false, eval b X.env)] := by rfl) (hbase : attributeBase a "startswith" X.env (eval a X.env) = eval a X.env := by rfl) (hline : (apos.endLine == pos.line) = true := by rfl) :
    DE X W (.Call (.Attribute a "startswith" apos) [b] [] pos) (eOp swD (eTx f) g) := de_m1 (pe_m1 F.slot_str_startswith F.type_str_startswith mt_startswith ha hb hs hbase hline) os_sw
theorem de_split (ha : DE X W a f) (hb : DE X W b g) (hs : starEach [b] X.env = [(false, eval b X.env)] := by rfl) (hbase : attributeBase a "split" X.env (eval a X.env) = eval a X.env := by rfl) (hline : (apos.endLine == pos.line) = true := by rfl) :
    DE X W (.Call (.Attribute a "split" apos) [b] [] pos) (eOp splitD (eTx f) g) := de_m1 (pe_split ha hb hs hbase hline) os_split
theorem de_join (ha : DE X W a f) (hb : DE X W b g) (hs : starEach [b] X.env = [(false, eval b X.env)] := by rfl) (hbase : attributeBase a "join" X.env (eval a X.env) = eval a X.env := by rfl) (hline : (apos.endLine == pos.line) = true := by rfl) :
    DE X W (.Call (.Attribute a "join" apos) [b] [] pos) (eOp joinD (eTx f) g) := de_m1 (pe_join ha hb hs hbase hline) os_join
theorem de_inT (ha : DE X W a f) (hb : DE X W b g) (hm : behindInMarks .In b = false := by rfl) : DE X W (.Compare a [.In] [b] pos) (eOp inTD f g) := de_cmp op_in_str os_inT ha hb hm
end
end DL
set_option maxHeartbeats 1000000
/-! DL121: a text times an int; a loop over a text; stars in displays and in targets. -/
namespace L2
open PySem PySem.Spec PyProof.Rows
section
variable {prog : Program} {w : World} {A : Around} {E : Value → Shared → Prop} {s : Shared}
/-- a, *b = a list: the first one is drawn, the others make a list -/
theorem unpack_star1 {l : Addr} {items : Array Value} {x : Value} {rest : List Value} {Q : List Value → Shared → Prop} (hl : s.heap.IsList l items) (hh : A.handled = none) (he : items.toList = x :: rest) (hz : items.size ≤ 16777216)
    (h : ∀ (h' : Heap) (tk : Nat), (∀ b o, s.heap.get? b = some o → h'.get? b = some o) → Q [x, .ref h'.objs.size] { s with heap := h'.push { cls := .type "list", data := .seq rest.toArray }, toks := tk }) : wpAny (model prog w) A (unpackItems (.ref l) 2 (some 1)) Q E s := by
  have hlt : l ≠ s.heap.objs.size := by obtain ⟨o, ho, _⟩ := hl; exact Nat.ne_of_lt (Heap.lt_size ho)
  have hsz : 1 ≤ items.size := by rw [← Array.length_toList, he]; simp
  unfold unpackItems
  refine wpAny_bind ?_
  unfold notIterableAtAll
  refine wpAny_bind (wpAny_specialOf hl.typeIs PySem.F.slot_list_iter.lookup ?_)
  refine wpAny_pure ?_
  simp only [Bool.false_eq_true, if_false]
  refine wpAny_bind (wpAny_holding (wpAny_pyIter_list hl ?_))
  refine wpAny_bind (wpAny_holding (PySem.W.kun_draw hlt 1 0 _ _ ⟨_, Heap.get?_push_size _ rfl, rfl, rfl⟩ (hl.push _) (by omega) fun h₁ hit₁ hs₁ => ?_))
  have hl₁ : h₁.IsList l items := (hl.push _).extBut hs₁.extBut hlt
  rw [Nat.zero_add] at hit₁
  have hit₁' := hit₁
  obtain ⟨oi, hoi, _⟩ := hit₁'
  have hl₁' := hl₁
  obtain ⟨ol, hol, _⟩ := hl₁'
  rw [List.drop_zero]
  have hfl : items.toList.take 1 = [x] := by rw [he]; rfl
  rw [hfl]
  rw [if_neg (show ¬ (([x] : List Value).length < 1) by simp)]
  refine wpAny_bind (wpAny_holding (PySem.W.kun_collect (s := { s with heap := h₁ }) (T := "list_iterator") (.inr (.inr (.inl rfl))) (Walks.list (A := A.in1) hh s.heap.objs.size l hlt items) (fun j u st => st.1.typeIs) (k := 1) (by omega) ⟨hit₁, hl₁⟩ (Heap.lt_size hoi) (Heap.lt_size hol) (fun h₂ tk hk => ?_) (by rw [sizeLine_eq]; exact hz)))
  have hd : items.toList.drop 1 = rest := by rw [he]; rfl
  rw [hd]
  show wpAny _ _ (if rest.length < 2 - 1 - 1 then _ else _) _ _ _
  rw [if_neg (by omega)]
  show wpAny _ _ (newList (rest.take (rest.length - (2 - 1 - 1))) >>= fun d => pure ([x] ++ [d] ++ rest.drop (rest.length - (2 - 1 - 1)))) _ _ _
  have e0 : rest.length - (2 - 1 - 1) = rest.length := by omega
  rw [e0, List.take_length, List.drop_length]
  have hr : rest.length ≤ sizeLine := by
    have : items.toList.length = rest.length + 1 := by rw [he]; simp
    rw [Array.length_toList] at this
    rw [sizeLine_eq]; omega
  exact wpAny_bind (wpAny_newList (s := { s with heap := h₂, toks := tk }) (wpAny_pure (h h₂ tk (fun b o e => hk b o (Nat.ne_of_lt (Heap.lt_size e)) (hs₁.extBut b o (Nat.ne_of_lt (Heap.lt_size e)) (Heap.get?_push_of_some _ e))))) hr)
end
section
variable {X : Cx} {pos p : Pos}
theorem pgs_star {e : Expr} {t : TG} (h1 : PG X e t) (hs : (assignEach [.Starred e p] X.env).map (·.2) = [assign e X.env] := by rfl) : PGs X [.Starred e p] (gCons t gNil) := by
  refine ⟨fun pins s σ H vs us Q I r h => ?_⟩
  obtain ⟨v, vr, e1, h⟩ := h
  subst e1
  cases r with
  | cons r rr =>
    rw [hs]
    refine assignInOrder_cons (thn (h1.run pins s σ H _ _ _ I r h) fun _ s1 ⟨σ1, H1, I1, q1⟩ => ?_)
    obtain ⟨e2, q1⟩ := q1
    subst e2
    cases rr
    exact assignInOrder_nil ⟨_, _, I1, q1⟩
def gStar1 (K : PySem.W.Frag) (t : TGs) : TG := fun v σ H Q => ∃ a x xs, v = .ref a ∧ SqL K H a (x :: xs) ∧ ∀ p, H p = none → t [x, .ref p] σ (upd H p (.lst xs)) Q
theorem pg_star1 {es : List Expr} {k : Nat} {t : TGs} (hc : X.calm = true) (h : PGs X es t)
    (hn : (assignEach es X.env).length = 2 := by rfl) (hst : (assignEach es X.env).findIdx? (·.1) = some 1 := by rfl) : PG X (.Tuple es k pos) (gStar1 X.K t) := by
  refine ⟨fun pins s σ H v u Q I r hw => ?_⟩
  obtain ⟨a, x, xs, e1, hq, hw⟩ := hw
  subst e1
  cases r
  obtain ⟨its, rv, pl, hz⟩ := I.list hq
  cases rv with
  | @cons _ u0 _ us r0 rs =>
  rw [assign_Tuple]
  refine wpAny_bind (wpAny_standAt ?_)
  unfold unpack
  rw [hn, hst]
  refine wpAny_bind (wpAny_holding (unpack_star1 pl.isList (I.ok.hd hc) (x := u0) (rest := us) (by simp) (by rw [sizeLine_eq] at hz; simpa [rs.length] using hz) fun h' tk hk => ?_))
  have I1 : Inv X pins σ H { s with heap := h', toks := tk } := I.kept hk
  have I2 : Inv X pins σ (upd H h'.objs.size (.lst xs)) { s with heap := h'.push { cls := .type "list", data := .seq us.toArray }, toks := tk } :=
    I1.laid (t' := tk) (fun c o e => Heap.get?_push_of_some _ e) (Nat.le_refl _) (show ObjOk X.prog X.w _ _ _ (.lst xs) from ⟨by simp at hz; omega, us, 0, rs, Heap.get?_push_size _ rfl⟩)
  exact h.run pins _ σ _ _ _ Q I2 (.cons r0 (.cons (show RelV (.ref h'.objs.size) (Value.ref h'.objs.size) from rfl) .nil)) (hw _ (I1.hok.fresh (Nat.le_refl _)))
end
section
variable {X : Cx}
def strN (x : Str) (n : Nat) : Str := ⟨(List.replicate n x.cps).foldl (· ++ ·) #[]⟩
theorem op_strN : OpR X (binaryOp .Mult) (fun x y H Q => ∃ z k, x = .str z ∧ y = .int k ∧ 2 ≤ k ∧ k ≤ 1000000 ∧ 1 ≤ z.length ∧ z.length * k.toNat ≤ 1000000 ∧ (strN z k.toNat).length ≤ 1000000 ∧ Q (.str (strN z k.toNat)) H) := by
  intro pins s σ H x y v u Q I rx ry h
  obtain ⟨z, k, rfl, rfl, h1, h2, h3, h4, h5, q⟩ := h
  obtain ⟨t, rfl⟩ := rx
  obtain ⟨t', rfl⟩ := ry
  refine PySem.P.mul_str (by rw [decide_eq_false (by omega), decide_eq_false (by omega)] <;> rfl) (fun _ _ => ?_) (fun _ _ => ?_) ?_
  · have : ((z.length : Nat) : Int) ≤ 1000000 := by
      have : z.length * 1 ≤ z.length * k.toNat := Nat.mul_le_mul_left _ (by omega)
      omega
    have h6 : (9000000000000 : Int) ≤ (2 ^ 63 - 1) / k := by
      refine (Int.le_ediv_iff_mul_le (by omega)).mpr ?_
      omega
    omega
  · show decide (z.length * k.toNat > sizeLine) = false; rw [sizeLine_eq]; exact decide_eq_false (by omega)
  · rw [if_neg (by omega), if_neg (by
      have : (k == 1) = false := by simp; omega
      rw [this]
      have : (z.length == 0) = false := by simp; omega
      rw [this]; decide)]
    exact ⟨by rw [sizeLine_eq]; exact Nat.le_trans h5 (by decide), .str _, H, I.tok _, ⟨_, rfl⟩, q⟩
end
end L2
namespace DL
open PySem PySem.Spec PyProof.Rows L2
variable [TabT]
section
variable {K : PySem.W.Frag} {F H : Hp}
def mulTx : D → D → Option Val
  | .str x, .int k => if 2 ≤ k ∧ k ≤ 1000000 ∧ 1 ≤ x.length ∧ x.length * k.toNat ≤ 1000000 ∧ (strN x k.toNat).length ≤ 1000000 then some (.d (.str (strN x k.toNat))) else none
  | _, _ => none
theorem os_mulTx : OpS K (fun x y H Q => ∃ z k, x = .str z ∧ y = .int k ∧ 2 ≤ k ∧ k ≤ 1000000 ∧ 1 ≤ z.length ∧ z.length * k.toNat ≤ 1000000 ∧ (strN z k.toNat).length ≤ 1000000 ∧ Q (.str (strN z k.toNat)) H) mulTx := by
  intro F H v w a b z Q s ra rb e q
  unfold mulTx at e
  split at e
  · obtain rfl := ra.str; obtain rfl := rb.int
    split at e
    · rename_i h
      cases e
      exact ⟨_, _, rfl, rfl, h.1, h.2.1, h.2.2.1, h.2.2.2.1, h.2.2.2.2, vn_str s q⟩
    · cases e
  · cases e
def strSrc (x : Val) : M Src := fun ρ => match x with
  | .d (.str a) => .ok (a.cps.toList.map fun c => D.str ⟨#[c]⟩, none) ρ
  | _ => .bad
def iTxt (f : EM) : IM := fun ρ => (f ρ).bind strSrc
theorem its_txt {σ : L2.St} {lk : Option Nat} {x : Str} {F1 H1 : Hp} : ItS K (Its x) (x.cps.toList.map fun c => D.str ⟨#[c]⟩) (PreI σ lk F1 H1) where
  go := fun i F H hi s p => by
    show i < x.cps.size
    simpa using hi
  yld := fun i v F H H' hi s p hy => by
    obtain ⟨rfl, c, hc, rfl⟩ := hy
    refine ⟨.str ⟨#[c]⟩, F, ?_, .refl s, .str _⟩
    rw [List.getElem?_map, Array.getElem?_toList, hc]
    rfl
  stop := fun i F H hi s p => by
    show x.cps.size ≤ i
    simpa using hi
end
section
variable {X : Cx} {W : WX} {tg a b e : Expr} {es : List Expr} {f g : EM} {apos pos p : Pos}
theorem di_txt (he : DE X W e f) : DI X W tg e (iTxt f) := pi_conseq (pi_str he) fun σ H R hq => by
  obtain ⟨F, ρ, sr, q⟩ := hq
  refine ⟨F, ρ, sr, (Out.bind (rel := relV X.K σ) q).mono fun v H1 ⟨x, F1, ρ1, e1, s1, ev1, r1, o1⟩ => ?_⟩
  unfold strSrc at o1
  split at o1
  · rename_i a
    obtain rfl := vr_str r1
    exact ⟨a, rfl, o1 _ F1 H1 s1 ev1 ⟨its_txt, fun i z => by cases z⟩⟩
  · exact o1.elim
/-! *e in a display -/
def aStar (f : EM) (g : M (List Val)) : M (List Val) := fun ρ => (f ρ).bind fun x ρ1 => match x with
  | .d (.lst ds) => (g ρ1).bind fun ys ρ2 => .ok (ds.map Val.d ++ ys) ρ2
  | .d (.tup ds) => (g ρ1).bind fun ys ρ2 => .ok (ds.map Val.d ++ ys) ρ2
  | _ => .bad
theorem da_star {g : M (List Val)} (he : DE X W e f) (hr : DA X W es g) (hs : starEach (.Starred e p :: es) X.env = (true, eval e X.env) :: starEach es X.env := by rfl) : DA X W (.Starred e p :: es) (aStar f g) :=
  pa_conseq (StX.pa_star he hr hs) fun σ H Q hq => by
    obtain ⟨F, ρ, sr, q⟩ := hq
    refine ⟨F, ρ, sr, (Out.bind (rel := relV X.K σ) q).mono fun v H1 ⟨x, F1, ρ1, e1, s1, ev1, r1, o1⟩ => ?_⟩
    have fin : ∀ {ds : List D} {vs : List V}, RepL X.K F1 vs ds → Out X.K X.mg (fun c d H => W c d σ H) (relL X.K σ) σ ρ F H ((g ρ1).bind fun ys ρ2 => .ok (ds.map Val.d ++ ys) ρ2) Q → tA X.K X.mg W g σ H1 fun ys H2 => Q (vs ++ ys) H2 := fun {ds vs} r o => by
      refine ⟨F1, ρ1, s1, (Out.bind (rel := relL X.K σ) (o.from ev1 (relL_base ev1))).mono fun us H2 ⟨ys, F2, ρ2, e2, s2, ev2, r2, o2⟩ => ?_⟩
      have all : ∀ {H : Hp} {vs : List V} {ds : List D}, RepL X.K F2 vs ds → Paired (VR X.K σ H F2 H2 ρ2) vs (ds.map Val.d) := fun {H vs ds} r => by
        induction ds generalizing vs with
        | nil => cases r; exact .nil
        | cons d ds ih => cases r with
          | cons a b => exact .cons a (ih b)
      have nofr : ∀ {i : Nat} {c : Cont}, (ds.map Val.d)[i]? ≠ some (.fr c) := fun {i c} z => by
        rw [List.getElem?_map] at z
        cases h : ds[i]? <;> rw [h] at z <;> cases z
      have r2' : VRL X.K σ H F2 H2 ρ2 us ys := relL_base ev1 _ _ _ _ _ r2
      have hl : (vs ++ us).length = (vs ++ us).length := rfl
      refine o2 _ F2 H2 s2 ev2 ⟨paired_app (all (r.mono (.of ev2.ext))) r2.all, fun i j c c' p h1 h2 h3 h4 => ?_⟩
      have hlen : (ds.map Val.d).length = vs.length := by rw [List.length_map, r.length]
      have lo : ∀ {i : Nat} {c : Cont}, (ds.map Val.d ++ ys)[i]? = some (.fr c) → vs.length ≤ i := fun {i c} z => by
        rcases Nat.lt_or_ge i (ds.map Val.d).length with q | q
        · rw [List.getElem?_append_left q] at z; exact absurd z nofr
        · omega
      have a1 := lo h1
      have a2 := lo h2
      rw [List.getElem?_append_right (by omega)] at h1 h2 h3 h4
      rw [hlen] at h1 h2
      have := r2.frs _ _ c c' p h1 h2 h3 h4
      omega
    split at o1
    · rename_i ds
      have r1 : Rep X.K F1 v (.lst ds) := r1
      cases r1 with
      | lst e r => exact ⟨_, _, rfl, .inr (.inl (.of (s1.sub _ _ e))), fin r o1⟩
    · rename_i ds
      have r1 : Rep X.K F1 v (.tup ds) := r1
      cases r1 with
      | tup e r => exact ⟨_, _, rfl, .inl ((RdLe.of s1.sub).sqT e), fin r o1⟩
    · exact o1.elim
end
end DL
set_option maxHeartbeats 1000000
/-! DL122: a, *b = a list. -/
namespace DL
open PySem PySem.Spec PyProof.Rows L2
variable [TabT]
def starG (i j : Nat) : Val → SM := fun x ρ => match x.peek ρ with
  | some (.lst (d :: ds)) => (put i (.d d) ρ).thenS (put j (.ow (.lst ds) .own))
  | _ => .bad
theorem nx_starG (i j : Nat) : NxG (starG i j) := fun x ρ => by
  unfold starG
  split
  · rcases put_cases (.d _) ρ i with h | ⟨ρ', h⟩
    · rw [h]; exact .inr rfl
    · rw [h]
      exact (put_cases _ ρ' j).symm
  · exact .inr rfl
section
variable {X : Cx} {pos p1 p2 p : Pos} {k : Nat}
theorem dg_star (i j : Nat) {x y : Str} (hc : X.calm = true) (hN : X.N.Nodup) (hi : X.N[i]? = some x := by rfl) (hj : X.N[j]? = some y := by rfl) (hx : Loc X.env.scope x := by first | exact .inl rfl | exact .inr rfl) (hf : X.fn x = true ∨ X.env.scope.names.lookup x = some .local := by first | exact .inl rfl | exact .inr rfl)
    (hy : Loc X.env.scope y := by first | exact .inl rfl | exact .inr rfl) (hg : X.fn y = true ∨ X.env.scope.names.lookup y = some .local := by first | exact .inl rfl | exact .inr rfl)
    (hn : (assignEach [.Name x p1, .Starred (.Name y p2) p] X.env).length = 2 := by rfl) (hst : (assignEach [.Name x p1, .Starred (.Name y p2) p] X.env).findIdx? (·.1) = some 1 := by rfl)
    (h1 : (assignEach [.Name x p1, .Starred (.Name y p2) p] X.env).map (·.2) = assign (.Name x p1) X.env :: (assignEach [.Starred (.Name y p2) p] X.env).map (·.2) := by rfl) (h2 : (assignEach [.Starred (.Name y p2) p] X.env).map (·.2) = [assign (.Name y p2) X.env] := by rfl) :
    DG X (.Tuple [.Name x p1, .Starred (.Name y p2) p] k pos) [i, j] (starG i j) :=
  pg_conseq (pg_star1 hc (pgs_cons (pg_name hN hi hx hf) (pgs_star (pg_name hN hj hy hg) h2) h1) hn hst) fun v σ H Q hq => by
    obtain ⟨σb, ρb, Fb, Hb, F, ρ, z, sr, ev, r, q⟩ := hq
    unfold starG at q
    split at q
    · rename_i d ds hz
      obtain ⟨a, vs, rfl, hl, rl⟩ := (r.peek sr hz).lst
      cases rl with
      | @cons w ws _ _ ra rs =>
      refine ⟨a, w, ws, rfl, .inl (.of hl), fun p hp => ⟨w, _, rfl, V.ref p, _, rfl, rfl, ?_⟩⟩
      obtain ⟨ρ', e1, q1⟩ := q.outS (mg := X.mg)
      rcases put_cases (.d d) ρ i with c | ⟨ρ1, c⟩
      · rw [c] at e1; cases e1
      rw [c] at e1
      have e1 : put j (.ow (.lst ds) .own) ρ1 = .nx ρ' := e1
      have g := Gr.fresh (o := .lst ws) sr.sub hp
      have sr2 := g.sr sr
      have ev2 : Ev σb ρb Fb Hb σ ρ F (upd H p (.lst ws)) := ev.trans g.ev
      obtain ⟨s3, ev3⟩ := put_ok sr2 ev2 (s := .d d) (v := w) (ra.mono (.of (.refl _))) c
      have nF : F p = none := Same.free sr.sub hp
      have nOw : ¬ Ow σ ρ p := by
        have cr : CRep X.K F (upd H p (.lst ws)) p (.lst ds) := ⟨ws, upd_same, rs⟩
        obtain ⟨p', e, _, _, _, no⟩ := fr_vr sr hp nF cr
        cases e
        exact no
      have hb : Hb p = none := by
        cases h : Hb p with
        | none => rfl
        | some o =>
          have := ev.dom p (by rw [h]; simp)
          exact absurd hp this
      obtain ⟨hl1, rfl, hm⟩ := put_nx c
      obtain ⟨s4, ev4⟩ := put_ok s3 ev3 (s := .ow (.lst ds) .own) (v := .ref p) ⟨rfl, p, rfl, hb, nF, ⟨ws, upd_same, rs⟩, fun z => by
        rcases ow_set z with z | ⟨⟨c, m, e⟩, _⟩
        · exact nOw z
        · cases e⟩ e1
      refine q1 _ _ _ s4 ev4 ⟨by rw [List.length_set, List.length_set], fun n hn => ?_⟩
      have n1 : i ≠ n := fun e => hn (by simp [e])
      have n2 : j ≠ n := fun e => hn (by simp [e])
      rw [List.getElem?_set_ne n2, List.getElem?_set_ne n1]
    · exact q.elim
end
end DL
set_option maxHeartbeats 1000000
/-! DL123: reading rules for texts and stars. -/
namespace DL
open PySem PySem.Spec PyProof.Rows L2
section
variable {ρ ρ1 ρ2 : DEnv} {i j : Nat} {x y : Val} {d a b : D} {ds : List D} {f g : EM} {gl : M (List Val)} {Q : Val → DEnv → Prop} {QA : List Val → DEnv → Prop} {QI : Src → DEnv → Prop} {X : Ex → DEnv → Prop} {P : Po} {s t : Str}
def txV (x : Val) : EM := fun ρ1 => match x with
  | .d (.str a) => .ok (.d (.str a)) ρ1
  | _ => .bad
theorem b_eTx (q : (f ρ).wp (fun x ρ1 => (txV x ρ1).wp Q X) X) : (eTx f ρ).wp Q X := b_bind q
theorem b_txV (q : Q (.d (.str s)) ρ) : (txV (.d (.str s)) ρ).wp Q X := q
instance st_eTx : St ((eTx f ρ).wp Q X) ((f ρ).wp (fun x ρ1 => (txV x ρ1).wp Q X) X) := ⟨b_eTx⟩
instance st_txV : St ((txV (.d (.str s)) ρ).wp Q X) (Q (.d (.str s)) ρ) := ⟨b_txV⟩
instance st_sw : St ((opV swD (.d (.str s)) (.d (.str t)) ρ).wp Q X) (Q (.d (.bl (Txt.startswith s t))) ρ) := ⟨fun q => b_opV rfl rfl rfl q⟩
instance st_inT : St ((opV inTD (.d (.str s)) (.d (.str t)) ρ).wp Q X) (Q (.d (.bl (!(Builtin.Str.occurrences t s 0 t.length 1).isEmpty))) ρ) := ⟨fun q => b_opV rfl rfl rfl q⟩
theorem x_split (h1 : x.peek ρ = some (.str s)) (h2 : y.peek ρ = some (.str t)) (ht : (t.length == 0) = false) (hs : s.length ≤ 16000000) (q : Q (.fr (.lst ((Txt.split s t).map D.str))) ρ) : (opV splitD x y ρ).wp Q X :=
  b_opV h1 h2 (if_pos ⟨ht, by omega⟩) q
theorem x_join {ys : List Str} (h1 : x.peek ρ = some (.str s)) (h2 : y.peek ρ = some (.lst (ys.map D.str)) ∨ y.peek ρ = some (.tup (ys.map D.str))) (hs : (ys.map (·.length)).sum + ys.length * s.length ≤ 16777216) (q : Q (.d (.str (Txt.join s ys))) ρ) : (opV joinD x y ρ).wp Q X := by
  have e : joinL s (ys.map D.str) = some (.d (.str (Txt.join s ys))) := by
    unfold joinL
    rw [strsD_map]
    exact if_pos hs
  rcases h2 with h2 | h2
  · exact b_opV h1 h2 e q
  · exact b_opV h1 h2 e q
theorem x_six {k : Nat} {l : List Nat} (h1 : x.peek ρ = some (.str s)) (h2 : y.peek ρ = some (.str t)) (h : Builtin.Str.occurrences s t 0 s.length 1 = k :: l) (q : Q (.d (.int (k : Nat))) ρ) : (opV sixD x y ρ).wp Q X :=
  b_opV h1 h2 (by unfold sixD; dsimp only; rw [h]) q
theorem x_intT {xs : List Val} {n : Int} (h1 : peekL ρ xs = some [.str s]) (hn : PySem.intText? s = some n) (hs : s.length ≤ 640) (q : Q (.d (.int n)) ρ) : (callV intTD xs ρ).wp Q X :=
  b_callV h1 (by unfold intTD; dsimp only; rw [hn]; exact if_pos hs) q
theorem b_itxt (q : (f ρ).wp (fun x ρ1 => (strSrc x ρ1).wp QI X) X) : (iTxt f ρ).wp QI X := b_bind q
instance st_itxt : St ((iTxt f ρ).wp QI X) ((f ρ).wp (fun x ρ1 => (strSrc x ρ1).wp QI X) X) := ⟨b_itxt⟩
instance st_strSrc : St ((strSrc (.d (.str s)) ρ).wp QI X) (QI (s.cps.toList.map (fun c => D.str ⟨#[c]⟩), none) ρ) := ⟨fun q => q⟩
def starV (gl : M (List Val)) (x : Val) : M (List Val) := fun ρ1 => match x with
  | .d (.lst ds) => (gl ρ1).bind fun ys ρ2 => .ok (ds.map Val.d ++ ys) ρ2
  | .d (.tup ds) => (gl ρ1).bind fun ys ρ2 => .ok (ds.map Val.d ++ ys) ρ2
  | _ => .bad
theorem b_aStar (q : (f ρ).wp (fun x ρ1 => (starV gl x ρ1).wp QA X) X) : (aStar f gl ρ).wp QA X := b_bind q
theorem b_starL (q : (gl ρ).wp (fun ys ρ2 => QA (ds.map Val.d ++ ys) ρ2) X) : (starV gl (.d (.lst ds)) ρ).wp QA X := b_bind q
theorem b_starT (q : (gl ρ).wp (fun ys ρ2 => QA (ds.map Val.d ++ ys) ρ2) X) : (starV gl (.d (.tup ds)) ρ).wp QA X := b_bind q
instance st_aStar : St ((aStar f gl ρ).wp QA X) ((f ρ).wp (fun x ρ1 => (starV gl x ρ1).wp QA X) X) := ⟨b_aStar⟩
instance st_starL : St ((starV gl (.d (.lst ds)) ρ).wp QA X) ((gl ρ).wp (fun ys ρ2 => QA (ds.map Val.d ++ ys) ρ2) X) := ⟨b_starL⟩
instance st_starT : St ((starV gl (.d (.tup ds)) ρ).wp QA X) ((gl ρ).wp (fun ys ρ2 => QA (ds.map Val.d ++ ys) ρ2) X) := ⟨b_starT⟩
theorem dsL_map : ∀ (ds : List D), dsL (ds.map Val.d) = some ds
  | [] => rfl
  | d :: ds => by
    show (dsL (ds.map Val.d)).map (d :: ·) = _
    rw [dsL_map ds]
    rfl
theorem x_mkTup {xs : List Val} (h : dsL xs = some ds) (hl : ds.length ≤ 16777216) (q : Q (.d (.tup ds)) ρ) : (mkTup xs ρ).wp Q X := by
  unfold mkTup
  rw [h]
  dsimp only
  rw [if_pos hl]
  exact q
theorem s_starG (e : x.peek ρ = some (.lst (d :: ds))) (h1 : put i (.d d) ρ = .nx ρ1) (h2 : put j (.ow (.lst ds) .own) ρ1 = .nx ρ2) (q : P.nx ρ2) : (starG i j x ρ).wp P := by
  unfold starG
  rw [e]
  dsimp only
  rw [h1]
  show (put j (.ow (.lst ds) .own) ρ1).wp P
  rw [h2]
  exact q
end
end DL
set_option maxHeartbeats 2000000
/-! DL124: a def is handed a lambda within a comprehension. -/
namespace DL
open PySem PySem.Spec PyProof.Rows L2 LamX
end DL
set_option maxHeartbeats 1000000
/-! DL125: `x is None` where x may hold an own object. -/
namespace DL
open PySem PySem.Spec PyProof.Rows L2
def isnW (i : Nat) : EM := fun ρ => match ρ[i]? with
  | some (.d x) => .ok (.d (.bl (isNonV (.d x)))) ρ
  | some (.ow _ _) => .ok (.d (.bl false)) ρ
  | _ => .bad
section
variable [TabT] {X : Cx} {E : WX} {pos pos' p : Pos}
theorem dt_isnW (i : Nat) {x : Str} {j} (hN : X.N[i]? = some x := by rfl) (hv : Vis X.env.scope x := by first | exact Or.inl rfl | exact Or.inr (Or.inl rfl) | exact Or.inr (Or.inr rfl)) (hd : (x == ("__debug__" : Str)) = false := by decide)
    (hcd : (x == ("__classdict__" : Str)) = false := by decide) : DT X E (.Compare (.Name x p) [.Is] [.Constant .none j pos'] pos) (tst (isnW i)) :=
  pt_conseq (pt_cmp (pc_isN (pe_var hN hv hd hcd))) fun σ H Q hq => by
    obtain ⟨F, ρ, sr, q⟩ := tst_ok hq
    unfold isnW at q
    cases hs : ρ[i]? with
    | none => rw [hs] at q; exact q.elim
    | some s =>
      rw [hs] at q
      obtain ⟨ov, h1, h2⟩ := sr.slot i s hs
      cases s with
      | un => exact q.elim
      | d x =>
        obtain ⟨v, rfl, r⟩ := h2
        refine ⟨v, h1, ?_⟩
        dsimp only
        rw [isNon_ok (x := .d x) (show VR X.K σ H F H ρ v (.d x) from r) (fun i z => by cases z)]
        exact q _ F H sr .refl (Rep.bl _)
      | ow c m =>
        obtain ⟨a, rfl, r⟩ := h2
        refine ⟨_, h1, ?_⟩
        have e : decide (V.ref a = V.non) = false := by simp
        dsimp only
        rw [e]
        exact q _ F H sr .refl (Rep.bl _)
end
section
variable {ρ : DEnv} {i : Nat} {d : D} {c : Cont} {m : Md} {Q : Val → DEnv → Prop} {X : Ex → DEnv → Prop}
theorem b_isnWO (h : ρ[i]? = some (.ow c m)) (q : Q (.d (.bl false)) ρ) : (isnW i ρ).wp Q X := by
  unfold isnW
  rw [h]
  exact q
theorem b_isnWD (h : ρ[i]? = some (.d d)) (q : Q (.d (.bl (isNonV (.d d)))) ρ) : (isnW i ρ).wp Q X := by
  unfold isnW
  rw [h]
  exact q
end
end DL
set_option maxHeartbeats 1000000
/-! DL126: str of ints, bools and texts. -/
namespace DL
open PySem PySem.Spec PyProof.Rows L2
variable [TabT]
def strZ : List D → Option Val
  | [.str x] => some (.d (.str x))
  | xs => strX xs
def rStrZ : List V → Hp → VK → Prop := fun xs H Q => rStrX xs H Q ∨ ∃ a, xs = [.str a] ∧ Q (.str a) H
theorem call_strZ {X : Cx} : CallR X (.type "str") rStrZ := callr_or call_strX SkE.call_str_str
theorem cs_strZ {K : PySem.W.Frag} : CallS K rStrZ strZ := by
  intro F H vs as z Q s ra e q
  unfold strZ at e
  split at e
  · cases e
    obtain ⟨v, rfl, r⟩ := rep1 ra
    obtain rfl := r.str
    exact .inr ⟨_, rfl, vn_str s q⟩
  · exact .inl (cs_strX F H vs _ z Q s ra e q)
theorem x_strZi {ρ : DEnv} {xs : List Val} {i : Int} {Q : Val → DEnv → Prop} {X : Ex → DEnv → Prop} (h1 : peekL ρ xs = some [.int i]) (h : i.natAbs.log2 < 1920) (q : Q (.d (.str (toString i))) ρ) : (callV strZ xs ρ).wp Q X := b_callV h1 (if_pos h) q
theorem x_strZs {ρ : DEnv} {xs : List Val} {a : Str} {Q : Val → DEnv → Prop} {X : Ex → DEnv → Prop} (h1 : peekL ρ xs = some [.str a]) (q : Q (.d (.str a)) ρ) : (callV strZ xs ρ).wp Q X := b_callV h1 rfl q
end DL
namespace CM
open PySem PySem.Spec PyProof.Rows L2 DL
/-! number_in: slots 0 word, 1 digits, 2 sign -/
def c1_number_in : EM := eLc [2] (iTxt (eVar 1)) (asgV 2) tYesD (fz (eOp inTD (eVar 2) (eC (.str ("0123456789" : Str)))))
def e_number_in : SM := (sSeq (sAsg 1 (eIf (tst (eOp swD (eTx (eVar 0)) (eC (.str ("-" : Str))))) (eSl (eVar 0) (oSome (eC (.int 1))) oNone) (eVar 0)))
    (sSeq (sIf (tOrM (tNotM (tst (eChain leD leD (eC (.int 1)) (eCallB lenD (aCons (eVar 1) aNil)) (eC (.int 20))))) (tNotM (tst (eCallB allD (aCons c1_number_in aNil)))))
    (sRet (eC .non))
    sSkip)
    (sSeq (sIf (tAndM (tst (eOp eqV' (eOp idxD (eVar 1) (eC (.int 0))) (eOp idxD (eC (.str ("0123456789" : Str))) (eC (.int 0))))) (tst (eOp neV' (eVar 0) (eOp idxD (eC (.str ("0123456789" : Str))) (eC (.int 0))))))
    (sRet (eC .non))
    sSkip)
    (sRet (eCallB intTD (aCons (eVar 0) aNil))))))
def s_number_in : FM := fnD 1 2 e_number_in
/-! numbers_in: slots 0 words, 1 found, 2 word -/
def c1_numbers_in : EM := eLc [2] (iSeq (eVar 0)) (asgV 2) tYesD (fz (eCall s_number_in (aCons (eVar 2) aNil)))
def e_numbers_in : SM := (sSeq (sAsg 1 c1_numbers_in)
    (sRet (eIf (tst (eOp inD (eC .non) (eVar 1))) (eC .non) (eVar 1))))
def s_numbers_in : FM := fnD 1 2 e_numbers_in
/-! line_of: slots 0 parts, 1 part -/
def c1_line_of : EM := eLc [1] (iSeq (eVar 0)) (asgV 1) tYesD (fz (eCallB strZ (aCons (eVar 1) aNil)))
def e_line_of : SM := (sRet (eOp joinD (eTx (eC (.str (" " : Str)))) c1_line_of))
def s_line_of : FM := fnD 1 1 e_line_of
/-! format_order: slots 0 order -/
/-! format_fault: slots 0 fault -/
/-! parse_fault: slots 0 text, 1 numbers, 2 word, 3 words, 4 number -/
/-! l_number: slots 0 word, 1 digits, 2 found, 3 sign -/
/-! l_spoilt: slots 0 pot_here, 1 page, 2 sign, 3 some, 4 spot, 5 far, 6 low, 7 high -/
/-! operation_in: slots 0 row, 1 numbers, 2 kind, 3 words -/
def e_operation_in : SM := (sSeq (sTgt (eOp splitD (eTx (eVar 0)) (eC (.str (" " : Str)))) (starG 2 3))
    (sSeq (sAsg 1 (eCall s_numbers_in (aCons (eVar 3) aNil)))
    (sRet (eIf (tOrM (tst (isnW 1)) (tst (eOp neV' (eCallB lenD (aCons (eVar 3) aNil)) (eOp subD (eC (.int 4)) (eC (.int 1)))))) (eC .non) (eTup (aCons (fz (eVar 2)) (aStar (fz (eVar 1)) aNil)))))))
def s_operation_in : FM := fnD 1 3 e_operation_in
/-! parse_log: slots 0 text, 1 found, 2 row -/
def c1_parse_log : EM := eLc [2] (iSeq (eOp splitD (eTx (eVar 0)) (eC (.str ("\n" : Str))))) (asgV 2) tYesD (fz (eCall s_operation_in (aCons (eVar 2) aNil)))
def e_parse_log : SM := (sSeq (sIf (tNotM (tst (eCallB isiD (aCons (eVar 0) (aCons (eC (.ty "str")) aNil)))))
    (sRaise ("BadText" : Str) [("value" : Str)] (aCons (eVar 0) aNil))
    sSkip)
    (sSeq (sAsg 1 (eIf (tst (eOp neV' (eVar 0) (eC (.str ("-" : Str))))) (eCallB tupleD (aCons c1_parse_log aNil)) (eTup aNil)))
    (sSeq (sIf (tNotM (tst (eCall s_is_log (aCons (eVar 1) aNil))))
    (sRaise ("BadText" : Str) [("value" : Str)] (aCons (eVar 0) aNil))
    sSkip)
    (sRet (eVar 1)))))
def s_parse_log : FM := fnD 1 2 e_parse_log
end CM
set_option maxHeartbeats 1000000
/-! DL127: index in a list of booleans. -/
namespace DL
open PySem PySem.Spec PyProof.Rows L2
variable [TabT]
section
variable {ρ : DEnv} {x y : Val} {f g : EM} {Q : Val → DEnv → Prop} {X : Ex → DEnv → Prop}
theorem b_opLB {op : D → D → Option Val} (q : (f ρ).wp (fun x ρ1 => (opLV op g x ρ1).wp Q X) X) : (eOpL op f g ρ).wp Q X := b_bind q
instance st_opLB {op : D → D → Option Val} : St ((eOpL op f g ρ).wp Q X) ((f ρ).wp (fun x ρ1 => (opLV op g x ρ1).wp Q X) X) := ⟨b_opLB⟩
end
end DL
set_option maxHeartbeats 2000000
/-! DL128: f-strings with columns. -/
namespace DL
open PySem PySem.Spec PyProof.Rows L2 PySem.W
open PySem.Builtin PySem.Builtin.Str PySem.Builtin.Int PySem.Builtin.Float
theorem _root_.PySem.W.KXf.ret_text_eq {M : Model} {A : Around} {E : Value → Shared → Prop} {s : Shared} {X T : PySem.Str} {Q : PySem.Fin → Shared → Prop} (e : X = T) (hL : T.length ≤ sizeLine) (h : ∀ t k, Q (.done (.ret (.str T t))) { s with toks := k }) : wpAny M A (retStr X) Q E s := by
  subst e
  exact wpAny_bind (wpAny_mkStr (wpAny_pure (h _ _)) hL)
section
variable {a : Int} {t : Tok}
theorem meets_p3 (hd : a.natAbs.log2 < 1920) (hl : (intSpecTextOf (">3" : Str) a).length ≤ sizeLine) : ∀ u, Meets («int.__format__» ⟨[.int a t, .str (">3" : Str) u], []⟩) (fun _ R s => ∀ t' k, R (.ok (.ret (.str (intSpecTextOf (">3" : Str) a) t'))) { s with toks := k }) := by
  intro u
  apply KPc.meets_of
  intro prog w A s Q E hq
  unfold Builtin.«int.__format__»
  refine wpAny_bind (wpAny_of_eq (a := (_, _)) rfl ?_)
  refine wpAny_bind (wpAny_of_eq (a := _) rfl ?_)
  kxf_if
  refine wpAny_bind (wpAny_typeNameOf (T := "str") (typeIs_str _ _ _) (by decide) fun _ => ?_)
  refine wpAny_bind (wpAny_of_eq (a := some _) rfl ?_)
  kxf_if
  kxf_if
  refine wpAny_bind (wpAny_typeNameOfCut_int ?_)
  (repeat kxf_if)
  refine wpAny_bind (wpAny_of_eq (PySem.overDigitLimit_small hd) ?_)
  (repeat kxf_if)
  exact KXf.ret_text_eq (by with_unfolding_all rfl) hl hq
/-! more columns -/
theorem meets_p10 (hd : a.natAbs.log2 < 1920) (hl : (intSpecTextOf (">10" : Str) a).length ≤ sizeLine) : ∀ u, Meets («int.__format__» ⟨[.int a t, .str (">10" : Str) u], []⟩) (fun _ R s => ∀ t' k, R (.ok (.ret (.str (intSpecTextOf (">10" : Str) a) t'))) { s with toks := k }) := by
  intro u
  apply KPc.meets_of
  intro prog w A s Q E hq
  unfold Builtin.«int.__format__»
  refine wpAny_bind (wpAny_of_eq (a := (_, _)) rfl ?_)
  refine wpAny_bind (wpAny_of_eq (a := _) rfl ?_)
  kxf_if
  refine wpAny_bind (wpAny_typeNameOf (T := "str") (typeIs_str _ _ _) (by decide) fun _ => ?_)
  refine wpAny_bind (wpAny_of_eq (a := some _) rfl ?_)
  kxf_if
  kxf_if
  refine wpAny_bind (wpAny_typeNameOfCut_int ?_)
  (repeat kxf_if)
  refine wpAny_bind (wpAny_of_eq (PySem.overDigitLimit_small hd) ?_)
  (repeat kxf_if)
  exact KXf.ret_text_eq (by with_unfolding_all rfl) hl hq
theorem meets_p17 (hd : a.natAbs.log2 < 1920) (hl : (intSpecTextOf (">17" : Str) a).length ≤ sizeLine) : ∀ u, Meets («int.__format__» ⟨[.int a t, .str (">17" : Str) u], []⟩) (fun _ R s => ∀ t' k, R (.ok (.ret (.str (intSpecTextOf (">17" : Str) a) t'))) { s with toks := k }) := by
  intro u
  apply KPc.meets_of
  intro prog w A s Q E hq
  unfold Builtin.«int.__format__»
  refine wpAny_bind (wpAny_of_eq (a := (_, _)) rfl ?_)
  refine wpAny_bind (wpAny_of_eq (a := _) rfl ?_)
  kxf_if
  refine wpAny_bind (wpAny_typeNameOf (T := "str") (typeIs_str _ _ _) (by decide) fun _ => ?_)
  refine wpAny_bind (wpAny_of_eq (a := some _) rfl ?_)
  kxf_if
  kxf_if
  refine wpAny_bind (wpAny_typeNameOfCut_int ?_)
  (repeat kxf_if)
  refine wpAny_bind (wpAny_of_eq (PySem.overDigitLimit_small hd) ?_)
  (repeat kxf_if)
  exact KXf.ret_text_eq (by with_unfolding_all rfl) hl hq
end
end DL
set_option maxHeartbeats 2000000
/-! DL129: f-strings with columns, the rules. -/
namespace DL
open PySem PySem.Spec PyProof.Rows L2 PySem.W
variable [TabT]
section
variable {X : Cx} {W : WX} {f : EM} {e : Expr} {pos p p2 : Pos} {k : Nat}
/-- {x:>w}: an int -/
def tFmtP (sp : Str) (te : TE) : TE := fun σ H Q => te σ H fun x H1 => ∃ i : Int, x = .int i ∧ i.natAbs.log2 < 1920 ∧ (intSpecTextOf sp i).length ≤ sizeLine ∧ Q (.str (intSpecTextOf sp i)) H1
theorem pe_fmtP {sp : Str} {te : TE} (m : ∀ {a : Int} {t : Tok}, a.natAbs.log2 < 1920 → (intSpecTextOf sp a).length ≤ sizeLine → ∀ u, Meets (Builtin.«int.__format__» ⟨[.int a t, .str sp u], []⟩) (fun _ R s => ∀ t' k, R (.ok (.ret (.str (intSpecTextOf sp a) t'))) { s with toks := k }))
    (hne : (sp.length == 0) = false) (hsz : sp.length ≤ sizeLine) (he : PE X e te) : PE X (.FormattedValue e (-1) (some (.JoinedStr [.Constant (.str sp) k p] p2)) pos) (tFmtP sp te) := by
  refine ⟨fun pins s σ H Q I h => ?_⟩
  refine wpAny_FormattedValue_spec (thn (he.run pins s σ H _ I h) fun v s1 hv => ?_)
  obtain ⟨x, H1, I1, r1, i, rfl, hd, hl, q⟩ := hv
  obtain ⟨t, rfl⟩ := r1
  refine wpAny_JoinedStr_one (wpAny_Constant_str ⟨sp, _, rfl, ?_⟩)
  exact KXf.field_int rfl hne hsz (m hd hl) fun t' k => ⟨.str _, H1, I1.tok _, ⟨_, rfl⟩, q⟩
/-- {x:<5}: one of the two kinds -/
def padK (x : Str) : Option Str := if x = ("read" : Str) then some "read " else if x = ("write" : Str) then some "write" else none
theorem meets_r {t : Tok} : ∀ u, Meets (Builtin.«str.__format__» ⟨[.str ("read" : Str) t, .str ("<5" : Str) u], []⟩) (fun _ R s => ∀ t' k, R (.ok (.ret (.str ("read " : Str) t'))) { s with toks := k }) := by kxf_run_s
theorem meets_w {t : Tok} : ∀ u, Meets (Builtin.«str.__format__» ⟨[.str ("write" : Str) t, .str ("<5" : Str) u], []⟩) (fun _ R s => ∀ t' k, R (.ok (.ret (.str ("write" : Str) t'))) { s with toks := k }) := by kxf_run_s
def tFmtK (te : TE) : TE := fun σ H Q => te σ H fun x H1 => ∃ y z : Str, x = .str y ∧ padK y = some z ∧ Q (.str z) H1
theorem pe_fmtK {te : TE} (he : PE X e te) : PE X (.FormattedValue e (-1) (some (.JoinedStr [.Constant (.str ("<5" : Str)) k p] p2)) pos) (tFmtK te) := by
  refine ⟨fun pins s σ H Q I h => ?_⟩
  refine wpAny_FormattedValue_spec (thn (he.run pins s σ H _ I h) fun v s1 hv => ?_)
  obtain ⟨x, H1, I1, r1, y, z, rfl, hz, q⟩ := hv
  obtain ⟨t, rfl⟩ := r1
  refine wpAny_JoinedStr_one (wpAny_Constant_str ⟨("<5" : Str), _, rfl, ?_⟩)
  unfold padK at hz
  split at hz
  · rename_i h; subst h; cases hz
    exact KXf.field_str rfl rfl (by decide +kernel) (by decide +kernel) meets_r fun t' k => ⟨.str _, H1, I1.tok _, ⟨_, rfl⟩, q⟩
  · split at hz
    · rename_i h; subst h; cases hz
      exact KXf.field_str rfl rfl (by decide +kernel) (by decide +kernel) meets_w fun t' k => ⟨.str _, H1, I1.tok _, ⟨_, rfl⟩, q⟩
    · cases hz
/-! as data -/
def fmtD (sp : Str) : D → Option Val
  | .int i => if i.natAbs.log2 < 1920 ∧ (intSpecTextOf sp i).length ≤ sizeLine then some (.d (.str (intSpecTextOf sp i))) else none
  | _ => none
theorem us_fmt {K : PySem.W.Frag} {sp : Str} : UnS K (fun x H Q => ∃ i : Int, x = .int i ∧ i.natAbs.log2 < 1920 ∧ (intSpecTextOf sp i).length ≤ sizeLine ∧ Q (.str (intSpecTextOf sp i)) H) (fmtD sp) := by
  intro F H v a z Q s ra e q
  unfold fmtD at e
  split at e
  · obtain rfl := ra.int
    split at e
    · rename_i h
      cases e
      exact ⟨_, rfl, h.1, h.2, vn_str s q⟩
    · cases e
  · cases e
def fmtK : D → Option Val
  | .str x => (padK x).map fun y => .d (.str y)
  | _ => none
theorem us_fmtK {K : PySem.W.Frag} : UnS K (fun x H Q => ∃ y z : Str, x = .str y ∧ padK y = some z ∧ Q (.str z) H) fmtK := by
  intro F H v a z Q s ra e q
  unfold fmtK at e
  split at e
  · obtain rfl := ra.str
    rename_i x
    cases h : padK x with
    | none => rw [h] at e; cases e
    | some y =>
      rw [h] at e
      cases e
      exact ⟨_, _, rfl, h, vn_str s q⟩
  · cases e
theorem de_fmt3 (ha : DE X W e f) : DE X W (.FormattedValue e (-1) (some (.JoinedStr [.Constant (.str ">3") k p] p2)) pos) (eUn (fmtD ">3") f) := pe_conseq (pe_fmtP meets_p3 (by decide +kernel) (by decide +kernel) ha) fun _ _ _ => one1 us_fmt
theorem de_fmt10 (ha : DE X W e f) : DE X W (.FormattedValue e (-1) (some (.JoinedStr [.Constant (.str ">10") k p] p2)) pos) (eUn (fmtD ">10") f) := pe_conseq (pe_fmtP meets_p10 (by decide +kernel) (by decide +kernel) ha) fun _ _ _ => one1 us_fmt
theorem de_fmt17 (ha : DE X W e f) : DE X W (.FormattedValue e (-1) (some (.JoinedStr [.Constant (.str ">17") k p] p2)) pos) (eUn (fmtD ">17") f) := pe_conseq (pe_fmtP meets_p17 (by decide +kernel) (by decide +kernel) ha) fun _ _ _ => one1 us_fmt
theorem de_fmtK (ha : DE X W e f) : DE X W (.FormattedValue e (-1) (some (.JoinedStr [.Constant (.str "<5") k p] p2)) pos) (eUn fmtK f) := pe_conseq (pe_fmtK ha) fun _ _ _ => one1 us_fmtK
/-! texts one behind the other -/
def eJs : List EM → Str → EM
  | [], acc => fun ρ => .ok (.d (.str acc)) ρ
  | f :: fs, acc => fun ρ => (f ρ).bind fun x ρ1 => match x with
    | .d (.str y) => if (acc ++ y).length ≤ sizeLine then eJs fs (acc ++ y) ρ1 else .bad
    | _ => .bad
theorem js_ok {K : PySem.W.Frag} {mg : Str → Option Value} {E : WX} : ∀ (fs : List EM) (acc : Str) {σ : L2.St} {H : Hp} {Q : VK}, tD K mg E (eJs fs acc) σ H Q → tJs (fs.map (tD K mg E)) acc σ H fun out H1 => Q (.str out) H1
  | [], acc, σ, H, Q, ⟨F, ρ, sr, q⟩ => q (.str acc) F H sr .refl (show Rep K F (.str acc) (.str acc) from .str acc)
  | f :: fs, acc, σ, H, Q, ⟨F, ρ, sr, q⟩ => by
    refine ⟨F, ρ, sr, (Out.bind (rel := relV K σ) q).mono fun v H1 ⟨x, F1, ρ1, e1, s1, ev1, r1, o1⟩ => ?_⟩
    cases x with
    | fr c => exact o1.elim
    | sl i => exact o1.elim
    | d d =>
      cases d with
      | str y =>
        have rx : Rep K F1 v (.str y) := r1
        cases rx
        have o1 : Out K mg (fun c d H => E c d σ H) (relV K σ) σ ρ F H (if (acc ++ y).length ≤ sizeLine then eJs fs (acc ++ y) ρ1 else .bad) Q := o1
        split at o1
        · rename_i hl
          exact ⟨y, rfl, hl, js_ok fs (acc ++ y) ⟨F1, ρ1, s1, o1.from ev1 fun F' H' ρ' v x (h : VR K σ H1 F' H' ρ' v x) => VR.base h ev1.dom⟩⟩
        · exact o1.elim
      | _ => exact o1.elim
/-- the parts -/
inductive DJ (X : Cx) (W : WX) : List Expr → List EM → Prop where
  | nil : DJ X W [] []
  | cons {e : Expr} {f : EM} {es : List Expr} {fs : List EM} (h : DE X W e f) (r : DJ X W es fs) : DJ X W (e :: es) (f :: fs)
theorem DJ.pj {es : List Expr} {fs : List EM} (h : DJ X W es fs) : PJ X es (fs.map (tD X.K X.mg W)) := by
  induction h with
  | nil => exact .nil
  | cons h _ ih => exact .cons h ih
theorem de_joined {v1 v2 : Expr} {rest : List Expr} {fs : List EM} (h : DJ X W (v1 :: v2 :: rest) fs) : DE X W (.JoinedStr (v1 :: v2 :: rest) pos) (eJs fs Str.empty) := pe_conseq (pe_joined h.pj) fun _ _ _ q => js_ok fs Str.empty q
end
/-! readings -/
section
variable {Q : Val → DEnv → Prop} {X : Ex → DEnv → Prop} {ρ : DEnv} {f : EM} {fs : List EM} {acc y : Str} {x : Val}
def jsV (fs : List EM) (acc : Str) (x : Val) : EM := fun ρ1 => match x with
  | .d (.str y) => if (acc ++ y).length ≤ sizeLine then eJs fs (acc ++ y) ρ1 else .bad
  | _ => .bad
theorem b_jsN (q : Q (.d (.str acc)) ρ) : (eJs [] acc ρ).wp Q X := q
theorem b_jsC (q : (f ρ).wp (fun x ρ1 => (jsV fs acc x ρ1).wp Q X) X) : (eJs (f :: fs) acc ρ).wp Q X := b_bind q
instance st_jsN : St ((eJs [] acc ρ).wp Q X) (Q (.d (.str acc)) ρ) := ⟨b_jsN⟩
instance st_jsC : St ((eJs (f :: fs) acc ρ).wp Q X) ((f ρ).wp (fun x ρ1 => (jsV fs acc x ρ1).wp Q X) X) := ⟨b_jsC⟩
theorem x_js (h : acc.length + y.length ≤ 10000000) (q : (eJs fs (acc ++ y) ρ).wp Q X) : (jsV fs acc (.d (.str y)) ρ).wp Q X := by
  show R.wp (if (acc ++ y).length ≤ sizeLine then eJs fs (acc ++ y) ρ else .bad) Q X
  rw [if_pos (by rw [show (acc ++ y).length = acc.length + y.length from Str.length_append acc y, sizeLine_eq]; omega)]
  exact q
end
end DL
set_option maxHeartbeats 2000000
/-! DL130: text * int, of any small int. -/
namespace L2
open PySem PySem.Spec PyProof.Rows
section
variable {X : Cx}
theorem strN_one (z : Str) : strN z 1 = z := by
  cases z with
  | mk c => show (⟨#[] ++ c⟩ : Str) = ⟨c⟩; simp
theorem op_strM : OpR X (binaryOp .Mult) (fun x y H Q => ∃ z k, x = .str z ∧ y = .int k ∧ -1000000000 ≤ k ∧ k ≤ 1 ∧ Q (.str (strN z k.toNat)) H) := by
  intro pins s σ H x y v u Q I rx ry h
  obtain ⟨z, k, rfl, rfl, h1, h2, q⟩ := h
  obtain ⟨t, rfl⟩ := rx
  obtain ⟨t', rfl⟩ := ry
  by_cases hk : k < 1
  · refine PySem.P.mul_str_none hk (by omega) ?_
    have e : k.toNat = 0 := by omega
    rw [e] at q
    exact ⟨.str _, H, I.tok _, ⟨_, rfl⟩, q⟩
  · have hk : k = 1 := by omega
    subst hk
    refine PySem.P.mul_str (by decide) (fun _ h => by simp at h) (fun _ h => by simp at h) ?_
    rw [if_neg (by decide), if_pos (by simp)]
    rw [show (1 : Int).toNat = 1 from rfl, strN_one] at q
    exact ⟨.str _, H, I, ⟨_, rfl⟩, q⟩
end
end L2
namespace DL
open PySem PySem.Spec PyProof.Rows L2
variable [TabT]
section
variable {K : PySem.W.Frag}
def mulT2 : D → D → Option Val
  | .str x, .int k => if -1000000000 ≤ k ∧ k ≤ 1 then some (.d (.str (strN x k.toNat))) else mulTx (.str x) (.int k)
  | _, _ => none
theorem os_mulT2 : OpS K (rU2 (fun x y H Q => ∃ z k, x = .str z ∧ y = .int k ∧ -1000000000 ≤ k ∧ k ≤ 1 ∧ Q (.str (strN z k.toNat)) H) (fun x y H Q => ∃ z k, x = .str z ∧ y = .int k ∧ 2 ≤ k ∧ k ≤ 1000000 ∧ 1 ≤ z.length ∧ z.length * k.toNat ≤ 1000000 ∧ (strN z k.toNat).length ≤ 1000000 ∧ Q (.str (strN z k.toNat)) H)) mulT2 := by
  intro F H v w a b z Q s ra rb e q
  unfold mulT2 at e
  split at e
  · split at e
    · rename_i h
      obtain rfl := ra.str; obtain rfl := rb.int
      cases e
      exact .inl ⟨_, _, rfl, rfl, h.1, h.2, vn_str s q⟩
    · exact .inr (os_mulTx F H v w _ _ z Q s ra rb e q)
  · cases e
end
section
variable {X : Cx} {W : WX} {a b : Expr} {f g : EM} {pos : Pos}
theorem de_mulT2 (ha : DE X W a f) (hb : DE X W b g) : DE X W (.BinOp a .Mult b pos) (eOp mulT2 f g) := de_op (opr_u op_strM op_strN) os_mulT2 ha hb
end
section
variable {Q : Val → DEnv → Prop} {X : Ex → DEnv → Prop} {ρ : DEnv} {x y : Val} {s : Str}
/-- spaces -/
theorem x_mulT2 {k : Int} (h1 : x.peek ρ = some (.str s)) (h2 : y.peek ρ = some (.int k)) (hs : s.length = 1) (hk : -1000000000 ≤ k ∧ k ≤ 1000000) (hl : (strN s k.toNat).length ≤ 1000000) (q : Q (.d (.str (strN s k.toNat))) ρ) : (opV mulT2 x y ρ).wp Q X := by
  refine b_opV h1 h2 ?_ q
  show (if -1000000000 ≤ k ∧ k ≤ 1 then some (Val.d (.str (strN s k.toNat))) else mulTx (.str s) (.int k)) = _
  by_cases h : -1000000000 ≤ k ∧ k ≤ 1
  · rw [if_pos h]
  · rw [if_neg h]
    exact if_pos ⟨by omega, by omega, by omega, by rw [hs]; omega, hl⟩
end
end DL
set_option maxHeartbeats 4000000
namespace K58
open PySem PySem.Spec PyProof.Rows L2 DL
noncomputable section
/-! is_integer (common: CM.s_is_integer): slots 0 value, 1 least, 2 greatest -/
def ps_is_integer : List Str := [("value" : Str), ("least" : Str), ("greatest" : Str)]
/-! are_stamps (common: CM.s_are_stamps): slots 0 begin, 1 end -/
def ps_are_stamps : List Str := [("begin" : Str), ("end" : Str)]
/-! is_operation (common: CM.s_is_operation): slots 0 value, 1 kind, 2 written, 3 begin, 4 end -/
def ps_is_operation : List Str := [("value" : Str)]
/-! is_log (common: CM.s_is_log): slots 0 value, 1 written, 2 one -/
def ps_is_log : List Str := [("value" : Str)]
/-! number_in (common: CM.s_number_in): slots 0 word, 1 digits, 2 sign -/
def ps_number_in : List Str := [("word" : Str)]
/-! numbers_in (common: CM.s_numbers_in): slots 0 words, 1 found, 2 word -/
def ps_numbers_in : List Str := [("words" : Str)]
/-! line_of (common: CM.s_line_of): slots 0 parts, 1 part -/
def ps_line_of : List Str := [("parts" : Str)]
/-! format_log: slots 0 log, 1 operation -/
def ps_format_log : List Str := [("log" : Str)]
abbrev c1_format_log : EM := eLc [1] (iSeq (eVar 0)) (asgV 1) tYesD (fz (eCall CM.s_line_of (aCons (eVar 1) aNil)))
def e_format_log : SM := (sRet (eIf (tst (eOp neV' (eVar 0) (eTup aNil))) (eOp joinD (eTx (eC (.str ("\n" : Str)))) c1_format_log) (eC (.str ("-" : Str)))))
def s_format_log : FM := fnD 1 1 e_format_log
/-! operation_in (common: CM.s_operation_in): slots 0 row, 1 numbers, 2 kind, 3 words -/
def ps_operation_in : List Str := [("row" : Str)]
/-! parse_log: slots 0 text, 1 found, 2 row -/
def ps_parse_log : List Str := [("text" : Str)]
abbrev c1_parse_log : EM := eLc [2] (iSeq (eOp splitD (eTx (eVar 0)) (eC (.str ("\n" : Str))))) (asgV 2) tYesD (fz (eCall CM.s_operation_in (aCons (eVar 2) aNil)))
def e_parse_log : SM := (sSeq (sIf (tNotM (tst (eCallB isiD (aCons (eVar 0) (aCons (eC (.ty "str")) aNil)))))
    sBad
    sSkip)
    (sSeq (sAsg 1 (eIf (tst (eOp neV' (eVar 0) (eC (.str ("-" : Str))))) (eCallB tupleD (aCons c1_parse_log aNil)) (eTup aNil)))
    (sSeq (sIf (tNotM (tst (eCall CM.s_is_log (aCons (eVar 1) aNil))))
    sBad
    sSkip)
    (sRet (eVar 1)))))
def s_parse_log : FM := fnD 1 2 e_parse_log
/-! chart: slots 0 log, 1 rows, 2 index, 3 kind, 4 value, 5 begin, 6 end -/
def ps_chart : List Str := [("log" : Str)]
abbrev l1_chart : SM := sFor (iEnu (eVar 0)) (tupG 2 (gsCons (asgV 2) (gsCons (tupG 4 (gsCons (asgV 3) (gsCons (asgV 4) (gsCons (asgV 5) (gsCons (asgV 6) gsNil))))) gsNil)))
    (sDrop (eMethL 1 appendO (aCons (fz (eJs [(eUn (fmtD (">3" : Str)) (eVar 2)), (eC (.str (" " : Str))), (eUn fmtK (eVar 3)), (eC (.str (" " : Str))), (eUn (fmtD (">10" : Str)) (eVar 4)), (eC (.str (" " : Str))), (eUn (fmtD (">17" : Str)) (eVar 5)), (eC (.str (" " : Str))), (eUn (fmtD (">17" : Str)) (eVar 6))] Str.empty)) aNil)))
def e_chart : SM := (sSeq (sAsg 1 (eLst aNil))
    (sSeq l1_chart
    (sRet (eOp joinD (eTx (eC (.str ("\n" : Str)))) (eVar 1)))))
def s_chart : FM := fnD 1 6 e_chart
/-! _law_pot (common: CM.s_l_pot): slots 0 _law_script, 1 _law_k, 2 _law_cell, 3 _law_own -/
def ps__law_pot : List Str := [("_law_script" : Str), ("_law_k" : Str)]
/-! _law_draw (common: CM.s_l_draw): slots 0 _law_pot_here, 1 _law_many, 2 _law_prime, 3 _law_mixed_here, 4 _law_digit -/
def ps__law_draw : List Str := [("_law_pot_here" : Str), ("_law_many" : Str)]
/-! _law_any (common: CM.s_l_any): slots 0 _law_pot_here, 1 _law_items -/
def ps__law_any : List Str := [("_law_pot_here" : Str), ("_law_items" : Str)]
/-! _law_mixed (common: CM.s_l_mixed): slots 0 _law_pot_here, 1 _law_items, 2 _law_left, 3 _law_found -/
def ps__law_mixed : List Str := [("_law_pot_here" : Str), ("_law_items" : Str)]
/-! _law_wild (common: CM.s_l_wild): slots 0 _law_pot_here, 1 _law_most, 2 _law_room, 3 _law_turn, 4 _law_found, 5 _law_written, 6 _law_begin, 7 _law_kind, 8 _law_value, 9 _law_some -/
def ps__law_wild : List Str := [("_law_pot_here" : Str), ("_law_most" : Str), ("_law_room" : Str)]
/-! _law_true (common: CM.s_l_true): slots 0 _law_pot_here, 1 _law_many, 2 _law_off, 3 _law_step, 4 _law_names, 5 _law_turn, 6 _law_found, 7 _law_value, 8 _law_time, 9 _law_kind, 10 _law_ends, 11 _law_begin, 12 _law_end -/
def ps__law_true : List Str := [("_law_pot_here" : Str), ("_law_many" : Str), ("_law_off" : Str), ("_law_step" : Str)]
/-! _law_row (common: CM.s_line_of): slots 0 _law_operation, 1 _law_part -/
def ps__law_row : List Str := [("_law_operation" : Str)]
/-! _law_page: slots 0 _law_log, 1 _law_one -/
def ps__law_page : List Str := [("_law_log" : Str)]
abbrev c1__law_page : EM := eLc [1] (iSeq (eVar 0)) (asgV 1) tYesD (fz (eCall CM.s_line_of (aCons (eVar 1) aNil)))
def e__law_page : SM := (sRet (eIf (tst (eOp neV' (eVar 0) (eTup aNil))) (eOp joinD (eTx (eC (.str ("\n" : Str)))) c1__law_page) (eC (.str ("-" : Str)))))
def s__law_page : FM := fnD 1 1 e__law_page
/-! _law_filled: slots 0 _law_word, 1 _law_wide, 2 _law_is_left, 3 _law_room -/
def ps__law_filled : List Str := [("_law_word" : Str), ("_law_wide" : Str), ("_law_is_left" : Str)]
def e__law_filled : SM := (sSeq (sAsg 3 (eOp mulT2 (eC (.str (" " : Str))) (eOp subD (eVar 1) (eCallB lenD (aCons (eVar 0) aNil)))))
    (sRet (eIf (tst (eVar 2)) (eOp addD (eVar 0) (eVar 3)) (eOp addD (eVar 3) (eVar 0)))))
def s__law_filled : FM := fnD 3 1 e__law_filled
/-! _law_lines: slots 0 _law_log, 1 _law_found, 2 _law_at, 3 _law_some, 4 _law_kind, 5 _law_worth, 6 _law_early, 7 _law_late -/
def ps__law_lines : List Str := [("_law_log" : Str)]
abbrev l1__law_lines : SM := sFor (iEnu (eVar 0)) (tupG 2 (gsCons (asgV 2) (gsCons (tupG 4 (gsCons (asgV 4) (gsCons (asgV 5) (gsCons (asgV 6) (gsCons (asgV 7) gsNil))))) gsNil)))
    (sSeq (sAsg 3 (eLst (aCons (fz (eCall s__law_filled (aCons (eCallB strZ (aCons (eVar 2) aNil)) (aCons (eC (.int 3)) (aCons (eC (.bl false)) aNil))))) (aCons (fz (eCall s__law_filled (aCons (eVar 4) (aCons (eC (.int 5)) (aCons (eC (.bl true)) aNil))))) (aCons (fz (eCall s__law_filled (aCons (eCallB strZ (aCons (eVar 5) aNil)) (aCons (eC (.int 10)) (aCons (eC (.bl false)) aNil))))) aNil)))))
    (sDrop (eMethL 1 appendO (aCons (fz (eOp joinD (eTx (eC (.str (" " : Str)))) (eOp addD (eVar 3) (eLst (aCons (fz (eCall s__law_filled (aCons (eCallB strZ (aCons (eVar 6) aNil)) (aCons (eC (.int 17)) (aCons (eC (.bl false)) aNil))))) (aCons (fz (eCall s__law_filled (aCons (eCallB strZ (aCons (eVar 7) aNil)) (aCons (eC (.int 17)) (aCons (eC (.bl false)) aNil))))) aNil)))))) aNil))))
def e__law_lines : SM := (sSeq (sAsg 1 (eLst aNil))
    (sSeq l1__law_lines
    (sRet (eOp joinD (eTx (eC (.str ("\n" : Str)))) (eVar 1)))))
def s__law_lines : FM := fnD 1 7 e__law_lines
/-! _law_far: slots 0 _law_pot_here, 1 _law_many, 2 _law_found, 3 _law_turn, 4 _law_some, 5 _law_early, 6 _law_late, 7 _law_kind -/
def ps__law_far : List Str := [("_law_pot_here" : Str), ("_law_many" : Str)]
abbrev l1__law_far : SM := sFor (iRng (aCons (eVar 1) aNil)) (asgV 3)
    (sSeq (sAsg 4 (eLst (aCons (fz (eUn negD (eOp powD (eC (.int 10)) (eC (.int 15))))) (aCons (fz (eOp powD (eC (.int 10)) (eC (.int 15)))) (aCons (eC (.int 0)) (aCons (fz (eOp subD (eOp powD (eC (.int 10)) (eC (.int 15))) (eCall CM.s_l_draw (aCons (eVar 0) (aCons (eOp powD (eC (.int 10)) (eC (.int 15))) aNil))))) (aCons (fz (eOp subD (eC (.int 0)) (eCall CM.s_l_draw (aCons (eVar 0) (aCons (eOp powD (eC (.int 10)) (eC (.int 15))) aNil))))) aNil)))))))
    (sSeq (sAsg 5 (eCall CM.s_l_any (aCons (eVar 0) (aCons (eVar 4) aNil))))
    (sSeq (sAsg 6 (eCall CM.s_l_any (aCons (eVar 0) (aCons (eLst (aCons (fz (eVar 5)) (aCons (fz (eOp powD (eC (.int 10)) (eC (.int 15)))) (aCons (fz (eCallB minD (aCons (eOp powD (eC (.int 10)) (eC (.int 15))) (aCons (eOp addD (eVar 5) (eCall CM.s_l_draw (aCons (eVar 0) (aCons (eC (.int 99)) aNil)))) aNil)))) aNil)))) aNil))))
    (sSeq (sAsg 7 (eCall CM.s_l_any (aCons (eVar 0) (aCons (eLst (aCons (eC (.str ("write" : Str))) (aCons (eC (.str ("read" : Str))) aNil))) aNil))))
    (sDrop (eMethL 2 appendO (aCons (fz (eTup (aCons (fz (eVar 7)) (aCons (fz (eIf (tst (eOp eqV' (eVar 7) (eC (.str ("write" : Str))))) (eOp subD (eOp powD (eC (.int 10)) (eC (.int 9))) (eVar 3)) (eCall CM.s_l_any (aCons (eVar 0) (aCons (eLst (aCons (eC (.int 0)) (aCons (fz (eOp powD (eC (.int 10)) (eC (.int 9)))) aNil))) aNil))))) (aCons (fz (eVar 5)) (aCons (fz (eVar 6)) aNil)))))) aNil)))))))
def e__law_far : SM := (sSeq (sAsg 2 (eLst aNil))
    (sSeq l1__law_far
    (sRet (eCallB tupleD (aCons (eVar 2) aNil)))))
def s__law_far : FM := fnD 2 6 e__law_far
/-! _law_log_right: slots 0 _law_log, 1 _law_kept, 2 _law_page_here -/
def ps__law_log_right : List Str := [("_law_log" : Str)]
def e__law_log_right : SM := (sSeq (sPar [1, 2] (aCons (nsl (eCallB reprY (aCons (eVar 0) aNil))) (aCons (nsl (eCall s__law_page (aCons (eVar 0) aNil))) aNil)))
    (sSeq (sIf (tOrM (tst (eOp neV' (eCall s_format_log (aCons (eVar 0) aNil)) (eVar 2))) (tOrM (tst (eOp neV' (eCallB reprY (aCons (eCall s_parse_log (aCons (eVar 2) aNil)) aNil)) (eVar 1))) (tst (eOp neV' (eCall s_chart (aCons (eVar 0) aNil)) (eCall s__law_lines (aCons (eVar 0) aNil))))))
    (sRet (eC (.bl false)))
    sSkip)
    (sRet (eOp eqV' (eCallB reprY (aCons (eVar 0) aNil)) (eVar 1)))))
def s__law_log_right : FM := fnD 1 2 e__law_log_right
/-! law: slots 0 _law_script, 1 _law_k, 2 _law_pot_here, 3 _law_some, 4 _law_one, 5 _law_other, 6 _law_log -/
def ps_law : List Str := [("_law_script" : Str)]
abbrev c1_law : EM := eLc [6] (iSeq (eVar 3)) (asgV 6) tYesD (fz (eCall s__law_log_right (aCons (eVar 6) aNil)))
abbrev l1_law : SM := sFor (iSeq (eVar 3)) (asgV 5)
    (sIf (tst (eOp neV' (eOp eqV' (eCall s_format_log (aCons (eVar 4) aNil)) (eCall s_format_log (aCons (eVar 5) aNil))) (eOp eqV' (eVar 4) (eVar 5))))
    (sRet (eC (.bl false)))
    sSkip)
abbrev l2_law : SM := sFor (iSeq (eVar 3)) (asgV 4)
    l1_law
abbrev l3_law : SM := sFor (iRng (aCons (eCallB maxD (aCons (eC (.int 1)) (aCons (eCallB minD (aCons (eC (.int 3)) (aCons (eCallB lenD (aCons (eVar 0) aNil)) aNil))) aNil))) aNil)) (asgV 1)
    (sSeq (sAsg 2 (eCall CM.s_l_pot (aCons (eVar 0) (aCons (eVar 1) aNil))))
    (sSeq (sAsg 3 (eLst (aCons (fz (eCall CM.s_l_wild (aCons (eVar 2) (aCons (eC (.int 12)) (aCons (eC (.int 30)) aNil))))) (aCons (fz (eCall s__law_far (aCons (eVar 2) (aCons (eC (.int 12)) aNil)))) (aCons (fz (eCall CM.s_l_true (aCons (eVar 2) (aCons (eC (.int 10)) (aCons (eC (.int 3)) (aCons (eC (.int 5)) aNil)))))) (aCons (fz (eTup aNil)) (aCons (fz (eCall s__law_far (aCons (eVar 2) (aCons (eC (.int 200)) aNil)))) aNil)))))))
    (sSeq (sIf (tNotM (tst (eCallB allD (aCons c1_law aNil))))
    (sRet (eC (.bl false)))
    sSkip)
    l2_law)))
def e_law : SM := (sSeq l3_law
    (sRet (eC (.bl true))))
def s_law : FM := fnD 1 6 e_law
end
end K58
set_option maxHeartbeats 1000000
namespace CM
open PySem PySem.Spec PyProof.Rows L2 DL PySem.NumText
/-! numbers in words: plain laws -/
abbrev oneS (c : Nat) : Str := ⟨#[c]⟩
abbrev mkS (cs : List Nat) : Str := ⟨cs.toArray⟩
def dig (c : Nat) : Bool := decide (48 ≤ c) && decide (c ≤ 57)
def bdy (w : Str) : List Nat := if w.cps.toList[0]? = some 45 then w.cps.toList.drop 1 else w.cps.toList
def numOk (w : Str) : Bool := decide (1 ≤ (bdy w).length) && decide ((bdy w).length ≤ 20) && (bdy w).all dig
def numS (w : Str) : Option Int :=
  if numOk w = true then
    (if (bdy w)[0]? = some 48 ∧ w ≠ ("0" : Str) then none else some (if w.cps.toList[0]? = some 45 then -((digitsVal (bdy w) : Nat) : Int) else ((digitsVal (bdy w) : Nat) : Int)))
  else none
theorem str_len (w : Str) : w.length = w.cps.toList.length := by simp [Str.length]
theorem mkS_eta (w : Str) : mkS w.cps.toList = w := by cases w; rfl
theorem mkS_tl (cs : List Nat) : (mkS cs).cps.toList = cs := rfl
theorem minus_one : ("-" : Str) = oneS 45 := by decide +kernel
theorem zero_one : ("0" : Str) = oneS 48 := by decide +kernel
theorem digits_tl : ("0123456789" : Str).cps.toList = [48, 49, 50, 51, 52, 53, 54, 55, 56, 57] := by decide +kernel
theorem sw_minus (w : Str) : Txt.startswith w ("-" : Str) = decide (w.cps.toList[0]? = some 45) := by
  rw [minus_one]
  have h := StrLaws.subAt_one w 45 0
  rw [Bool.eq_iff_iff, decide_eq_true_eq, ← h]
  unfold Txt.startswith
  rw [Bool.and_eq_true, decide_eq_true_eq]
theorem slice_from {w : Str} {a : Nat} (h : a ≤ w.length) : Txt.slice w (some (a : Int)) none = mkS (w.cps.toList.drop a) := by
  have e : Txt.slice w (some (a : Int)) none = Txt.slice w (some (a : Int)) (some (w.length : Int)) := by
    unfold Txt.slice
    rw [StrLaws.sliceIdx_none_hi]
  have h2 := PySem.W.os_slice (t := w) (a := a) (b := w.length) h (Nat.le_refl _)
  rw [e, ← mkS_eta (Txt.slice w _ _), h2, List.take_of_length_le (by rw [List.length_drop, ← str_len]; omega)]
theorem in_digits (c : Nat) : (!(Builtin.Str.occurrences ("0123456789" : Str) (oneS c) 0 ("0123456789" : Str).length 1).isEmpty) = dig c := by
  have h := StrLaws.found_one ("0123456789" : Str) c
  rw [h, digits_tl]
  unfold dig
  rw [Bool.eq_iff_iff, decide_eq_true_eq, Bool.and_eq_true, decide_eq_true_eq, decide_eq_true_eq]
  simp only [List.mem_cons, List.not_mem_nil, or_false]
  omega
theorem six_digit : ∀ k : Nat, k < 10 → Builtin.Str.occurrences ("0123456789" : Str) (oneS (48 + k)) 0 ("0123456789" : Str).length 1 = [k] := by decide +kernel
theorem six_dig {c : Nat} (h : dig c = true) : Builtin.Str.occurrences ("0123456789" : Str) (oneS c) 0 ("0123456789" : Str).length 1 = [c - 48] := by
  unfold dig at h
  rw [Bool.and_eq_true, decide_eq_true_eq, decide_eq_true_eq] at h
  have := six_digit (c - 48) (by omega)
  rw [show 48 + (c - 48) = c by omega] at this
  exact this
theorem all_dig {cs : List Nat} (h : cs.all dig = true) : AllDigits cs := fun c hc => by
  have := List.all_eq_true.mp h c hc
  unfold dig at this
  rw [Bool.and_eq_true, decide_eq_true_eq, decide_eq_true_eq] at this
  exact this
theorem bdy_pos {w : Str} (h : w.cps.toList[0]? = some 45) : w.cps.toList = 45 :: bdy w := by
  unfold bdy
  rw [if_pos h]
  cases e : w.cps.toList with
  | nil => rw [e] at h; cases h
  | cons c r => rw [e] at h; simp at h; subst h; rfl
theorem bdy_neg {w : Str} (h : ¬ w.cps.toList[0]? = some 45) : bdy w = w.cps.toList := if_neg h
theorem int_of {w : Str} (h : numOk w = true) : PySem.intText? w = some (if w.cps.toList[0]? = some 45 then -((digitsVal (bdy w) : Nat) : Int) else ((digitsVal (bdy w) : Nat) : Int)) := by
  unfold numOk at h
  rw [Bool.and_eq_true, Bool.and_eq_true, decide_eq_true_eq, decide_eq_true_eq] at h
  obtain ⟨⟨h1, h2⟩, h3⟩ := h
  have hd := all_dig h3
  by_cases hm : w.cps.toList[0]? = some 45
  · have e := bdy_pos hm
    rw [if_pos hm]
    exact PySem.intText_neg e hd (fun z => by rw [z] at h1; simp at h1) (by rw [str_len, e]; simp; omega)
  · rw [if_neg hm]
    rw [bdy_neg hm] at h1 h2 hd ⊢
    exact PySem.intText_digits hd (fun z => by rw [z] at h1; simp at h1) (by rw [str_len]; omega)
theorem numOk_len {w : Str} (h : numOk w = true) : w.length ≤ 21 := by
  unfold numOk at h
  rw [Bool.and_eq_true, Bool.and_eq_true, decide_eq_true_eq, decide_eq_true_eq] at h
  obtain ⟨⟨h1, h2⟩, h3⟩ := h
  rw [str_len]
  by_cases hm : w.cps.toList[0]? = some 45
  · rw [bdy_pos hm]; simp; omega
  · rw [bdy_neg hm] at h2; omega
theorem bdy_len (w : Str) : (bdy w).length ≤ w.length := by
  rw [str_len]
  unfold bdy
  split
  · rw [List.length_drop]; omega
  · exact Nat.le_refl _
/-! texts of ints -/
abbrev numT (n : Int) : Str := (toString n : String)
theorem numT_tl (n : Int) : (numT n).cps.toList = if 0 ≤ n then TL.numL n.natAbs else 45 :: TL.numL n.natAbs := by
  cases n with
  | ofNat m =>
    rw [if_pos (show (0 : Int) ≤ Int.ofNat m from Int.natCast_nonneg m)]
    exact PySem.W.KIN.signs_num m
  | negSucc m =>
    rw [if_neg (by omega)]
    have h1 : numT (Int.negSucc m) = Str.ofString ("-" ++ Nat.repr (m + 1)) := rfl
    rw [h1, Str.ofString_eq_toList]
    show ("-" ++ Nat.repr (m + 1)).toList.map Char.toNat = _
    rw [String.toList_append, List.map_append]
    show 45 :: (Nat.repr (m + 1)).toList.map Char.toNat = _
    rw [Nat.toList_repr]
    rfl
theorem numT_len {n : Int} {k : Nat} (hk : 0 < k) (h : n.natAbs < 10 ^ k) : (numT n).length ≤ k + 1 := by
  have h1 := int_text_length_le10 hk h
  have h2 : (numT n).length = (toString n).length := PySem.ofString_length _
  omega
theorem numT_free {n : Int} {s : Nat} (h : s < 45 ∨ 57 < s) : s ∉ (numT n).cps.toList := fun hm => by
  have := TL.numL_free (n := n.natAbs) (s := s) (by omega)
  rw [numT_tl] at hm
  split at hm
  · exact this hm
  · rcases List.mem_cons.mp hm with h2 | h2
    · omega
    · exact this h2
theorem numL_head {n : Nat} (h : 0 < n) : (TL.numL n)[0]? ≠ some 48 := by
  induction n using Nat.strongRecOn with
  | _ n ih =>
    by_cases h10 : n < 10
    · rw [TL.numL_lt h10]
      intro z
      simp at z
      omega
    · rw [TL.numL_step (by omega)]
      have h2 := ih (n / 10) (by omega) (by omega)
      have h3 := TL.numL_ne (n / 10)
      cases e : TL.numL (n / 10) with
      | nil => exact absurd e h3
      | cons c r =>
        rw [e] at h2
        simpa using h2
theorem numL_allDig (n : Nat) : (TL.numL n).all dig = true := List.all_eq_true.mpr fun c hc => by
  have := TL.numL_digits n c hc
  unfold dig
  rw [Bool.and_eq_true, decide_eq_true_eq, decide_eq_true_eq]
  exact this
theorem numL_nm (n : Nat) : (TL.numL n)[0]? ≠ some 45 := fun h => by
  have := TL.numL_digits n 45 (List.mem_of_getElem? h)
  omega
/-- a number that is written can be read -/
theorem numS_numT {n : Int} (h : n.natAbs < 10 ^ 20) : numS (numT n) = some n := by
  have hl := TL.numL_len (n := n.natAbs) (k := 20) (by decide) h
  have hne := TL.numL_ne n.natAbs
  have hp : 1 ≤ (TL.numL n.natAbs).length := by
    cases e : TL.numL n.natAbs with
    | nil => exact absurd e hne
    | cons c r => simp
  by_cases h0 : 0 ≤ n
  · have e : (numT n).cps.toList = TL.numL n.natAbs := by rw [numT_tl, if_pos h0]
    have hm : ¬ (numT n).cps.toList[0]? = some 45 := by rw [e]; exact numL_nm _
    have hb : bdy (numT n) = TL.numL n.natAbs := by rw [bdy_neg hm, e]
    unfold numS numOk
    rw [hb, if_pos (by rw [numL_allDig, decide_eq_true hp, decide_eq_true hl]; rfl), if_neg hm, TL.numL_val]
    rw [if_neg]
    · exact congrArg some (by omega)
    · rintro ⟨h1, h2⟩
      by_cases hz : n.natAbs = 0
      · have : n = 0 := by omega
        subst this
        exact h2 (by decide +kernel)
      · exact numL_head (by omega) h1
  · have e : (numT n).cps.toList = 45 :: TL.numL n.natAbs := by rw [numT_tl, if_neg h0]
    have hm : (numT n).cps.toList[0]? = some 45 := by rw [e]; rfl
    have hb : bdy (numT n) = TL.numL n.natAbs := by
      have := bdy_pos hm
      rw [e] at this
      exact (List.cons.inj this).2.symm
    unfold numS numOk
    rw [hb, if_pos (by rw [numL_allDig, decide_eq_true hp, decide_eq_true hl]; rfl), if_pos hm, TL.numL_val]
    rw [if_neg]
    · exact congrArg some (by omega)
    · rintro ⟨h1, h2⟩
      exact numL_head (by omega) h1
/-! parts in a row -/
inductive Pt where
  | i (n : Int) | s (x : Str)
def Pt.d : Pt → D
  | .i n => .int n
  | .s x => .str x
def Pt.t : Pt → Str
  | .i n => numT n
  | .s x => x
def Pt.ok : Pt → Prop
  | .i n => n.natAbs < 10 ^ 40
  | .s x => x.length ≤ 100
theorem Pt.t_len {p : Pt} (h : p.ok) : p.t.length ≤ 100 := by
  cases p with
  | i n => exact Nat.le_trans (numT_len (k := 40) (by decide) h) (by decide)
  | s x => exact h
def rowS (ps : List Pt) : Str := Txt.join (" " : Str) (ps.map Pt.t)
theorem sum_le {ps : List Pt} (h : ∀ p ∈ ps, p.ok) : ((ps.map Pt.t).map (·.length)).sum ≤ 100 * ps.length := by
  induction ps with
  | nil => simp
  | cons p ps ih =>
    have h1 := Pt.t_len (h p List.mem_cons_self)
    have h2 := ih fun x hx => h x (List.mem_cons_of_mem _ hx)
    simp only [List.map_cons, List.sum_cons, List.length_cons]
    omega
theorem blank_tl : ("" : Str).cps.toList = [] ∧ (" " : Str).cps.toList = [32] := by decide +kernel
theorem split_row {ps : List Pt} (hne : ps ≠ []) (h : ∀ p ∈ ps, 32 ∉ p.t.cps.toList) : Txt.split (rowS ps) (" " : Str) = ps.map Pt.t := by
  refine TL.split_join (s := 32) (S := []) blank_tl.2 (by decide +kernel) (by simpa using hne) fun x hx => ?_
  obtain ⟨p, hp, rfl⟩ := List.mem_map.mp hx
  exact h p hp
end CM
set_option maxHeartbeats 1000000
namespace CM
open PySem PySem.Spec PyProof.Rows L2 DL
/-! a log without some values -/
def Log.wo (l : Log) (ks : List Int) : Log := l.filter fun o => !decide (o.v ∈ ks)
theorem mem_wo {l : Log} {ks : List Int} {o : Op} : o ∈ l.wo ks ↔ o ∈ l ∧ o.v ∉ ks := by
  unfold Log.wo
  rw [List.mem_filter]
  simp
theorem Log.Ok.wo {l : Log} (ok : l.Ok) (ks : List Int) : (l.wo ks).Ok :=
  ⟨fun o ho => ok.ops o (mem_wo.mp ho).1, (((List.filter_sublist (l := l)).filter _).map _).nodup ok.nd, Nat.le_trans (List.length_filter_le _ _) ok.len⟩
end CM
set_option maxHeartbeats 1000000
namespace CM
/-! stretches, plainly: disjoint stretches of the greatest gain, tables of heights -/
def wsm (f : Int → Int) (l : List Int) : Int := (l.map f).sum
/-! ### heights -/
abbrev Tb := List (Int × Int)
def hgo : Int → Tb → Int → Int
  | acc, [], _ => acc
  | acc, (p, h) :: T, q => if q < p then acc else hgo h T q
def hgt (T : Tb) : Option Int → Int
  | none => 0
  | some q => hgo 0 T q
/-! ### stretches -/
def blw : Option Int → Int → Bool
  | none, _ => true
  | some x, p => decide (x < p)
structure Sts where
  vs : List Int
  w : Int → Int
  b : Int → Option Int
  e : Int → Int
namespace Sts
variable (S : Sts)
def wd (v : Int) : Bool := blw (S.b v) (S.e v)
def wides : List Int := S.vs.filter S.wd
def nars : List Int := S.vs.filter fun v => !S.wd v
/-- u lies within v's stretch -/
def inn (v u : Int) : Bool := blw (S.b v) (S.e u) && blw (S.b u) (S.e v)
def ins (v : Int) : List Int := S.nars.filter (S.inn v)
def gn (v : Int) : Int := S.w v - wsm S.w (S.ins v)
end Sts
end CM
set_option maxHeartbeats 1000000
namespace CM
/-! the table that is raised, the wide values that are kept -/
abbrev Tr := List (Int × Int × Int)
def plT (T : Tr) : Tb := T.map fun x => (x.1, x.2.1)
section
variable (S : Sts)
structure RI (ws : List Int) (T : Tr) : Prop where
  up : T.Pairwise fun x y => x.1 < y.1 ∧ x.2.1 < y.2.1
  pos : ∀ x ∈ T, 0 < x.2.1
  of : ∀ x ∈ T, x.1 = S.e x.2.2 ∧ x.2.2 ∈ ws ∧ S.wd x.2.2 = true
  gn : ∀ v ∈ ws, S.gn v ≤ hgt (plT T) (some (S.e v)) - hgt (plT T) (S.b v)
  ht : ∀ x ∈ T, x.2.1 = hgt (plT T) (S.b x.2.2) + S.gn x.2.2
end
section
variable {S : Sts}
/-! ### those that are kept -/
structure BI (S : Sts) (T : Tr) : Prop where
  up : T.Pairwise fun x y => x.1 < y.1 ∧ x.2.1 < y.2.1
  pos : ∀ x ∈ T, 0 < x.2.1
  of : ∀ x ∈ T, x.1 = S.e x.2.2 ∧ S.wd x.2.2 = true
  ht : ∀ x ∈ T, x.2.1 = hgt (plT T) (S.b x.2.2) + S.gn x.2.2
theorem RI.bi {ws : List Int} {T : Tr} (r : RI S ws T) : BI S T := ⟨r.up, r.pos, fun x hx => ⟨(r.of x hx).1, (r.of x hx).2.2⟩, r.ht⟩
end
end CM
set_option maxHeartbeats 1000000
namespace CM
open PySem PySem.Spec PyProof.Rows L2 DL
/-! the stretches of a log -/
def Log.sv (l : Log) (t : Int) : List Int := l.unw.map (fun i => (l.at i).v) ++ (l.early t).map fun i => (l.at i).v
def Log.bg (l : Log) (t v : Int) : Option Int := if v = 0 then none else some (l.fe v + t)
def Log.str (l : Log) (t : Int) (w : Int → Int) : Sts := ⟨l.vals.filter fun v => !decide (v ∈ l.sv t), w, l.bg t, l.lb⟩
/-! ### what is set aside -/
def ddA : List Int → List Int → List Int
  | acc, [] => acc
  | acc, v :: vs => ddA (if v ∈ acc then acc else acc ++ [v]) vs
/-- the values with a single fault, each once -/
def Log.badv (l : Log) (t : Int) : List Int := ddA [] (l.sv t)
end CM
set_option maxHeartbeats 1000000
namespace CM
open PySem PySem.Spec PyProof.Rows L2 DL
/-! the walk through aside.py: bad values, heights -/
/-! heights -/
abbrev oD : Option Int → D
  | none => .non
  | some q => .int q
end CM
set_option maxHeartbeats 1000000
namespace CM
open PySem PySem.Spec PyProof.Rows L2 DL
/-! the making of the stretches -/
abbrev bgsD (vs : List Int) (b : Int → Option Int) : D := .dic (ikeys vs) (vs.map fun v => oD (b v))
abbrev intsD (vs : List Int) (e : Int → Int) : D := .dic (ikeys vs) (vs.map fun v => .int (e v))
def Log.wt (y : Str) (l : Log) (v : Int) : Int := if y = ("values" : Str) then 1 else ((l.filter fun o => decide (o.v = v)).length : Nat)
abbrev Log.S (l : Log) (t : Int) (y : Str) : Sts := l.str t (l.wt y)
abbrev strNs : List Str := [("barred" : Str), ("weights" : Str), ("begins" : Str), ("ends_at" : Str), ("wide" : Str), ("narrow" : Str)]
abbrev strDs (l : Log) (t : Int) (y : Str) : List D := [.dic (ikeys (l.badv t)) ((l.badv t).map fun _ => .bl true), intsD l.vals (l.wt y), bgsD (l.S t y).vs (l.bg t), intsD (l.S t y).vs l.lb, .lst ((l.S t y).wides.map D.int), .lst ((l.S t y).nars.map D.int)]
abbrev strD (l : Log) (t : Int) (y : Str) : D := .ins ("Stretches" : Str) strNs (strDs l t y)
end CM
set_option maxHeartbeats 1000000
namespace CM
open PySem PySem.Spec PyProof.Rows L2 DL
/-! the walk through the methods of the stretches -/
section
variable {ρ : DEnv} {l : Log} {t : Int} {y m : Str} {Fm : FM} {gl : M (List Val)} {Q : Val → DEnv → Prop} {X : Ex → DEnv → Prop}
instance st_s_bar : St ((fldV ("Stretches" : Str) ("barred" : Str) (.d (strD l t y)) ρ).wp Q X) (Q (.d (.dic (ikeys (l.badv t)) ((l.badv t).map fun _ => .bl true))) ρ) := ⟨fun q => b_fldV (by with_unfolding_all exact rfl) q⟩
instance st_s_wei : St ((fldV ("Stretches" : Str) ("weights" : Str) (.d (strD l t y)) ρ).wp Q X) (Q (.d (intsD l.vals (l.wt y))) ρ) := ⟨fun q => b_fldV (by with_unfolding_all exact rfl) q⟩
instance st_s_beg : St ((fldV ("Stretches" : Str) ("begins" : Str) (.d (strD l t y)) ρ).wp Q X) (Q (.d (bgsD (l.S t y).vs (l.bg t))) ρ) := ⟨fun q => b_fldV (by with_unfolding_all exact rfl) q⟩
instance st_s_end : St ((fldV ("Stretches" : Str) ("ends_at" : Str) (.d (strD l t y)) ρ).wp Q X) (Q (.d (intsD (l.S t y).vs l.lb)) ρ) := ⟨fun q => b_fldV (by with_unfolding_all exact rfl) q⟩
instance st_s_wid : St ((fldV ("Stretches" : Str) ("wide" : Str) (.d (strD l t y)) ρ).wp Q X) (Q (.d (.lst ((l.S t y).wides.map D.int))) ρ) := ⟨fun q => b_fldV (by with_unfolding_all exact rfl) q⟩
instance st_s_nar : St ((fldV ("Stretches" : Str) ("narrow" : Str) (.d (strD l t y)) ρ).wp Q X) (Q (.d (.lst ((l.S t y).nars.map D.int))) ρ) := ⟨fun q => b_fldV (by with_unfolding_all exact rfl) q⟩
instance st_s_m1 : St ((mthV ("Stretches" : Str) ("is_below" : Str) Fm gl (.d (strD l t y)) ρ).wp Q X) ((gl ρ).wp (fun xs ρ2 => (callF Fm (.d (strD l t y) :: xs) ρ2).wp Q X) X) := ⟨fun q => b_mthV (by decide +kernel) q⟩
instance st_s_m2 : St ((mthV ("Stretches" : Str) ("inside" : Str) Fm gl (.d (strD l t y)) ρ).wp Q X) ((gl ρ).wp (fun xs ρ2 => (callF Fm (.d (strD l t y) :: xs) ρ2).wp Q X) X) := ⟨fun q => b_mthV (by decide +kernel) q⟩
instance st_s_m3 : St ((mthV ("Stretches" : Str) ("gain" : Str) Fm gl (.d (strD l t y)) ρ).wp Q X) ((gl ρ).wp (fun xs ρ2 => (callF Fm (.d (strD l t y) :: xs) ρ2).wp Q X) X) := ⟨fun q => b_mthV (by decide +kernel) q⟩
instance st_s_m4 : St ((mthV ("Stretches" : Str) ("raised" : Str) Fm gl (.d (strD l t y)) ρ).wp Q X) ((gl ρ).wp (fun xs ρ2 => (callF Fm (.d (strD l t y) :: xs) ρ2).wp Q X) X) := ⟨fun q => b_mthV (by decide +kernel) q⟩
instance st_s_m5 : St ((mthV ("Stretches" : Str) ("best" : Str) Fm gl (.d (strD l t y)) ρ).wp Q X) ((gl ρ).wp (fun xs ρ2 => (callF Fm (.d (strD l t y) :: xs) ρ2).wp Q X) X) := ⟨fun q => b_mthV (by decide +kernel) q⟩
instance st_s_m6 : St ((mthV ("Stretches" : Str) ("set_aside" : Str) Fm gl (.d (strD l t y)) ρ).wp Q X) ((gl ρ).wp (fun xs ρ2 => (callF Fm (.d (strD l t y) :: xs) ρ2).wp Q X) X) := ⟨fun q => b_mthV (by decide +kernel) q⟩
instance st_s_m7 : St ((mthV ("Stretches" : Str) ("sum_of" : Str) Fm gl (.d (strD l t y)) ρ).wp Q X) ((gl ρ).wp (fun xs ρ2 => (callF Fm (.d (strD l t y) :: xs) ρ2).wp Q X) X) := ⟨fun q => b_mthV (by decide +kernel) q⟩
/-! sorted by their ends; the table that is raised -/
/-! those that are kept, what is set aside -/
end
end CM
set_option maxHeartbeats 1000000
namespace CM
open PySem PySem.Spec PyProof.Rows L2 DL
/-! the walk through the methods of the stretches: those that are kept, what is set aside -/
end CM
set_option maxHeartbeats 1000000
namespace CM
open PySem PySem.Spec PyProof.Rows L2 DL
/-! the fewest that are set aside -/
end CM
set_option maxHeartbeats 1000000
namespace CM
open PySem PySem.Spec PyProof.Rows L2 DL
/-! the laws' own: all sets of values, the fewest by all of them; drawn tolerances -/
/-! all sets -/
/-! the fewest, by all sets -/
/-- the least weight so far -/
structure Fw (l : Log) (t : Int) (y : Str) (kss : List (List Int)) (F : Option Int) : Prop where
  le : ∀ ks ∈ kss, (l.wo ks).flts t = [] → ∃ m, F = some m ∧ m ≤ wsm (l.wt y) ks
  ex : ∀ m, F = some m → ∃ ks ∈ kss, (l.wo ks).flts t = [] ∧ wsm (l.wt y) ks = m
end CM
set_option maxHeartbeats 1000000
namespace CM
open PySem PySem.Spec PyProof.Rows L2 DL
/-! the laws' own: the walk through the search by all sets; drawn logs and tolerances -/
end CM
set_option maxHeartbeats 1000000
/-! the places where the fewest change, plainly -/
namespace CM
open PySem PySem.Spec PyProof.Rows L2 DL
def optD : Option Int → D
  | none => .non
  | some x => .int x
end CM
set_option maxHeartbeats 1000000
namespace CM
open PySem PySem.Spec PyProof.Rows L2 DL PySem.NumText
variable {Q : Val → DEnv → Prop} {X : Ex → DEnv → Prop} {ρ : DEnv} {x y : Val} {w : Str}
theorem x_slT {a : Str} {lo hi : Option Int} (h1 : x.peek ρ = some (.str a)) (h : a.length ≤ 16000000) (q : Q (.d (.str (Txt.slice a lo hi))) ρ) : (unV (fun d => sliceD d lo hi) x ρ).wp Q X := b_unV h1 (if_pos (by omega)) q
theorem x_idxC {a : Str} {c : Nat} (h1 : x.peek ρ = some (.str a)) (h2 : y.peek ρ = some (.int 0)) (hl : a.length ≤ 16777216) (h : a.cps.toList[0]? = some c) (q : Q (.d (.str (oneS c))) ρ) : (opV idxD x y ρ).wp Q X := by
  refine b_opV h1 h2 ?_ q
  have e : atI a.cps.toList 0 = some c := by
    unfold atI
    cases e : a.cps.toList with
    | nil => rw [e] at h; cases h
    | cons b r => rw [e] at h; simpa [ixN] using h
  have e2 : idxD3 (.str a) (.int 0) = some (.d (.str (oneS c))) := by
    unfold idxD3
    dsimp only
    rw [if_pos hl, e]
    rfl
  have e1 : idxD1 (.str a) (.int 0) = none := rfl
  simp only [idxD, orOp, e1, e2]
theorem mkS_len (cs : List Nat) : (mkS cs).length = cs.length := by simp [Str.length]
theorem x_lenC {xs : List Val} {cs : List Nat} (h1 : peekL ρ xs = some [.str (mkS cs)]) (h : cs.length ≤ 16000000) (q : Q (.d (.int cs.length)) ρ) : (callV lenD xs ρ).wp Q X := by
  refine b_callV h1 ?_ q
  show (if _ then _ else _) = _
  rw [mkS_len, if_pos (by omega)]
theorem dgx {s1 s2 : Slot} (hw : w.length ≤ 1000000) (q : Q (.d (.str (mkS (bdy w)))) [.d (.str w), s1, s2]) : (eIf (tst (eOp swD (eTx (eVar 0)) (eC (.str ("-" : Str))))) (eSl (eVar 0) (oSome (eC (.int 1))) oNone) (eVar 0) [.d (.str w), s1, s2]).wp Q X := by
  by_cases hm : w.cps.toList[0]? = some 45
  · have e1 : Txt.startswith w ("-" : Str) = true := by rw [sw_minus]; exact decide_eq_true hm
    have e2 : Txt.slice w (some 1) none = mkS (bdy w) := by
      have h1 := slice_from (w := w) (a := 1) (by rw [str_len, bdy_pos hm]; exact Nat.le_add_left 1 _)
      have h2 : bdy w = w.cps.toList.drop 1 := if_pos hm
      rw [h2]
      exact h1
    (repeat (case orE => (with_reducible refine x_slT (by with_unfolding_all exact rfl) (by omega) ?_); ((rw [e2])); (fail "WU3")))
    exact q
  · have e1 : Txt.startswith w ("-" : Str) = false := by rw [sw_minus]; exact decide_eq_false hm
    have e2 : mkS (bdy w) = w := by rw [bdy_neg hm]
    rw [e2] at q
    repeat fail "WU3"
    exact q
theorem number_in_wp (hw : w.length ≤ 1000000) (q : Q (.d (optD (numS w))) [.d (.str w)]) : (s_number_in [.d (.str w)]).wp Q X := by
  have hb := bdy_len w
  have hl := mkS_len (bdy w)
  have htl : (mkS (bdy w)).cps.toList = bdy w := rfl
  unfold s_number_in e_number_in; with_reducible refine f_fnW (by with_unfolding_all exact rfl) ?_
  (repeat (case orE => (with_reducible refine dgx hw ?_); (with_reducible refine x_lenC (by with_unfolding_all exact rfl) (by omega) ?_); ((rw [htl])); ((rw [in_digits])); (fail "WU3"); (unfold c1_number_in)))
  have hc : (!(decide (1 ≤ ((bdy w).length : Int)) && decide (((bdy w).length : Int) ≤ 20)) || !(bdy w).all dig) = !numOk w := by
    unfold numOk
    have h1 : decide (1 ≤ ((bdy w).length : Int)) = decide (1 ≤ (bdy w).length) := decide_eq_decide.mpr (by omega)
    have h2 : decide (((bdy w).length : Int) ≤ 20) = decide ((bdy w).length ≤ 20) := decide_eq_decide.mpr (by omega)
    rw [h1, h2]
    cases decide (1 ≤ (bdy w).length) <;> cases decide ((bdy w).length ≤ 20) <;> cases (bdy w).all dig <;> rfl
  rw [hc]
  cases hk : numOk w with
  | false =>
    have e : numS w = none := by unfold numS; rw [hk]; rfl
    rw [e] at q
    refine way_t rfl ?_
    repeat fail "WU3"
    exact q
  | true =>
    refine way_f rfl ?_
    have hk2 := hk
    unfold numOk at hk2
    rw [Bool.and_eq_true, Bool.and_eq_true, decide_eq_true_eq, decide_eq_true_eq] at hk2
    obtain ⟨⟨k1, k2⟩, k3⟩ := hk2
    obtain ⟨c, r, hcr⟩ : ∃ c r, bdy w = c :: r := by
      cases e : bdy w with
      | nil => rw [e] at k1; simp at k1
      | cons c r => exact ⟨c, r, rfl⟩
    have hz : ("0123456789" : Str).cps.toList[0]? = some 48 := by rw [digits_tl]; rfl
    have hh : (mkS (bdy w)).cps.toList[0]? = some c := by rw [mkS_tl, hcr]; rfl
    have hl16 : (mkS (bdy w)).length ≤ 16777216 := by rw [mkS_len]; omega
    (repeat (case orE => (with_reducible refine x_idxC (by with_unfolding_all exact rfl) (by with_unfolding_all exact rfl) hl16 hh ?_); (with_reducible refine x_idxC (by with_unfolding_all exact rfl) (by with_unfolding_all exact rfl) (by decide +kernel) hz ?_); (fail "WU3")))
    have hw0 : (w = oneS 48) = (w = ("0" : Str)) := by rw [zero_one]
    have hc2 : (decide (oneS c = oneS 48) && !decide (w = oneS 48)) = decide ((bdy w)[0]? = some 48 ∧ w ≠ ("0" : Str)) := by
      rw [Bool.eq_iff_iff, Bool.and_eq_true, Bool.not_eq_true', decide_eq_true_eq, decide_eq_true_eq, decide_eq_false_iff_not, hw0]
      have e : (oneS c = oneS 48) ↔ (bdy w)[0]? = some 48 := by
        rw [hcr]
        constructor
        · intro h; simp at h; simp [h]
        · intro h; simp at h; rw [h]
      rw [e]
    rw [hc2]
    by_cases hz0 : (bdy w)[0]? = some 48 ∧ w ≠ ("0" : Str)
    · have e : numS w = none := by unfold numS; rw [if_pos hk, if_pos hz0]
      rw [e] at q
      refine way_t (decide_eq_true hz0) ?_
      repeat fail "WU3"
      exact q
    · have hi := int_of hk
      have hle := numOk_len hk
      have e : numS w = some (if w.cps.toList[0]? = some 45 then -((digitsVal (bdy w) : Nat) : Int) else ((digitsVal (bdy w) : Nat) : Int)) := by unfold numS; rw [if_pos hk, if_neg hz0]
      rw [e] at q
      refine way_f (decide_eq_false hz0) ?_
      (repeat (case orE => (with_reducible refine x_intT (by with_unfolding_all exact rfl) hi (by omega) ?_); (fail "WU3")))
      exact q
abbrev bdyN : SM := sAsg 2 (eOp addD (eOp mulD (eC (.int 10)) (eVar 2)) (eOp sixD (eTx (eC (.str ("0123456789" : Str)))) (eVar 3)))
theorem loopN {s0 s1 : Slot} : ∀ {cs : List Nat} {a : Nat} {s3 : Slot} {P : Po}, Fr s3 → cs.all dig = true → (∀ s3, Fr s3 → P.nx [s0, s1, .d (.int ((cs.foldl (fun acc c => acc * 10 + (c - 48)) a : Nat) : Int)), s3]) → (loopD (asgV 3) bdyN (cs.map fun c => D.str (oneS c)) [s0, s1, .d (.int (a : Nat)), s3]).wp P
  | [], a, s3, P, hf, _, q => q s3 hf
  | c :: cs, a, s3, P, hf, h, q => by
    rw [List.all_cons, Bool.and_eq_true] at h
    have h6 := six_dig h.1
    have e : (10 * (a : Int) + ((c - 48 : Nat) : Int)) = ((a * 10 + (c - 48) : Nat) : Int) := by omega
    have ih : (loopD (asgV 3) bdyN (cs.map fun c => D.str (oneS c)) [s0, s1, .d (.int ((a * 10 + (c - 48) : Nat) : Int)), .d (.str (oneS c))]).wp P := loopN .dat h.2 q
    rw [List.map_cons]
    with_reducible refine loop_consW ?_
    (repeat (case orE => (with_reducible refine x_six (by with_unfolding_all exact rfl) (by with_unfolding_all exact rfl) h6 ?_); ((rw [e])); (fail "WU4")))
    exact ih
/-! several numbers -/
def numsS (ws : List Str) : Option (List Int) := if ws.all (fun w => (numS w).isSome) = true then some (ws.map fun w => (numS w).getD 0) else none
def numsV (ws : List Str) : Val := match numsS ws with
  | some ns => .fr (.lst (ns.map D.int))
  | none => .d .non
theorem inS_non : ∀ ws : List Str, inS .non (ws.map fun w => optD (numS w)) = !ws.all fun w => (numS w).isSome
  | [] => rfl
  | w :: ws => by
    have ih := inS_non ws
    unfold inS at ih ⊢
    rw [List.map_cons, List.any_cons, ih, List.all_cons, Bool.not_and]
    cases numS w <;> rfl
theorem flat_opt : ∀ ws : List Str, (ws.map fun w => optD (numS w)).all flatD = true
  | [] => rfl
  | w :: ws => by
    rw [List.map_cons, List.all_cons, flat_opt ws]
    cases numS w <;> rfl
theorem x_inNon {ws : List Str} (h1 : x.peek ρ = some .non) (h2 : y.peek ρ = some (.lst (ws.map fun w => optD (numS w)))) (q : Q (.d (.bl (!ws.all fun w => (numS w).isSome))) ρ) : (opV inD x y ρ).wp Q X := by
  refine b_opV h1 h2 ?_ q
  have e : inSeqD false .non (.lst (ws.map fun w => optD (numS w))) = some (.d (.bl (inS .non (ws.map fun w => optD (numS w))))) := by
    unfold inSeqD
    dsimp only
    rw [if_pos ⟨rfl, flat_opt ws⟩]
    rfl
  rw [inS_non] at e
  simp only [inD, orOp, e]
theorem numbers_in_wp {ws : List Str} (hw : ∀ w ∈ ws, w.length ≤ 1000000) (hl : ws.length ≤ 1000001) (q : Q (numsV ws) [.ow (.lst (ws.map D.str)) .bor]) : (s_numbers_in [.ow (.lst (ws.map D.str)) .bor]).wp Q X := by
  unfold s_numbers_in e_numbers_in; with_reducible refine f_fnW (by with_unfolding_all exact rfl) ?_
  (repeat (case orE => (with_reducible refine comp_all (bs := ws) (dd := D.str) (g := fun w => optD (numS w)) (fun w hw' => ?_) ?_); (fail "WU3"); (unfold c1_numbers_in)))
  · with_reducible refine number_in_wp (hw _ (by assumption)) ?_
    repeat fail "WU3"
  · (repeat (case orE => (with_reducible refine x_inNon (by with_unfolding_all exact rfl) (by with_unfolding_all exact rfl) ?_); (fail "WU3")))
    cases ha : ws.all fun w => (numS w).isSome with
    | false =>
      have e : numsV ws = .d .non := by unfold numsV numsS; rw [ha]; rfl
      rw [e] at q
      refine way_t rfl ?_
      repeat fail "WU3"
      exact q
    | true =>
      have e : numsV ws = .fr (.lst (ws.map fun w => optD (numS w))) := by
        unfold numsV numsS
        rw [ha, if_pos rfl]
        dsimp only
        rw [List.map_map]
        refine congrArg (fun z => Val.fr (.lst z)) (List.map_congr_left fun w hw => ?_)
        have := List.all_eq_true.mp ha w hw
        cases h : numS w with
        | none => rw [h] at this; cases this
        | some n => simp [h, optD]
      rw [e] at q
      refine way_f rfl ?_
      repeat fail "WU3"
      exact q
/-! parts in a row -/
theorem log2_lt40 {n : Nat} (h : n < 10 ^ 40) : n.log2 < 1920 := by
  by_cases h0 : n = 0
  · subst h0; decide
  · exact (Nat.log2_lt h0).mpr (Nat.lt_of_lt_of_le h (by decide))
theorem line_of_wp {ps : List Pt} (ok : ∀ p ∈ ps, p.ok) (hl : ps.length ≤ 1000) (q : Q (.d (.str (rowS ps))) [.d (.tup (ps.map Pt.d))]) : (s_line_of [.d (.tup (ps.map Pt.d))]).wp Q X := by
  have h1 := sum_le ok
  have h3 : (" " : Str).length = 1 := by decide +kernel
  have e : (ps.map fun p => D.str p.t) = (ps.map Pt.t).map D.str := by rw [List.map_map]; rfl
  unfold s_line_of e_line_of; with_reducible refine f_fnW (by with_unfolding_all exact rfl) ?_
  (repeat (case orE => (with_reducible refine comp_all (bs := ps) (dd := Pt.d) (g := fun p => D.str p.t) (fun p hp => ?_) ?_); (fail "WU2"); (unfold c1_line_of)))
  · have := ok p hp
    cases p with
    | i n =>
      have hn : n.natAbs < 10 ^ 40 := this
      (repeat (case orE => (with_reducible refine x_strZi (by with_unfolding_all exact rfl) (log2_lt40 hn) ?_); (fail "WU2")))
      exact ⟨rfl, by with_unfolding_all exact rfl⟩
    | s x =>
      (repeat (case orE => (with_reducible refine x_strZs (by with_unfolding_all exact rfl) ?_); (fail "WU2")))
      exact ⟨rfl, by with_unfolding_all exact rfl⟩
  · rw [e]
    (repeat (case orE => (with_reducible refine x_join (ys := ps.map Pt.t) (by with_unfolding_all exact rfl) (.inl (by with_unfolding_all exact rfl)) (by rw [h3, List.length_map]; omega) ?_); (fail "WU2")))
    exact q
end CM
set_option maxHeartbeats 1000000
namespace K36
open PySem PySem.Spec PyProof.Rows L2 DL CM
/-! what can be shown by repr -/
structure Sh (k n : Nat) (d : D) : Prop where
  ex : ∃ p, d.toPyX = some p ∧ p.showable = true ∧ p.depth ≤ k ∧ p.shown.length + 2 ≤ 2000 * n
theorem sh_odd {m : Nat} {d : D} (hm : m ≤ 17) (h : d.oddB m = true) : Sh (d.dep + 1) d.cnt d := ⟨odd_py hm d h⟩
theorem Sh.mono {k k' n n' : Nat} {d : D} (h : Sh k n d) (hk : k ≤ k') (hn : n ≤ n') : Sh k' n' d := by
  obtain ⟨p, h1, h2, h3, h4⟩ := h.ex
  exact ⟨p, h1, h2, by omega, by omega⟩
theorem shL {k n : Nat} : ∀ {ds : List D}, (∀ d ∈ ds, Sh k n d) → ∃ ps, toPyXL ds = some ps ∧ PyData.showableAll ps = true ∧ PyData.depthAll ps ≤ k ∧ (PyData.shownAll ps).length = ds.length ∧ ((PyData.shownAll ps).map (·.length)).sum + 2 * ds.length ≤ 2000 * (n * ds.length)
  | [], _ => ⟨[], rfl, by simp only [PyData.showableAll], by simp [PyData.depthAll], by simp [PyData.shownAll], by simp [PyData.shownAll]⟩
  | d :: ds, h => by
    obtain ⟨p, a1, a2, a3, a5⟩ := (h d List.mem_cons_self).ex
    obtain ⟨ps, b1, b2, b3, b5, b6⟩ := shL (ds := ds) fun x hx => h x (List.mem_cons_of_mem _ hx)
    refine ⟨p :: ps, by simp [toPyXL, a1, b1], by simp [PyData.showableAll, a2, b2], ?_, by simp [PyData.shownAll, b5], ?_⟩
    · simp only [PyData.depthAll]
      omega
    · simp only [PyData.shownAll, List.map_cons, List.sum_cons, List.length_cons]
      rw [Nat.mul_succ n]
      omega
theorem Sh.tup {k n : Nat} {ds : List D} (h : ∀ d ∈ ds, Sh k n d) : Sh (k + 1) (n * ds.length + 1) (.tup ds) := by
  obtain ⟨ps, h1, h2, h3, h5, h6⟩ := shL h
  refine ⟨.tuple ps, by simp [D.toPyX, h1], by simpa [PyData.showable] using h2, by simp only [PyData.depth]; omega, ?_⟩
  have := tupleText_len_le (PyData.shownAll ps)
  simp only [PyData.shown]
  rw [h5] at this
  omega
theorem Sh.lst {k n : Nat} {ds : List D} (h : ∀ d ∈ ds, Sh k n d) : Sh (k + 1) (n * ds.length + 1) (.lst ds) := by
  obtain ⟨ps, h1, h2, h3, h5, h6⟩ := shL h
  refine ⟨.list ps, by simp [D.toPyX, h1], by simpa [PyData.showable] using h2, by simp only [PyData.depth]; omega, ?_⟩
  have := listText_len_le (PyData.shownAll ps)
  simp only [PyData.shown]
  rw [h5] at this
  omega
theorem rt_a : (reprText ("a" : Str)).length = 3 := by decide +kernel
theorem Sh.dic {k n : Nat} {d : D} (h : Sh k n d) : Sh (k + 1) (n + 1) (.dic [.inr ("a" : Str)] [d]) := by
  obtain ⟨p, h1, h2, h3, h4⟩ := h.ex
  refine ⟨.dict [(.str "a", p)], by simp [D.toPyX, h1], by simpa [PyData.showable, PyData.showableKv] using h2, by rw [dep_dic1]; omega, ?_⟩
  rw [shown_dic1]
  have e : (dictText [reprText ("a" : Str) ++ ": " ++ p.shown]).length = ("{" : Str).length + ((reprText ("a" : Str)).length + (": " : Str).length + p.shown.length) + ("}" : Str).length := by
    unfold dictText
    rw [Str.length_append, Str.length_append]
    have : (Str.join ", " [reprText ("a" : Str) ++ ": " ++ p.shown]).length = (reprText ("a" : Str)).length + (": " : Str).length + p.shown.length := by
      rw [show Str.join ", " [reprText ("a" : Str) ++ ": " ++ p.shown] = reprText ("a" : Str) ++ ": " ++ p.shown from rfl, Str.length_append, Str.length_append]
    rw [this]
  rw [e, rt_a]
  have l1 : ("{" : Str).length = 1 := by decide +kernel
  have l2 : (": " : Str).length = 2 := by decide +kernel
  have l3 : ("}" : Str).length = 1 := by decide +kernel
  omega
theorem x_reprS {k n : Nat} {ρ : DEnv} {xs : List Val} {a : D} {Q : Val → DEnv → Prop} {X : Ex → DEnv → Prop} (h1 : peekL ρ xs = some [a]) (hr : (∃ ys, a = .tup ys) ∨ ∃ ys, a = .lst ys) (h : Sh k n a) (hk : k ≤ 60) (hn : n ≤ 8000) (q : Q (.d (.str (shownY a))) ρ) : (callV reprY xs ρ).wp Q X := by
  refine b_callV h1 ?_ q
  have gen : reprT1 a = some (.d (.str (shownY a))) := by
    obtain ⟨p, h1, h2, h3, h4⟩ := h.ex
    unfold reprT1 shownY
    rw [h1]
    dsimp only
    rw [if_pos ⟨h2, by omega, by unfold sizeLine; omega⟩]
  rcases hr with ⟨ys, rfl⟩ | ⟨ys, rfl⟩
  · exact gen
  · exact gen
end K36
set_option maxHeartbeats 1000000
namespace CM
open PySem PySem.Spec PyProof.Rows L2 DL PySem.NumText
variable {Q : Val → DEnv → Prop} {X : Ex → DEnv → Prop} {ρ : DEnv} {x y : Val} {w : Str}
def ascS (s : Str) : Bool := s.cps.toList.all fun c => decide (c < 128)
theorem ascs_app {a b : Str} (ha : ascS a = true) (hb : ascS b = true) : ascS (a ++ b) = true := by
  unfold ascS at ha hb ⊢
  have e : (a ++ b).cps.toList = a.cps.toList ++ b.cps.toList := TL.tl_append a b
  rw [e, List.all_append, ha, hb]
  rfl
theorem app_len (a b : Str) : (a ++ b).length = a.length + b.length := Str.length_append a b
theorem x_lenT {xs : List Val} {a : Str} (h1 : peekL ρ xs = some [.str a]) (h : a.length ≤ 16000000) (q : Q (.d (.int a.length)) ρ) : (callV lenD xs ρ).wp Q X :=
  b_callV h1 (if_pos (by omega)) q
/-! rows have small signs -/
theorem ascs_join {sep : Str} (h : ascS sep = true) : ∀ {xs : List Str}, (∀ x ∈ xs, ascS x = true) → ascS (Str.join sep xs) = true
  | [], _ => by show ascS Str.empty = true; decide +kernel
  | [x], hx => hx x List.mem_cons_self
  | x :: y :: r, hx => ascs_app (ascs_app (hx x List.mem_cons_self) h) (ascs_join h fun z hz => hx z (List.mem_cons_of_mem _ hz))
theorem ascs_num (n : Int) : ascS (numT n) = true := List.all_eq_true.mpr fun c hc => decide_eq_true (by
  rcases Nat.lt_or_ge c 128 with h | h
  · exact h
  · exact absurd hc (numT_free (.inr (by omega))))
theorem ascs_row {ps : List Pt} (h : ∀ p ∈ ps, ascS p.t = true) : ascS (rowS ps) = true := by
  have e : rowS ps = Str.join (" " : Str) (ps.map Pt.t) := StrLaws.glued_eq_join _ _
  rw [e]
  refine ascs_join (by decide +kernel) fun x hx => ?_
  obtain ⟨p, hp, rfl⟩ := List.mem_map.mp hx
  exact h p hp
/-! parts of small signs -/
/-! what can be shown by repr -/
theorem sh_txt {n : Nat} {s : Str} (h : ascS s = true) (hl : 10 * s.length + 4 ≤ 2000 * n) : K36.Sh 1 n (.str s) := by
  refine ⟨.str s, by simp [D.toPyX], by simp only [PyData.showable], by simp [PyData.depth], ?_⟩
  simp only [PyData.shown]
  have := StrLaws.reprText_len s fun c hc => by
    have := of_decide_eq_true (List.all_eq_true.mp h c hc)
    exact Nat.lt_of_lt_of_le this (by decide)
  omega
theorem sh_int {i : Int} (h : i.natAbs ≤ 1000000000000000000000000000000) : K36.Sh 1 1 (.int i) :=
  (K36.sh_odd (m := 0) (by omega) (by simp [D.oddB]; omega)).mono (by simp [D.dep]) (by simp [D.cnt])
end CM
set_option maxHeartbeats 1000000
namespace K58
open PySem PySem.Spec PyProof.Rows L2 DL CM
def opW (w : Str) (ws : List Str) : D := match numsS ws with
  | some ns => if ws.length = 3 then .tup (.str w :: ns.map D.int) else .non
  | none => .non
def opT (row : Str) : D := match Txt.split row (" " : Str) with
  | [] => .non
  | w :: ws => opW w ws
theorem split_cons (s : Str) : ∃ w ws, Txt.split s (" " : Str) = w :: ws := by
  have := PyProof.Rows.split_pos s (" " : Str)
  cases e : Txt.split s (" " : Str) with
  | nil => rw [e] at this; simp at this
  | cons w ws => exact ⟨w, ws, rfl⟩
theorem nums_len {ws : List Str} {ns : List Int} (hn : numsS ws = some ns) : ns.length = ws.length := by
  unfold numsS at hn
  split at hn
  · cases hn; rw [List.length_map]
  · cases hn
section
variable {Q : Val → DEnv → Prop} {X : Ex → DEnv → Prop}
theorem b_starC {ρ : DEnv} {ds : List D} {gl : M (List Val)} {QA : List Val → DEnv → Prop} {X : Ex → DEnv → Prop} (q : (gl ρ).wp (fun ys ρ2 => QA (ds.map Val.d ++ ys) ρ2) X) : (starV gl (.d (Cont.lst ds).toD) ρ).wp QA X := b_starL q
theorem opin_wp {s : Str} (hs : s.length ≤ 100000) (q : Q (.d (opT s)) [.d (.str s)]) : (s_operation_in [.d (.str s)]).wp Q X := by
  obtain ⟨w, ws, hsp⟩ := split_cons s
  have hlen : ∀ v ∈ ws, v.length ≤ 1000000 := fun v hv => by
    have := PyProof.Rows.part_short (x := s) (y := (" " : Str)) (a := v) (by rw [hsp]; exact List.mem_cons_of_mem _ hv)
    omega
  have hcnt : ws.length ≤ 1000001 := by
    have := PyProof.Rows.split_le s (" " : Str)
    rw [hsp, List.length_cons] at this
    omega
  have hq : opT s = opW w ws := by unfold opT; rw [hsp]
  rw [hq] at q
  unfold s_operation_in e_operation_in; with_reducible refine f_fnW (by with_unfolding_all exact rfl) ?_
  (repeat (case orE => (with_reducible refine x_split (by with_unfolding_all exact rfl) (by with_unfolding_all exact rfl) (by decide +kernel) (by omega) ?_); ((rw [hsp])); (with_reducible refine s_starG (by with_unfolding_all exact rfl) (by with_unfolding_all exact rfl) (by with_unfolding_all exact rfl) ?_); (fail "WU4"); (with_reducible refine numbers_in_wp hlen hcnt ?_)))
  cases hn : numsS ws with
  | none =>
    have e : numsV ws = .d .non := by unfold numsV; rw [hn]
    have hf : opW w ws = .non := by unfold opW; rw [hn]
    rw [hf] at q
    rw [e]
    (repeat (case orE => (with_reducible refine b_isnWD (by with_unfolding_all exact rfl) ?_); (fail "WU4")))
    exact q
  | some ns =>
    have e : numsV ws = .fr (.lst (ns.map D.int)) := by unfold numsV; rw [hn]
    have hnl := nums_len hn
    rw [e]
    (repeat (case orE => (with_reducible refine b_isnWO (by with_unfolding_all exact rfl) ?_); (fail "WU4")))
    by_cases ht : ws.length = 3
    · have hf : opW w ws = .tup (.str w :: ns.map D.int) := by unfold opW; rw [hn]; exact if_pos ht
      have hd : dsL (Val.d (.str w) :: ((ns.map D.int).map Val.d ++ [])) = some (.str w :: ns.map D.int) := by
        rw [List.append_nil]
        show (dsL ((ns.map D.int).map Val.d)).map (D.str w :: ·) = _
        rw [dsL_map]
        rfl
      rw [hf] at q
      refine way_f (by rw [decide_eq_true (show ((ws.length : Nat) : Int) = 4 - 1 by omega)]; rfl) ?_
      (repeat (case orE => (with_reducible refine b_starC ?_); (with_reducible refine x_mkTup hd (by rw [List.length_cons, List.length_map]; omega) ?_); (fail "WU4")))
      exact q
    · have hf : opW w ws = .non := by unfold opW; rw [hn]; exact if_neg ht
      rw [hf] at q
      refine way_t (by rw [decide_eq_false (show ¬ ((ws.length : Nat) : Int) = 4 - 1 by omega)]; rfl) ?_
      repeat fail "WU4"
      exact q
end
def opPs (o : Op) : List Pt := [.s (if o.w then ("write" : Str) else ("read" : Str)), .i o.v, .i o.b, .i o.e]
theorem opPs_d (o : Op) : .tup ((opPs o).map Pt.d) = o.d := by
  obtain ⟨w, v, b, e⟩ := o
  cases w <;> rfl
theorem op_bd {o : Op} (ok : o.Ok) : 0 ≤ o.v ∧ o.v ≤ 1000000000 ∧ -1000000000000000 ≤ o.b ∧ o.b ≤ 1000000000000000 ∧ -1000000000000000 ≤ o.e ∧ o.e ≤ 1000000000000000 := by
  have h1 : 0 ≤ o.v := ok.lo
  have h2 := ok.hi
  have h3 := ok.b
  have h4 := ok.be
  have h5 := ok.e
  omega
theorem wd_len (w : Bool) : (if w then ("write" : Str) else ("read" : Str)).length ≤ 5 ∧ ascS (if w then ("write" : Str) else ("read" : Str)) = true := by cases w <;> decide +kernel
theorem opPs_ok {o : Op} (ok : o.Ok) : ∀ p ∈ opPs o, p.ok := fun p hp => by
  have := op_bd ok
  simp only [opPs, List.mem_cons, List.not_mem_nil, or_false] at hp
  rcases hp with rfl | rfl | rfl | rfl
  · exact Nat.le_trans (wd_len _).1 (by decide)
  · show o.v.natAbs < 10 ^ 40; omega
  · show o.b.natAbs < 10 ^ 40; omega
  · show o.e.natAbs < 10 ^ 40; omega
theorem row_len {o : Op} (ok : o.Ok) : (rowS (opPs o)).length ≤ 60 ∧ ascS (rowS (opPs o)) = true := by
  have hb := op_bd ok
  refine ⟨?_, ascs_row fun p hp => ?_⟩
  · have h1 := StrLaws.join_length_le (" " : Str) ((opPs o).map Pt.t)
    have h3 : (" " : Str).length = 1 := by decide +kernel
    have h4 : rowS (opPs o) = Str.join (" " : Str) ((opPs o).map Pt.t) := StrLaws.glued_eq_join _ _
    have a1 := (wd_len o.w).1
    have a2 : (numT o.v).length ≤ 11 := numT_len (k := 10) (by decide) (by omega)
    have a3 : (numT o.b).length ≤ 17 := numT_len (k := 16) (by decide) (by omega)
    have a4 : (numT o.e).length ≤ 17 := numT_len (k := 16) (by decide) (by omega)
    rw [h4]
    simp only [opPs, List.map_cons, List.map_nil, List.sum_cons, List.sum_nil, List.length_cons, List.length_nil, Pt.t] at h1 ⊢
    omega
  · simp only [opPs, List.mem_cons, List.not_mem_nil, or_false] at hp
    rcases hp with rfl | rfl | rfl | rfl
    · exact (wd_len _).2
    · exact ascs_num _
    · exact ascs_num _
    · exact ascs_num _
def rowT (o : Op) : Str := rowS (opPs o)
theorem wd_free (w : Bool) : 32 ∉ (if w then ("write" : Str) else ("read" : Str)).cps.toList ∧ 10 ∉ (if w then ("write" : Str) else ("read" : Str)).cps.toList := by cases w <;> decide +kernel
theorem opPs_free {o : Op} {c : Nat} (h1 : c < 45) (h2 : c ∉ (if o.w then ("write" : Str) else ("read" : Str)).cps.toList) : ∀ p ∈ opPs o, c ∉ p.t.cps.toList := fun p hp => by
  simp only [opPs, List.mem_cons, List.not_mem_nil, or_false] at hp
  rcases hp with rfl | rfl | rfl | rfl
  · exact h2
  · exact numT_free (.inl h1)
  · exact numT_free (.inl h1)
  · exact numT_free (.inl h1)
theorem split_rowT (o : Op) : Txt.split (rowT o) (" " : Str) = [if o.w then ("write" : Str) else ("read" : Str), numT o.v, numT o.b, numT o.e] :=
  split_row (ps := opPs o) (by simp [opPs]) (opPs_free (by decide) (wd_free o.w).1)
theorem opT_rowT {o : Op} (ok : o.Ok) : opT (rowT o) = o.d := by
  have hb := op_bd ok
  have n1 : numS (numT o.v) = some o.v := numS_numT (by omega)
  have n2 : numS (numT o.b) = some o.b := numS_numT (by omega)
  have n3 : numS (numT o.e) = some o.e := numS_numT (by omega)
  have hs : numsS [numT o.v, numT o.b, numT o.e] = some [o.v, o.b, o.e] := by
    unfold numsS
    simp only [List.all_cons, List.all_nil, List.map_cons, List.map_nil, n1, n2, n3]
    rfl
  unfold opT
  rw [split_rowT]
  dsimp only
  unfold opW
  rw [hs]
  obtain ⟨w, v, b, e⟩ := o
  cases w <;> rfl
theorem not_join {sep : Str} {c : Nat} (hs : c ∉ sep.cps.toList) : ∀ {xs : List Str}, (∀ x ∈ xs, c ∉ x.cps.toList) → c ∉ (Str.join sep xs).cps.toList
  | [], _ => by show c ∉ (Str.empty).cps.toList; simp [Str.empty]
  | [x], h => h x List.mem_cons_self
  | x :: y :: r, h => by
    have e : (Str.join sep (x :: y :: r)).cps.toList = x.cps.toList ++ sep.cps.toList ++ (Str.join sep (y :: r)).cps.toList := by
      show (x ++ sep ++ Str.join sep (y :: r)).cps.toList = _
      rw [show ((x ++ sep ++ Str.join sep (y :: r)).cps.toList = (x ++ sep).cps.toList ++ (Str.join sep (y :: r)).cps.toList) from TL.tl_append _ _, show ((x ++ sep).cps.toList = x.cps.toList ++ sep.cps.toList) from TL.tl_append _ _]
    rw [e]
    intro hc
    rcases List.mem_append.mp hc with hc | hc
    · rcases List.mem_append.mp hc with hc | hc
      · exact h x List.mem_cons_self hc
      · exact hs hc
    · exact not_join hs (fun z hz => h z (List.mem_cons_of_mem _ hz)) hc
theorem row_free (o : Op) : 10 ∉ (rowT o).cps.toList := by
  have e : rowT o = Str.join (" " : Str) ((opPs o).map Pt.t) := StrLaws.glued_eq_join _ _
  rw [e]
  refine not_join (by decide +kernel) fun x hx => ?_
  obtain ⟨p, hp, rfl⟩ := List.mem_map.mp hx
  exact opPs_free (by decide) (wd_free o.w).2 p hp
theorem row_ne (o : Op) : rowT o ≠ ("-" : Str) := fun h => by
  have h1 := split_rowT o
  rw [h] at h1
  have h2 : (Txt.split ("-" : Str) (" " : Str)).length = 1 := by decide +kernel
  rw [h1] at h2
  simp at h2
/-! the text of a log -/
def pageT (l : Log) : Str := if l = [] then "-" else Txt.join ("\n" : Str) (l.map rowT)
theorem feed_tl : ("\n" : Str).cps.toList = [10] := by decide +kernel
theorem split_page {l : Log} (h : l ≠ []) : Txt.split (pageT l) ("\n" : Str) = l.map rowT := by
  unfold pageT
  rw [if_neg h]
  refine TL.split_join (s := 10) (S := []) feed_tl (by decide +kernel) (by simpa using h) fun x hx => ?_
  obtain ⟨o, _, rfl⟩ := List.mem_map.mp hx
  exact row_free o
theorem page_ne {l : Log} (h : l ≠ []) : pageT l ≠ ("-" : Str) := fun e => by
  have h1 := split_page h
  rw [e] at h1
  have h2 : Txt.split ("-" : Str) ("\n" : Str) = [("-" : Str)] := by decide +kernel
  rw [h2] at h1
  cases l with
  | nil => exact h rfl
  | cons o l =>
    rw [List.map_cons] at h1
    exact row_ne o (List.cons.inj h1).1.symm
theorem rows_len {l : Log} (ok : ∀ o ∈ l, o.Ok) : ((l.map rowT).map (·.length)).sum ≤ 60 * l.length := by
  induction l with
  | nil => simp
  | cons x m ih =>
    have h1 := (row_len (ok x List.mem_cons_self)).1
    have h2 := ih fun y hy => ok y (List.mem_cons_of_mem _ hy)
    have h3 : (rowT x).length ≤ 60 := h1
    simp only [List.map_cons, List.sum_cons, List.length_cons] at h2 ⊢
    omega
theorem page_len {l : Log} (ok : l.Ok) : (pageT l).length ≤ 12300 := by
  unfold pageT
  split
  · decide +kernel
  · have h1 := StrLaws.join_length_le ("\n" : Str) (l.map rowT)
    have h2 := rows_len ok.ops
    have h3 : ("\n" : Str).length = 1 := by decide +kernel
    have h4 : Txt.join ("\n" : Str) (l.map rowT) = Str.join ("\n" : Str) (l.map rowT) := StrLaws.glued_eq_join _ _
    have h5 := ok.len
    rw [h4]
    rw [h3, List.length_map] at h1
    omega
theorem maps_d {l : Log} (ok : ∀ o ∈ l, o.Ok) : (l.map rowT).map opT = l.map Op.d := by
  rw [List.map_map]
  exact List.map_congr_left fun o ho => opT_rowT (ok o ho)
theorem mapd_inj : ∀ {l m : Log}, l.map Op.d = m.map Op.d → l = m
  | [], [], _ => rfl
  | [], b :: m, h => by simp at h
  | a :: l, [], h => by simp at h
  | a :: l, b :: m, h => by
    rw [List.map_cons, List.map_cons] at h
    obtain ⟨h1, h2⟩ := List.cons.inj h
    rw [opd_inj h1, mapd_inj h2]
theorem page_inj {l m : Log} (hl : l.Ok) (hm : m.Ok) (h : pageT l = pageT m) : l = m := by
  by_cases h1 : l = []
  · by_cases h2 : m = []
    · rw [h1, h2]
    · subst h1
      exact absurd h.symm (page_ne h2)
  · by_cases h2 : m = []
    · subst h2
      exact absurd h (page_ne h1)
    · have e := split_page h1
      rw [h, split_page h2] at e
      refine mapd_inj ?_
      rw [← maps_d hl.ops, ← maps_d hm.ops, e]
/-! equal logs -/
def opPy (o : Op) : PyData := .tuple [.str o.k, .int o.v, .int o.b, .int o.e]
theorem toPyL_log : ∀ {l : Log}, toPyL (l.map Op.d) = some (l.map opPy)
  | [] => rfl
  | o :: l => by
    rw [List.map_cons]
    simp only [toPyL, toPyL_log, List.map_cons]
    rfl
theorem eqv_op {a b : Op} : PyData.eqv (opPy a) (opPy b) = decide (a = b) := by
  unfold opPy
  rw [Bool.eq_iff_iff, decide_eq_true_eq]
  simp only [PyData.eqv, PyData.eqvAll, Bool.and_true, Bool.and_eq_true, decide_eq_true_eq, beq_iff_eq]
  constructor
  · rintro ⟨h1, h2, h3, h4⟩
    refine opd_inj ?_
    unfold Op.d
    rw [h1, h2, h3, h4]
  · rintro rfl
    exact ⟨rfl, rfl, rfl, rfl⟩
theorem eqvAll_log : ∀ {l m : Log}, PyData.eqvAll (l.map opPy) (m.map opPy) = decide (l = m)
  | [], [] => by simp [PyData.eqvAll]
  | [], b :: bs => by simp [PyData.eqvAll]
  | a :: as, [] => by simp [PyData.eqvAll]
  | a :: as, b :: bs => by
    rw [List.map_cons, List.map_cons]
    simp only [PyData.eqvAll, eqv_op, eqvAll_log]
    rw [Bool.eq_iff_iff]
    simp
theorem eqG_log {l m : Log} : eqG l.d m.d = decide (l = m) := by
  unfold eqG Log.d
  simp only [D.toPy, toPyL_log, Option.map_some, PyData.eqv, eqvAll_log]
/-! columns -/
def padL (w : Nat) (x : Str) : Str := strN (" " : Str) (w - x.length) ++ x
def padR (w : Nat) (x : Str) : Str := x ++ strN (" " : Str) (w - x.length)
end K58
set_option maxHeartbeats 1000000
namespace K58
open PySem PySem.Spec PyProof.Rows L2 DL CM
/-! columns -/
theorem strN_go : ∀ (xs : List (Array Nat)) (a : Array Nat), (xs.foldl (· ++ ·) a).toList = a.toList ++ (xs.map Array.toList).flatten
  | [], a => by simp
  | x :: xs, a => by
    rw [List.foldl_cons, strN_go xs (a ++ x), Array.toList_append, List.map_cons, List.flatten_cons, List.append_assoc]
theorem strN_tl (x : Str) (n : Nat) : (strN x n).cps.toList = (List.replicate n x.cps.toList).flatten := by
  show (((List.replicate n x.cps).foldl (· ++ ·) #[] : Array Nat)).toList = _
  rw [strN_go, List.map_replicate]
  rfl
theorem strN_len (x : Str) (n : Nat) : (strN x n).length = n * x.length := by
  rw [str_len, strN_tl, str_len, List.length_flatten, List.map_replicate, List.sum_replicate_nat]
theorem flat_one (n : Nat) : (List.replicate n [32]).flatten = List.replicate n 32 := by
  induction n with
  | zero => rfl
  | succ n ih => rw [List.replicate_succ, List.flatten_cons, ih, List.replicate_succ]; rfl
theorem blanks_tl (n : Nat) : (strN (" " : Str) n).cps.toList = List.replicate n 32 := by rw [strN_tl, blank_tl.2, flat_one]
theorem str_ext {x y : Str} (h : x.cps.toList = y.cps.toList) : x = y := by
  cases x; cases y
  exact congrArg Str.mk (Array.ext' h)
theorem digs_e (n : Nat) : ((Nat.toDigits 10 n).map fun c => (if ((100 : Nat) == 88) = true then c.toUpper else c).toNat) = TL.numL n := rfl
theorem pad_field {w : Nat} {a : Int} : intField' { align := 62, width := some w } (decide (a < 0)) [] ((Nat.toDigits 10 a.natAbs).map fun c => (if ((100 : Nat) == 88) = true then c.toUpper else c).toNat) [] 3 = padL w (numT a) := by
  rw [digs_e]
  have hne : 1 ≤ (TL.numL a.natAbs).length := by
    unfold TL.numL
    rw [List.length_map]
    exact tDigits_len_ge 10 _
  have hl : (numT a).length = (if 0 ≤ a then (TL.numL a.natAbs).length else (TL.numL a.natAbs).length + 1) := by
    rw [str_len, numT_tl]
    split
    · rfl
    · rw [List.length_cons]
  refine str_ext ?_
  unfold padL
  rw [show (strN (" " : Str) (w - (numT a).length) ++ numT a).cps.toList = (strN (" " : Str) (w - (numT a).length)).cps.toList ++ (numT a).cps.toList from TL.tl_append _ _, blanks_tl, hl, numT_tl]
  generalize TL.numL a.natAbs = L at hne
  have he : L.isEmpty = false := by cases L with | nil => simp at hne | cons _ _ => rfl
  unfold intField'
  by_cases h : a < 0
  · rw [if_neg (show ¬ 0 ≤ a by omega), if_neg (show ¬ 0 ≤ a by omega), decide_eq_true h]
    simp [he]
    omega
  · rw [if_pos (show 0 ≤ a by omega), if_pos (show 0 ≤ a by omega), decide_eq_false h]
    simp [he]
theorem spec3 (a : Int) : intSpecTextOf (">3" : Str) a = padL 3 (numT a) := by
  rw [← pad_field]
  with_unfolding_all rfl
theorem spec10 (a : Int) : intSpecTextOf (">10" : Str) a = padL 10 (numT a) := by
  rw [← pad_field]
  with_unfolding_all rfl
theorem spec17 (a : Int) : intSpecTextOf (">17" : Str) a = padL 17 (numT a) := by
  rw [← pad_field]
  with_unfolding_all rfl
theorem padL_len {w : Nat} {x : Str} {n : Nat} (h : x.length ≤ n) (hw : w ≤ n) : (padL w x).length ≤ n := by
  unfold padL
  have h1 : (" " : Str).length = 1 := by decide +kernel
  rw [app_len, strN_len, h1]
  omega
end K58
set_option maxHeartbeats 1000000
namespace K58
open PySem PySem.Spec PyProof.Rows L2 DL CM
section
variable {Q : Val → DEnv → Prop} {X : Ex → DEnv → Prop} {P : Po}
theorem x_as {ρ ρ' : DEnv} {f : EM} (e : ρ = ρ') (q : (f ρ').wp Q X) : (f ρ).wp Q X := by subst e; exact q
theorem opline_wp {o : Op} (ok : o.Ok) (q : Q (.d (.str (rowT o))) [.d o.d]) : (s_line_of [.d o.d]).wp Q X := by
  unfold rowT at q
  rw [← opPs_d] at q ⊢
  exact line_of_wp (opPs_ok ok) (by simp [opPs]) q
theorem c1p_wp {l : Log} (ok : l.Ok) (q : Q (.fr (.lst (l.map fun x => D.str (rowT x)))) [.d l.d, .un]) : (c1__law_page [.d l.d, .un]).wp Q X := by
  have hl := ok.len
  have hln : (l.map Op.d).length < 16777216 := by rw [List.length_map]; omega
  (repeat (case orE => (with_reducible refine comp_all (bs := l) (dd := Op.d) (g := fun x => D.str (rowT x)) (fun x hx => ?_) ?_); (fail "WU2"); (unfold c1__law_page)))
  · with_reducible refine opline_wp (ok.ops _ (by assumption)) ?_
    repeat fail "WU2"
  · repeat fail "WU2"
    exact q
theorem c1f_wp {l : Log} (ok : l.Ok) (q : Q (.fr (.lst (l.map fun x => D.str (rowT x)))) [.d l.d, .un]) : (c1_format_log [.d l.d, .un]).wp Q X := by
  have hl := ok.len
  have hln : (l.map Op.d).length < 16777216 := by rw [List.length_map]; omega
  (repeat (case orE => (with_reducible refine comp_all (bs := l) (dd := Op.d) (g := fun x => D.str (rowT x)) (fun x hx => ?_) ?_); (fail "WU2"); (unfold c1_format_log)))
  · with_reducible refine opline_wp (ok.ops _ (by assumption)) ?_
    repeat fail "WU2"
  · repeat fail "WU2"
    exact q
theorem rows_e {l : Log} : (l.map fun x => D.str (rowT x)) = (l.map rowT).map D.str := by rw [List.map_map]; rfl
theorem join_ok {l : Log} (ok : l.Ok) : ((l.map rowT).map (·.length)).sum + (l.map rowT).length * ("\n" : Str).length ≤ 16777216 := by
  have h1 := rows_len ok.ops
  have h3 : ("\n" : Str).length = 1 := by decide +kernel
  have h4 := ok.len
  rw [h3, List.length_map]
  omega
theorem page_wp {l : Log} (ok : l.Ok) (q : Q (.d (.str (pageT l))) [.d l.d]) : (s__law_page [.d l.d]).wp Q X := by
  have g := ok.gd
  unfold s__law_page e__law_page; with_reducible refine f_fnW (by with_unfolding_all exact rfl) ?_
  (repeat (case orE => (with_reducible refine x_neNilT (by with_unfolding_all exact rfl) (by with_unfolding_all exact rfl) g (by decide) ?_); (fail "WU2")))
  cases l with
  | nil =>
    refine way_f rfl ?_
    repeat fail "WU2"
    exact q
  | cons o l =>
    have e : pageT (o :: l) = Txt.join ("\n" : Str) ((o :: l).map rowT) := if_neg (by simp)
    rw [e] at q
    refine way_t rfl ?_
    (repeat (case orE => ((with_reducible refine x_as (f := c1__law_page) (ρ' := [.d (Log.d (o :: l)), .un]) (by with_unfolding_all exact rfl) (c1p_wp ok ?_))); ((rw [rows_e])); (with_reducible refine x_join (ys := (o :: l).map rowT) (by with_unfolding_all exact rfl) (.inl (by with_unfolding_all exact rfl)) (join_ok ok) ?_); (fail "WU2")))
    exact q
theorem format_wp {l : Log} (ok : l.Ok) (q : Q (.d (.str (pageT l))) [.d l.d]) : (s_format_log [.d l.d]).wp Q X := by
  have g := ok.gd
  unfold s_format_log e_format_log; with_reducible refine f_fnW (by with_unfolding_all exact rfl) ?_
  (repeat (case orE => (with_reducible refine x_neNilT (by with_unfolding_all exact rfl) (by with_unfolding_all exact rfl) g (by decide) ?_); (fail "WU2")))
  cases l with
  | nil =>
    refine way_f rfl ?_
    repeat fail "WU2"
    exact q
  | cons o l =>
    have e : pageT (o :: l) = Txt.join ("\n" : Str) ((o :: l).map rowT) := if_neg (by simp)
    rw [e] at q
    refine way_t rfl ?_
    (repeat (case orE => ((with_reducible refine x_as (f := c1_format_log) (ρ' := [.d (Log.d (o :: l)), .un]) (by with_unfolding_all exact rfl) (c1f_wp ok ?_))); ((rw [rows_e])); (with_reducible refine x_join (ys := (o :: l).map rowT) (by with_unfolding_all exact rfl) (.inl (by with_unfolding_all exact rfl)) (join_ok ok) ?_); (fail "WU2")))
    exact q
theorem islog_tup {l : Log} {d : D} (e : d = l.d) (ok : l.Ok) (q : Q (.d (.bl true)) [.d d]) : (s_is_log [.d d]).wp Q X := by
  subst e
  have := ok.len
  exact islog_wp (by omega) (by rw [logB_iff.mpr ok]; exact q)
theorem rows_sh {l : Log} (ok : l.Ok) : ∀ r ∈ l.map rowT, r.length ≤ 100000 := fun r hr => by
  obtain ⟨o, ho, rfl⟩ := List.mem_map.mp hr
  exact Nat.le_trans (row_len (ok.ops o ho)).1 (by decide)
theorem parse_wp {l : Log} (ok : l.Ok) (q : Q (.d l.d) [.d (.str (pageT l))]) : (s_parse_log [.d (.str (pageT l))]).wp Q X := by
  have hlen := ok.len
  have hp := page_len ok
  by_cases h : l = []
  · subst h
    have e : pageT [] = ("-" : Str) := rfl
    rw [e] at q ⊢
    unfold s_parse_log e_parse_log; with_reducible refine f_fnW (by with_unfolding_all exact rfl) ?_
    (repeat (case orE => (with_reducible refine islog_tup (l := []) rfl ok ?_); (fail "WU3")))
    exact q
  · have hne := page_ne h
    have hsp := split_page h
    generalize pageT l = s at hne hsp q hp
    unfold s_parse_log e_parse_log; with_reducible refine f_fnW (by with_unfolding_all exact rfl) ?_
    (repeat (case orE => (with_reducible refine x_split (by with_unfolding_all exact rfl) (by with_unfolding_all exact rfl) (by decide +kernel) (by omega) ?_); ((rw [hsp])); (unfold c1_parse_log); (with_reducible refine comp_all (bs := l.map rowT) (dd := D.str) (g := opT) (fun r hr => ?_) ?_); (fail "WU3")))
    · with_reducible refine opin_wp (rows_sh ok _ (by assumption)) ?_
      repeat fail "WU3"
    · rw [maps_d ok.ops]
      (repeat (case orE => (with_reducible refine islog_tup (l := l) rfl ok ?_); (fail "WU3")))
      exact q
/-! columns -/
theorem filled_wp {w : Str} {n : Nat} {lf : Bool} (hw : w.length ≤ 1000) (hn : n ≤ 100) (q : Q (.d (.str (if lf then padR n w else padL n w))) [.d (.str w), .d (.int (n : Nat)), .d (.bl lf)]) : (s__law_filled [.d (.str w), .d (.int (n : Nat)), .d (.bl lf)]).wp Q X := by
  have h1 : (" " : Str).length = 1 := by decide +kernel
  have hk : ((n : Int) - (w.length : Nat)).toNat = n - w.length := by omega
  have hl : (strN (" " : Str) ((n : Int) - (w.length : Nat)).toNat).length ≤ 1000000 := by rw [strN_len, h1]; omega
  unfold s__law_filled e__law_filled; with_reducible refine f_fnW (by with_unfolding_all exact rfl) ?_
  (repeat (case orE => (with_reducible refine x_lenT (by with_unfolding_all exact rfl) (by omega) ?_); (with_reducible refine x_mulT2 (by with_unfolding_all exact rfl) (by with_unfolding_all exact rfl) h1 (by omega) hl ?_); ((rw [hk])); (fail "WU4")))
  rw [hk, strN_len, h1] at hl
  cases lf with
  | true =>
    refine way_t rfl ?_
    (repeat (case orE => (with_reducible refine x_addSs (by with_unfolding_all exact rfl) (by with_unfolding_all exact rfl) (by rw [strN_len, h1]; omega) ?_); (fail "WU4")))
    exact q
  | false =>
    refine way_f rfl ?_
    (repeat (case orE => (with_reducible refine x_addSs (by with_unfolding_all exact rfl) (by with_unfolding_all exact rfl) (by rw [strN_len, h1]; omega) ?_); (fail "WU4")))
    exact q
theorem fil3_wp {w : Str} (hw : w.length ≤ 1000) (q : Q (.d (.str (padL 3 w))) [.d (.str w), .d (.int 3), .d (.bl false)]) : (s__law_filled [.d (.str w), .d (.int 3), .d (.bl false)]).wp Q X := filled_wp (n := 3) (lf := false) hw (by decide) q
theorem fil10_wp {w : Str} (hw : w.length ≤ 1000) (q : Q (.d (.str (padL 10 w))) [.d (.str w), .d (.int 10), .d (.bl false)]) : (s__law_filled [.d (.str w), .d (.int 10), .d (.bl false)]).wp Q X := filled_wp (n := 10) (lf := false) hw (by decide) q
theorem fil17_wp {w : Str} (hw : w.length ≤ 1000) (q : Q (.d (.str (padL 17 w))) [.d (.str w), .d (.int 17), .d (.bl false)]) : (s__law_filled [.d (.str w), .d (.int 17), .d (.bl false)]).wp Q X := filled_wp (n := 17) (lf := false) hw (by decide) q
theorem fil5_wp {w : Str} (hw : w.length ≤ 1000) (q : Q (.d (.str (padR 5 w))) [.d (.str w), .d (.int 5), .d (.bl true)]) : (s__law_filled [.d (.str w), .d (.int 5), .d (.bl true)]).wp Q X := filled_wp (n := 5) (lf := true) hw (by decide) q
/-! the chart -/
def lnT (p : Op × Nat) : Str := Txt.join (" " : Str) [padL 3 (numT (p.2 : Nat)), padR 5 p.1.k, padL 10 (numT p.1.v), padL 17 (numT p.1.b), padL 17 (numT p.1.e)]
def chT (l : Log) : Str := Txt.join ("\n" : Str) (l.zipIdx.map lnT)
theorem js_e {s a b c d e : Str} : Str.empty ++ a ++ s ++ b ++ s ++ c ++ s ++ d ++ s ++ e = Txt.join s [a, b, c, d, e] := by
  have h : Txt.join s [a, b, c, d, e] = Str.join s [a, b, c, d, e] := StrLaws.glued_eq_join _ _
  have ta : ∀ x y : Str, (x ++ y).cps.toList = x.cps.toList ++ y.cps.toList := fun x y => TL.tl_append _ _
  rw [h]
  refine str_ext ?_
  show _ = (a ++ s ++ (b ++ s ++ (c ++ s ++ (d ++ s ++ e)))).cps.toList
  simp only [ta, Str.empty, List.append_assoc]
  rfl
theorem log2_of {i : Int} (h : i.natAbs < 10 ^ 40) : i.natAbs.log2 < 1920 := log2_lt40 h
theorem num_len {i : Int} (h : i.natAbs < 10 ^ 40) : (numT i).length ≤ 41 := numT_len (k := 40) (by decide) h
theorem x_fmt {ρ : DEnv} {x : Val} {sp : Str} {w : Nat} {i : Int} (hs : ∀ a, intSpecTextOf sp a = padL w (numT a)) (hw : w ≤ 17) (h1 : x.peek ρ = some (.int i)) (hi : i.natAbs < 10 ^ 40) (q : Q (.d (.str (padL w (numT i)))) ρ) : (unV (fmtD sp) x ρ).wp Q X := by
  refine b_unV h1 ?_ q
  show (if i.natAbs.log2 < 1920 ∧ (intSpecTextOf sp i).length ≤ sizeLine then some (Val.d (.str (intSpecTextOf sp i))) else none) = _
  rw [hs, if_pos ⟨log2_of hi, by have := padL_len (w := w) (n := 41) (num_len hi) (by omega); rw [sizeLine_eq]; omega⟩]
theorem pad_facts : ∀ w : Bool, padK (if w then ("write" : Str) else ("read" : Str)) = some (padR 5 (if w then ("write" : Str) else ("read" : Str))) ∧ (padR 5 (if w then ("write" : Str) else ("read" : Str))).length = 5 ∧ (if w then ("write" : Str) else ("read" : Str)).length ≤ 5 := by decide +kernel
theorem padK_k (o : Op) : padK o.k = some (padR 5 o.k) := (pad_facts o.w).1
theorem x_fmtK {ρ : DEnv} {x : Val} {o : Op} (h1 : x.peek ρ = some (.str o.k)) (q : Q (.d (.str (padR 5 o.k))) ρ) : (unV fmtK x ρ).wp Q X := by
  refine b_unV h1 ?_ q
  show (padK o.k).map _ = _
  rw [padK_k]
  rfl
theorem padR_len (o : Op) : (padR 5 o.k).length = 5 ∧ o.k.length ≤ 5 := (pad_facts o.w).2
structure Ln (p : Op × Nat) : Prop where
  i : (p.2 : Int).natAbs < 10 ^ 40
  v : p.1.v.natAbs < 10 ^ 40
  b : p.1.b.natAbs < 10 ^ 40
  e : p.1.e.natAbs < 10 ^ 40
theorem ln_of {l : Log} (ok : l.Ok) {p : Op × Nat} (h : p ∈ l.zipIdx) : Ln p := by
  have h1 := mem_zip h
  have h2 := op_bd (ok.ops p.1 (List.mem_of_getElem? h1))
  have h3 := (List.getElem?_eq_some_iff.mp h1).1
  have h4 := ok.len
  exact ⟨by omega, by omega, by omega, by omega⟩
theorem ln_len {p : Op × Nat} (h : Ln p) : (lnT p).length ≤ 300 := by
  have e : lnT p = Str.join (" " : Str) [padL 3 (numT (p.2 : Nat)), padR 5 p.1.k, padL 10 (numT p.1.v), padL 17 (numT p.1.b), padL 17 (numT p.1.e)] := StrLaws.glued_eq_join _ _
  have h1 := StrLaws.join_length_le (" " : Str) [padL 3 (numT (p.2 : Nat)), padR 5 p.1.k, padL 10 (numT p.1.v), padL 17 (numT p.1.b), padL 17 (numT p.1.e)]
  have h2 : (" " : Str).length = 1 := by decide +kernel
  have a1 := padL_len (w := 3) (n := 41) (num_len h.i) (by omega)
  have a2 := (padR_len p.1).1
  have a3 := padL_len (w := 10) (n := 41) (num_len h.v) (by omega)
  have a4 := padL_len (w := 17) (n := 41) (num_len h.b) (by omega)
  have a5 := padL_len (w := 17) (n := 41) (num_len h.e) (by omega)
  rw [e]
  simp only [List.map_cons, List.map_nil, List.sum_cons, List.sum_nil, List.length_cons, List.length_nil] at h1
  omega
theorem zl_e {l : Log} : (l.zipIdx.map fun p => D.str (lnT p)) = (l.zipIdx.map lnT).map D.str := by rw [List.map_map]; rfl
theorem zjoin_ok {l : Log} (ok : l.Ok) : ((l.zipIdx.map lnT).map (·.length)).sum + (l.zipIdx.map lnT).length * ("\n" : Str).length ≤ 16777216 := by
  have h3 : ("\n" : Str).length = 1 := by decide +kernel
  have h4 := ok.len
  have key : ∀ ps : List (Op × Nat), (∀ p ∈ ps, Ln p) → ((ps.map lnT).map (·.length)).sum ≤ 300 * ps.length := fun ps hp => by
    induction ps with
    | nil => simp
    | cons x m ih =>
      have h1 := ln_len (hp x List.mem_cons_self)
      have h2 := ih fun y hy => hp y (List.mem_cons_of_mem _ hy)
      simp only [List.map_cons, List.sum_cons, List.length_cons] at h2 ⊢
      omega
  have h5 := key l.zipIdx fun p hp => ln_of ok hp
  rw [List.length_zipIdx] at h5
  rw [h3, List.length_map, List.length_zipIdx]
  omega
theorem chart_wp {l : Log} (ok : l.Ok) (q : Q (.d (.str (chT l))) [.d l.d]) : (s_chart [.d l.d]).wp Q X := by
  have hl := ok.len
  have h0 : (Str.empty).length = 0 := by decide +kernel
  have hb : (" " : Str).length = 1 := by decide +kernel
  have hln : (l.map Op.d).length < 16777216 := by rw [List.length_map]; omega
  unfold s_chart e_chart; with_reducible refine f_fnW (by with_unfolding_all exact rfl) ?_
  (repeat (case orE => (fail "WU7"); (delta l1_chart)))
  rw [enumL_map]
  with_reducible refine loop_map (bs := l.zipIdx) (dd := fun p => .tup [.int (p.2 : Nat), p.1.d]) (fun k ρ => ∃ (s2 s3 s4 s5 s6 : DL.Slot), ρ = [.d l.d, .ow (.lst ((l.zipIdx.take k).map fun p => D.str (lnT p))) .own, s2, s3, s4, s5, s6] ∧ Fr s2 ∧ Fr s3 ∧ Fr s4 ∧ Fr s5 ∧ Fr s6) ?_ (fun j p ρ hj hI => ?_) (fun ρ hI => ?_)
  · exact ⟨.un, .un, .un, .un, .un, by with_unfolding_all exact rfl, Fr.un, Fr.un, Fr.un, Fr.un, Fr.un⟩
  · obtain ⟨s2, s3, s4, s5, s6, rfl, f2, f3, f4, f5, f6⟩ := hI
    have tk : l.zipIdx.take (j + 1) = l.zipIdx.take j ++ [p] := by rw [List.take_add_one, hj]; rfl
    have hn := ln_of ok (List.mem_of_getElem? hj)
    have hjl : j < 200 := by have := (List.getElem?_eq_some_iff.mp hj).1; rw [List.length_zipIdx] at this; omega
    have a1 := padL_len (w := 3) (n := 41) (num_len hn.i) (by omega)
    have a2 := (padR_len p.1).1
    have a3 := padL_len (w := 10) (n := 41) (num_len hn.v) (by omega)
    have a4 := padL_len (w := 17) (n := 41) (num_len hn.b) (by omega)
    have a5 := padL_len (w := 17) (n := 41) (num_len hn.e) (by omega)
    (repeat (case orE => (with_reducible refine x_fmt spec3 (by decide) (by with_unfolding_all exact rfl) hn.i ?_); (with_reducible refine x_fmtK (o := p.1) (by with_unfolding_all exact rfl) ?_); (with_reducible refine x_fmt spec10 (by decide) (by with_unfolding_all exact rfl) hn.v ?_); (with_reducible refine x_fmt (i := p.1.b) spec17 (by decide) (by with_unfolding_all exact rfl) hn.b ?_); (with_reducible refine x_fmt (i := p.1.e) spec17 (by decide) (by with_unfolding_all exact rfl) hn.e ?_); (with_reducible refine x_js (by first | omega | (simp only [app_len]; omega)) ?_); ((rw [js_e])); (with_reducible refine x_append (by with_unfolding_all exact rfl) (.inl rfl) (by rw [List.length_map, List.length_take, List.length_zipIdx]; omega) ?_); (fail "WU7")))
    refine ⟨.d (.int (p.2 : Nat)), .d (.str p.1.k), .d (.int p.1.v), .d (.int p.1.b), .d (.int p.1.e), ?_, Fr.dat, Fr.dat, Fr.dat, Fr.dat, Fr.dat⟩
    rw [tk, List.map_append]
    with_unfolding_all rfl
  · obtain ⟨s2, s3, s4, s5, s6, rfl, f2, f3, f4, f5, f6⟩ := hI
    rw [show l.zipIdx.length = l.zipIdx.length from rfl, List.take_length, zl_e]
    (repeat (case orE => (with_reducible refine x_join (ys := l.zipIdx.map lnT) (by with_unfolding_all exact rfl) (.inl (by with_unfolding_all exact rfl)) (zjoin_ok ok) ?_); (fail "WU7")))
    exact q
theorem lines_wp {l : Log} (ok : l.Ok) (q : Q (.d (.str (chT l))) [.d l.d]) : (s__law_lines [.d l.d]).wp Q X := by
  have hl := ok.len
  have hb : (" " : Str).length = 1 := by decide +kernel
  have hln : (l.map Op.d).length < 16777216 := by rw [List.length_map]; omega
  unfold s__law_lines e__law_lines; with_reducible refine f_fnW (by with_unfolding_all exact rfl) ?_
  (repeat (case orE => (fail "WU8"); (delta l1__law_lines)))
  rw [enumL_map]
  with_reducible refine loop_map (bs := l.zipIdx) (dd := fun p => .tup [.int (p.2 : Nat), p.1.d]) (fun k ρ => ∃ (s2 s3 s4 s5 s6 s7 : DL.Slot), ρ = [.d l.d, .ow (.lst ((l.zipIdx.take k).map fun p => D.str (lnT p))) .own, s2, s3, s4, s5, s6, s7] ∧ Fr s2 ∧ Fr s3 ∧ Fr s4 ∧ Fr s5 ∧ Fr s6 ∧ Fr s7) ?_ (fun j p ρ hj hI => ?_) (fun ρ hI => ?_)
  · exact ⟨.un, .un, .un, .un, .un, .un, by with_unfolding_all exact rfl, Fr.un, Fr.un, Fr.un, Fr.un, Fr.un, Fr.un⟩
  · obtain ⟨s2, s3, s4, s5, s6, s7, rfl, f2, f3, f4, f5, f6, f7⟩ := hI
    have tk : l.zipIdx.take (j + 1) = l.zipIdx.take j ++ [p] := by rw [List.take_add_one, hj]; rfl
    have hn := ln_of ok (List.mem_of_getElem? hj)
    have hjl : j < 200 := by have := (List.getElem?_eq_some_iff.mp hj).1; rw [List.length_zipIdx] at this; omega
    have b1 := num_len hn.i
    have b3 := num_len hn.v
    have b4 := num_len hn.b
    have b5 := num_len hn.e
    have a1 := padL_len (w := 3) (n := 41) b1 (by omega)
    have a2 := padR_len p.1
    have a3 := padL_len (w := 10) (n := 41) b3 (by omega)
    have a4 := padL_len (w := 17) (n := 41) b4 (by omega)
    have a5 := padL_len (w := 17) (n := 41) b5 (by omega)
    have c1 : (numT (p.2 : Nat)).length ≤ 1000 := Nat.le_trans b1 (by decide)
    have c2 : p.1.k.length ≤ 1000 := Nat.le_trans a2.2 (by decide)
    have c3 : (numT p.1.v).length ≤ 1000 := Nat.le_trans b3 (by decide)
    have c4 : (numT p.1.b).length ≤ 1000 := Nat.le_trans b4 (by decide)
    have c5 : (numT p.1.e).length ≤ 1000 := Nat.le_trans b5 (by decide)
    have e1 := log2_of hn.i
    have e3 := log2_of hn.v
    have e4 := log2_of hn.b
    have e5 := log2_of hn.e
    (repeat (case orE => (with_reducible refine x_strZi (i := (p.2 : Nat)) (by with_unfolding_all exact rfl) e1 ?_); (with_reducible refine x_strZi (i := p.1.v) (by with_unfolding_all exact rfl) e3 ?_); (with_reducible refine x_strZi (i := p.1.b) (by with_unfolding_all exact rfl) e4 ?_); (with_reducible refine x_strZi (i := p.1.e) (by with_unfolding_all exact rfl) e5 ?_); (with_reducible refine fil3_wp c1 ?_); (with_reducible refine fil5_wp c2 ?_); (with_reducible refine fil10_wp c3 ?_); (with_reducible refine fil17_wp c4 ?_); (with_reducible refine fil17_wp c5 ?_); (with_reducible refine x_addL (by with_unfolding_all exact rfl) (by with_unfolding_all exact rfl) (by simp) ?_); (with_reducible refine x_join (ys := [padL 3 (numT (p.2 : Nat)), padR 5 p.1.k, padL 10 (numT p.1.v), padL 17 (numT p.1.b), padL 17 (numT p.1.e)]) (by with_unfolding_all exact rfl) (.inl (by with_unfolding_all exact rfl)) (by simp only [List.map_cons, List.map_nil, List.sum_cons, List.sum_nil, List.length_cons, List.length_nil]; omega) ?_); (with_reducible refine x_append (by with_unfolding_all exact rfl) (.inl rfl) (by rw [List.length_map, List.length_take, List.length_zipIdx]; omega) ?_); (fail "WU8")))
    refine ⟨.d (.int (p.2 : Nat)), .ow (.lst [D.str (padL 3 (numT (p.2 : Nat))), D.str (padR 5 p.1.k), D.str (padL 10 (numT p.1.v))]) .own, .d (.str p.1.k), .d (.int p.1.v), .d (.int p.1.b), .d (.int p.1.e), ?_, Fr.dat, Fr.own, Fr.dat, Fr.dat, Fr.dat, Fr.dat⟩
    rw [tk, List.map_append]
    with_unfolding_all rfl
  · obtain ⟨s2, s3, s4, s5, s6, s7, rfl, f2, f3, f4, f5, f6, f7⟩ := hI
    rw [List.take_length, zl_e]
    (repeat (case orE => (with_reducible refine x_join (ys := l.zipIdx.map lnT) (by with_unfolding_all exact rfl) (.inl (by with_unfolding_all exact rfl)) (zjoin_ok ok) ?_); (fail "WU8")))
    exact q
end
end K58
set_option maxHeartbeats 1000000
namespace K58
open PySem PySem.Spec PyProof.Rows L2 DL CM K36
theorem op_sh {o : Op} (ok : o.Ok) : Sh 2 5 o.d := by
  have hb := op_bd ok
  have hk : Sh 1 1 (.str (if o.w then ("write" : Str) else ("read" : Str))) := by cases o.w <;> exact sh_txt (by decide +kernel) (by decide +kernel)
  have key : Sh 2 5 (.tup [.str (if o.w then ("write" : Str) else ("read" : Str)), .int o.v, .int o.b, .int o.e]) := (Sh.tup (k := 1) (n := 1) fun x hx => by
    simp only [List.mem_cons, List.not_mem_nil, or_false] at hx
    rcases hx with rfl | rfl | rfl | rfl
    · exact hk
    · exact sh_int (by omega)
    · exact sh_int (by omega)
    · exact sh_int (by omega)).mono (Nat.le_refl _) (by simp)
  obtain ⟨w, v, b, e⟩ := o
  cases w <;> exact key
theorem log_sh {l : Log} (ok : l.Ok) : Sh 3 1001 l.d := (Sh.tup (k := 2) (n := 5) fun x hx => by
  obtain ⟨o, ho, rfl⟩ := List.mem_map.mp hx
  exact op_sh (ok.ops o ho)).mono (Nat.le_refl _) (by have := ok.len; rw [List.length_map]; omega)
section
variable {Q : Val → DEnv → Prop} {X : Ex → DEnv → Prop} {P : Po}
theorem logr_wp {l : Log} (ok : l.Ok) (q : Q (.d (.bl true)) [.d l.d]) : (s__law_log_right [.d l.d]).wp Q X := by
  have sh := log_sh ok
  unfold s__law_log_right e__law_log_right; with_reducible refine f_fnW (by with_unfolding_all exact rfl) ?_
  (repeat (case orE => (with_reducible refine x_reprS (a := l.d) (by with_unfolding_all exact rfl) (.inl ⟨_, rfl⟩) sh (by decide) (by decide) ?_); (with_reducible refine page_wp ok ?_); (with_reducible refine format_wp ok ?_); (with_reducible refine parse_wp ok ?_); (with_reducible refine chart_wp ok ?_); (with_reducible refine lines_wp ok ?_); (with_reducible refine b_orW ?_); (fail "WU3")))
  exact q_bl q (decide_eq_true rfl).symm (by with_unfolding_all exact rfl)
/-! operations with great numbers -/
structure Far (k : Nat) (l : Log) : Prop where
  ops : ∀ o ∈ l, o.Ok
  nd : l.wr.Nodup
  lo : ∀ w ∈ l.wr, 1000000000 - (k : Int) < w
  len : l.length = k
theorem Far.ok {k : Nat} {l : Log} (h : Far k l) (hk : k ≤ 200) : l.Ok := ⟨h.ops, h.nd, by have := h.len; omega⟩
theorem wr_app {l : Log} {o : Op} : Log.wr (l ++ [o]) = l.wr ++ (if o.w then [o.v] else []) := by
  unfold Log.wr
  rw [List.filter_append, List.map_append]
  cases h : o.w <;> simp [h]
theorem Far.add {k : Nat} {l : Log} {o : Op} (h : Far k l) (ok : o.Ok) (hv : o.w = true → o.v = 1000000000 - (k : Int)) : Far (k + 1) (l ++ [o]) := by
  refine ⟨fun x hx => ?_, ?_, fun w hw => ?_, ?_⟩
  · rcases List.mem_append.mp hx with hx | hx
    · exact h.ops x hx
    · rw [List.mem_singleton.mp hx]; exact ok
  · rw [wr_app]
    cases hw : o.w with
    | false => rw [if_neg Bool.false_ne_true, List.append_nil]; exact h.nd
    | true =>
      rw [if_pos rfl]
      refine List.nodup_append.mpr ⟨h.nd, by simp, fun a ha b hb e => ?_⟩
      rw [List.mem_singleton.mp hb, hv hw] at e
      have := h.lo a ha
      omega
  · rw [wr_app] at hw
    rcases List.mem_append.mp hw with hw | hw
    · have := h.lo w hw; omega
    · cases ho : o.w with
      | false => rw [ho, if_neg Bool.false_ne_true] at hw; cases hw
      | true =>
        rw [ho, if_pos rfl] at hw
        rw [List.mem_singleton.mp hw, hv ho]
        omega
  · rw [List.length_append, h.len]; rfl
theorem p15 : (10 : Int) ^ Int.toNat 15 = 1000000000000000 := by decide +kernel
theorem p9 : (10 : Int) ^ Int.toNat 9 = 1000000000 := by decide +kernel
theorem far_wp {p : List D} {c n : Nat} (hp : Pot c p) (hc : c < 800000000) (hn : n ≤ 200) (q : ∀ l p', l.Ok → Pot (c + 8 * n) p' → Q (.d (Log.d l)) [.ow (.lst p') .bor, .d (.int (n : Nat))]) : (s__law_far [.ow (.lst p) .bor, .d (.int (n : Nat))]).wp Q X := by
  unfold s__law_far e__law_far; with_reducible refine f_fnW (by with_unfolding_all exact rfl) ?_
  (repeat (case orE => (fail "WU8"); (delta l1__law_far)))
  refine loop_inv (fun k ρ => ∃ (p' : List D) (l : Log) (s3 s4 s5 s6 s7 : DL.Slot), ρ = [.ow (.lst p') .bor, .d (.int (n : Nat)), .ow (.lst (l.map Op.d)) .own, s3, s4, s5, s6, s7] ∧ Fr s3 ∧ Fr s4 ∧ Fr s5 ∧ Fr s6 ∧ Fr s7 ∧ Far k l ∧ Pot (c + 8 * k) p') _ 0 _ ⟨p, [], .un, .un, .un, .un, .un, by with_unfolding_all exact rfl, Fr.un, Fr.un, Fr.un, Fr.un, Fr.un, ⟨by simp, by simp [Log.wr], by simp [Log.wr], rfl⟩, hp⟩ (fun j dd ρ hj hI => ?_) fun ρ hI => ?_
  · obtain ⟨p1, l, s3, s4, s5, s6, s7, rfl, f3, f4, f5, f6, f7, hf, hp1⟩ := hI
    obtain ⟨hjl, rfl⟩ := rng_at hj
    (repeat (case orE => ((rw [p15])); (fail "WU8")))
    refine draw_wp hp1 (by omega) (by omega) (by omega) fun r1 p2 h1 h2 hp2 => ?_
    (repeat (case orE => ((rw [p15])); (fail "WU8")))
    refine draw_wp hp2 (by omega) (by omega) (by omega) fun r2 p3 h3 h4 hp3 => ?_
    (repeat (case orE => ((rw [p15])); (fail "WU8")))
    refine any_wp (ds := [.int (-1000000000000000), .int 1000000000000000, .int 0, .int (1000000000000000 - r1), .int (0 - r2)]) hp3 (by omega) (.inr (.inl rfl)) (by simp) (by simp) fun x p4 hx hp4 => ?_
    have hx : ∃ v : Int, x = .int v ∧ -1000000000000000 ≤ v ∧ v ≤ 1000000000000000 := by
      simp only [List.mem_cons, List.not_mem_nil, or_false] at hx
      rcases hx with rfl | rfl | rfl | rfl | rfl <;> exact ⟨_, rfl, by omega, by omega⟩
    obtain ⟨x, rfl, x0, x1⟩ := hx
    (repeat (case orE => ((rw [p15])); (fail "WU8")))
    refine draw_wp hp4 (by omega) (by omega) (by omega) fun r3 p5 h5 h6 hp5 => ?_
    (repeat (case orE => ((rw [p15])); (fail "WU8")))
    refine any_wp (ds := [.int x, .int 1000000000000000, .int (min 1000000000000000 (x + r3))]) hp5 (by omega) (.inl rfl) (by simp) (by simp) fun y p6 hy hp6 => ?_
    have hy : ∃ v : Int, y = .int v ∧ x ≤ v ∧ v ≤ 1000000000000000 := by
      simp only [List.mem_cons, List.not_mem_nil, or_false] at hy
      rcases hy with rfl | rfl | rfl <;> exact ⟨_, rfl, by omega, by omega⟩
    obtain ⟨y, rfl, y0, y1⟩ := hy
    repeat fail "WU8"
    refine any_wp (ds := [.str ("write" : Str), .str ("read" : Str)]) hp6 (by omega) (.inl rfl) (by simp) (by simp) fun z p7 hz hp7 => ?_
    have hfl : (l.map Op.d).length < 16777216 := by rw [List.length_map, hf.len]; omega
    simp only [List.mem_cons, List.not_mem_nil, or_false] at hz
    rcases hz with rfl | rfl
    · (repeat (case orE => ((rw [p9])); (with_reducible refine x_append (by with_unfolding_all exact rfl) (.inl rfl) hfl ?_); (fail "WU8")))
      exact ⟨p7, l ++ [⟨true, 1000000000 - (0 + (j : Int)), x, y⟩], _, _, _, _, _, by rw [List.map_append]; with_unfolding_all exact rfl, Fr.dat, Fr.own, Fr.dat, Fr.dat, Fr.dat, hf.add ⟨by show 0 ≤ 1000000000 - (0 + (j : Int)); omega, fun _ => by show 1 ≤ 1000000000 - (0 + (j : Int)); omega, by show 1000000000 - (0 + (j : Int)) ≤ 1000000000; omega, x0, y0, y1⟩ (fun _ => by show 1000000000 - (0 + (j : Int)) = 1000000000 - ((0 + j : Nat) : Int); omega), hp7.mono (by omega)⟩
    · (repeat (case orE => ((rw [p9])); (fail "WU8")))
      refine any_wp (ds := [.int 0, .int 1000000000]) hp7 (by omega) (.inl rfl) (by simp) (by simp) fun v p8 hv hp8 => ?_
      have hv : ∃ i : Int, v = .int i ∧ 0 ≤ i ∧ i ≤ 1000000000 := by
        simp only [List.mem_cons, List.not_mem_nil, or_false] at hv
        rcases hv with rfl | rfl <;> exact ⟨_, rfl, by omega, by omega⟩
      obtain ⟨v, rfl, v0, v1⟩ := hv
      (repeat (case orE => (with_reducible refine x_append (by with_unfolding_all exact rfl) (.inl rfl) hfl ?_); (fail "WU8")))
      exact ⟨p8, l ++ [⟨false, v, x, y⟩], _, _, _, _, _, by rw [List.map_append]; with_unfolding_all exact rfl, Fr.dat, Fr.own, Fr.dat, Fr.dat, Fr.dat, hf.add ⟨v0, fun z => (by cases z), v1, x0, y0, y1⟩ (fun z => (by cases z)), hp8.mono (by omega)⟩
  · obtain ⟨p1, l, s3, s4, s5, s6, s7, rfl, f3, f4, f5, f6, f7, hf, hp1⟩ := hI
    repeat fail "WU8"
    have hk : (n : Int).toNat = n := Int.toNat_natCast n
    refine q l p1 (hf.ok ?_) (hp1.mono ?_)
    · simp
      omega
    · simp
end
end K58
set_option maxHeartbeats 1000000
namespace K58
open PySem PySem.Spec PyProof.Rows L2 DL CM K36
section
variable {Q : Val → DEnv → Prop} {X : Ex → DEnv → Prop} {P : Po} {s0 s1 s2 s3 s4 s5 s6 : DL.Slot}
theorem far12_wp {p : List D} {c : Nat} (hp : Pot c p) (hc : c < 800000000) (q : ∀ l p', l.Ok → Pot (c + 96) p' → Q (.d (Log.d l)) [.ow (.lst p') .bor, .d (.int 12)]) : (s__law_far [.ow (.lst p) .bor, .d (.int 12)]).wp Q X := far_wp (n := 12) hp hc (by decide) q
theorem far200_wp {p : List D} {c : Nat} (hp : Pot c p) (hc : c < 800000000) (q : ∀ l p', l.Ok → Pot (c + 1600) p' → Q (.d (Log.d l)) [.ow (.lst p') .bor, .d (.int 200)]) : (s__law_far [.ow (.lst p) .bor, .d (.int 200)]).wp Q X := far_wp (n := 200) hp hc (by decide) q
theorem x_eqLog {ρ : DEnv} {x y : Val} {l m : Log} (h1 : x.peek ρ = some l.d) (h2 : y.peek ρ = some m.d) (okl : l.Ok) (okm : m.Ok) (q : Q (.d (.bl (decide (l = m)))) ρ) : (opV eqV' x y ρ).wp Q X :=
  x_eq h1 h2 (okl.gd.eq okm.gd (by decide) (by decide)) (by rw [eqG_log]; exact q)
theorem page_iff {l m : Log} (hl : l.Ok) (hm : m.Ok) : decide (pageT l = pageT m) = decide (l = m) := by
  rw [Bool.eq_iff_iff, decide_eq_true_eq, decide_eq_true_eq]
  exact ⟨page_inj hl hm, fun h => by rw [h]⟩
abbrev restS : SM := sSeq (sIf (tNotM (tst (eCallB allD (aCons c1_law aNil)))) (sRet (eC (.bl false))) sSkip) l2_law
theorem rest_wp {ls : List Log} (h : ∀ l ∈ ls, l.Ok) (hl : ls.length ≤ 10) (f4 : Fr s4) (f5 : Fr s5) (q : ∀ s4 s5, Fr s4 → Fr s5 → P.nx [s0, s1, s2, .ow (.lst (ls.map Log.d)) .own, s4, s5, .un]) : (restS [s0, s1, s2, .ow (.lst (ls.map Log.d)) .own, s4, s5, .un]).wp P := by
  have hln : (ls.map Log.d).length < 16777216 := by rw [List.length_map]; omega
  unfold restS
  (repeat (case orE => (with_reducible refine comp_all (bs := ls) (dd := Log.d) (g := fun _ => D.bl true) (fun l hl' => ?_) ?_); (fail "WU7"); (unfold c1_law)))
  · with_reducible refine logr_wp (h _ (by assumption)) ?_
    repeat fail "WU7"
  · repeat fail "WU7"
    refine way_f (by simp) ?_
    repeat fail "WU7"
    refine s_unlk ?_
    with_reducible refine loop_map (bs := ls) (dd := Log.d) (fun k ρ => ∃ s4 s5, ρ = [s0, s1, s2, .ow (.lst (ls.map Log.d)) .lck, s4, s5, .un] ∧ Fr s4 ∧ Fr s5) ?_ (fun j l ρ hj hI => ?_) fun ρ hI => ?_
    · exact ⟨s4, s5, by with_unfolding_all exact rfl, f4, f5⟩
    · obtain ⟨s4, s5, rfl, f4, f5⟩ := hI
      have okl := h l (List.mem_of_getElem? hj)
      repeat fail "WU7"
      refine s_unlk ?_
      with_reducible refine loop_map (bs := ls) (dd := Log.d) (fun k ρ => ∃ s5, ρ = [s0, s1, s2, .ow (.lst (ls.map Log.d)) .lck, .d l.d, s5, .un] ∧ Fr s5) ?_ (fun j m ρ hj hI => ?_) fun ρ hI => ?_
      · exact ⟨s5, by with_unfolding_all exact rfl, f5⟩
      · obtain ⟨s5, rfl, f5⟩ := hI
        have okm := h m (List.mem_of_getElem? hj)
        (repeat (case orE => (with_reducible refine format_wp okl ?_); (with_reducible refine format_wp okm ?_); (with_reducible refine x_eqLog (l := l) (m := m) (by with_unfolding_all exact rfl) (by with_unfolding_all exact rfl) okl okm ?_); (fail "WU7")))
        rw [page_iff okl okm]
        with_reducible refine x_neSame (by with_unfolding_all exact rfl) (by with_unfolding_all exact rfl) Gd.bl (by decide) rfl ?_
        repeat fail "WU7"
        exact ⟨.d m.d, by with_unfolding_all exact rfl, Fr.dat⟩
      · obtain ⟨s5, rfl, f5⟩ := hI
        exact ⟨.d l.d, s5, by with_unfolding_all exact rfl, Fr.dat, f5⟩
    · obtain ⟨s4, s5, rfl, f4, f5⟩ := hI
      exact q _ _ f4 f5
theorem sem_law (ns : List Int) (h : ns.length ≤ 63) : ∃ as', s_law [.d (.scr ns)] = .ret (.d (.bl true)) as' := by
  have key : (s_law [.d (.scr ns)]).wp (fun x _ => x = .d (.bl true)) fun _ _ => False := by
    unfold s_law e_law; with_reducible refine f_fnW (by with_unfolding_all exact rfl) ?_
    (repeat (case orE => (fail "WU7"); (delta l3_law)))
    refine loop_inv (fun k ρ => ∃ s1 s2 s3 s4 s5, ρ = [.d (.scr ns), s1, s2, s3, s4, s5, .un] ∧ Fr s1 ∧ Fr s2 ∧ Fr s3 ∧ Fr s4 ∧ Fr s5) _ 0 _ ⟨.un, .un, .un, .un, .un, rfl, Fr.un, Fr.un, Fr.un, Fr.un, Fr.un⟩ (fun j dd ρ hj hI => ?_) fun ρ hI => ?_
    · obtain ⟨s1, s2, s3, s4, s5, rfl, f1, f2, f3, f4, f5⟩ := hI
      obtain ⟨hjl, rfl⟩ := rng_at hj
      repeat fail "WU7"
      with_reducible refine pot_wp (by omega) (by omega) fun p hp => ?_
      repeat fail "WU7"
      refine wildT_wp hp (by omega) (by omega) (by omega) (by omega) (by omega) fun la p1 oka hla hp1 => ?_
      repeat fail "WU7"
      with_reducible refine far12_wp hp1 (by omega) fun lb p2 okb hp2 => ?_
      repeat fail "WU7"
      refine trueT_wp hp2 ⟨by omega, by omega, by omega, by omega, by omega, by omega⟩ (by omega) (by omega) fun lc p3 okc hlc hp3 => ?_
      repeat fail "WU7"
      with_reducible refine far200_wp hp3 (by omega) fun ld p4 okd hp4 => ?_
      have hok : ∀ l ∈ [la, lb, lc, [], ld], l.Ok := fun l hl => by
        simp only [List.mem_cons, List.not_mem_nil, or_false] at hl
        rcases hl with rfl | rfl | rfl | rfl | rfl
        · exact oka
        · exact okb
        · exact okc
        · exact ⟨by simp, by simp [Log.wr], by simp⟩
        · exact okd
      (repeat (case orE => ((with_reducible refine s_as (f := restS) (ρ' := [.d (.scr ns), .d (.int (0 + (j : Int))), .ow (.lst p4) .own, .ow (.lst ([la, lb, lc, [], ld].map Log.d)) .own, s4, s5, .un]) (by with_unfolding_all exact rfl) (rest_wp hok (by simp) f4 f5 ?_))); (fail "WU7")))
      intro s4 s5 f4 f5
      exact ⟨_, _, _, _, _, by with_unfolding_all exact rfl, Fr.dat, Fr.own, Fr.own, f4, f5⟩
    · obtain ⟨s1, s2, s3, s4, s5, rfl, f1, f2, f3, f4, f5⟩ := hI
      repeat fail "WU7"
      rfl
  obtain ⟨x, as, e, hx⟩ := RF.wp_ret key
  subst hx
  exact ⟨as, e⟩
end
end K58
set_option maxHeartbeats 4000000
namespace K58
open PySem PySem.Spec PyProof.Rows L2 DL
def topS (i : Nat) : Stmt := PySem.Challenge.pw_clockslack_k58_whole_logs_written_and_re.main.body.getD i (.Pass ⟨0, 0, 0, 0⟩)
abbrev st_is_integer : Stmt := topS 10
abbrev st_are_stamps : Stmt := topS 11
abbrev st_is_operation : Stmt := topS 12
abbrev st_is_log : Stmt := topS 13
abbrev st_number_in : Stmt := topS 22
abbrev st_numbers_in : Stmt := topS 23
abbrev st_line_of : Stmt := topS 24
abbrev st_format_log : Stmt := topS 25
abbrev st_operation_in : Stmt := topS 26
abbrev st_parse_log : Stmt := topS 27
abbrev st_chart : Stmt := topS 28
abbrev st__law_pot : Stmt := topS 30
abbrev st__law_draw : Stmt := topS 31
abbrev st__law_any : Stmt := topS 32
abbrev st__law_mixed : Stmt := topS 33
abbrev st__law_wild : Stmt := topS 34
abbrev st__law_true : Stmt := topS 35
abbrev st__law_row : Stmt := topS 36
abbrev st__law_page : Stmt := topS 37
abbrev st__law_filled : Stmt := topS 38
abbrev st__law_lines : Stmt := topS 39
abbrev st__law_far : Stmt := topS 40
abbrev st__law_log_right : Stmt := topS 41
abbrev st_law : Stmt := topS 42
section
variable [i0 : TabT]
variable {P : Program} {w : World} {K : PySem.W.Frag} {mg : Str → Option Value} {base : Heap}
theorem sc_is_integer : FnScope [("value" : Str), ("least" : Str), ("greatest" : Str)] ps_is_integer (defScope st_is_integer) := ⟨rfl, rfl, rfl, by decide +kernel, rfl, by decide +kernel, by decide +kernel⟩
theorem g_is_integer {f : Addr} {fd : FuncData} (Fu : Fun K ("is_integer" : Str) ("is_integer" : Str) st_is_integer f fd) (c_isinstance : mg ("isinstance" : Str) = none) (c_int : mg ("int" : Str) = none) (c_bool : mg ("bool" : Str) = none) : GFn P w K mg base 1 f fd ps_is_integer CM.s_is_integer := by
  refine gfn_of (g := CM.e_is_integer) Fu sc_is_integer 0 rfl fun cdv A outer s H E hr hG => ?_
  have hu1 := hu1_of hr
  have sc := sc_is_integer
  exact (ds_one (ds_ret (de_and (de_callB CR_isi cs_isi (by rfl) c_isinstance PyProof.Rows.boot_isinstance (da_cons (de_var 0) (da_cons (de_bty (by rfl) c_int PyProof.Rows.boot_int) da_nil))) (de_and (de_not (de_callB CR_isi cs_isi (by rfl) c_isinstance PyProof.Rows.boot_isinstance (da_cons (de_var 0) (da_cons (de_bty (by rfl) c_bool PyProof.Rows.boot_bool) da_nil)))) (de_one (de_leLe (de_var 1) (de_var 0) (de_var 2)))))))
theorem sc_are_stamps : FnScope [("begin" : Str), ("end" : Str)] ps_are_stamps (defScope st_are_stamps) := ⟨rfl, rfl, rfl, by decide +kernel, rfl, by decide +kernel, by decide +kernel⟩
theorem g_are_stamps {f : Addr} {fd : FuncData} (Fu : Fun K ("are_stamps" : Str) ("are_stamps" : Str) st_are_stamps f fd) {f_is_integer : Addr} {fd_is_integer : FuncData} (G_is_integer : GFn P w K mg base 1 f_is_integer fd_is_integer ps_is_integer CM.s_is_integer) (m_is_integer : mg ("is_integer" : Str) = some (.ref f_is_integer)) (k_is_integer : PySem.W.keepIn K (.ref f_is_integer) = true) (b_is_integer : Binds K fd_is_integer ps_is_integer []) {t_MOST_STAMP : Tok} (c_MOST_STAMP : mg ("MOST_STAMP" : Str) = some (.int 1000000000000000 t_MOST_STAMP)) : GFn P w K mg base 2 f fd ps_are_stamps CM.s_are_stamps := by
  refine gfn_of (g := CM.e_are_stamps) Fu sc_are_stamps 0 rfl fun cdv A outer s H E hr hG => ?_
  have hu1 := hu1_of hr
  have sc := sc_are_stamps
  exact (ds_one (ds_ret (de_and (de_call G_is_integer hr hG (takes_of rfl rfl rfl rfl) (by rfl) m_is_integer k_is_integer b_is_integer (da_cons (de_var 0) (da_cons (de_neg (de_globI (by rfl) c_MOST_STAMP)) (da_cons (de_globI (by rfl) c_MOST_STAMP) da_nil))) (aCons_len (aCons_len (aCons_len fun _ _ _ => aNil_len)))) (de_one (de_call G_is_integer hr hG (takes_of rfl rfl rfl rfl) (by rfl) m_is_integer k_is_integer b_is_integer (da_cons (de_var 1) (da_cons (de_var 0) (da_cons (de_globI (by rfl) c_MOST_STAMP) da_nil))) (aCons_len (aCons_len (aCons_len fun _ _ _ => aNil_len))))))))
theorem sc_is_operation : FnScope [("value" : Str), ("kind" : Str), ("written" : Str), ("begin" : Str), ("end" : Str)] ps_is_operation (defScope st_is_operation) := ⟨rfl, rfl, rfl, by decide +kernel, rfl, by decide +kernel, by decide +kernel⟩
theorem g_is_operation {f : Addr} {fd : FuncData} (Fu : Fun K ("is_operation" : Str) ("is_operation" : Str) st_is_operation f fd) {f_are_stamps : Addr} {fd_are_stamps : FuncData} (G_are_stamps : GFn P w K mg base 2 f_are_stamps fd_are_stamps ps_are_stamps CM.s_are_stamps) (m_are_stamps : mg ("are_stamps" : Str) = some (.ref f_are_stamps)) (k_are_stamps : PySem.W.keepIn K (.ref f_are_stamps) = true) (b_are_stamps : Binds K fd_are_stamps ps_are_stamps []) {f_is_integer : Addr} {fd_is_integer : FuncData} (G_is_integer : GFn P w K mg base 2 f_is_integer fd_is_integer ps_is_integer CM.s_is_integer) (m_is_integer : mg ("is_integer" : Str) = some (.ref f_is_integer)) (k_is_integer : PySem.W.keepIn K (.ref f_is_integer) = true) (b_is_integer : Binds K fd_is_integer ps_is_integer []) {t_PARTS : Tok} (c_PARTS : mg ("PARTS" : Str) = some (.int 4 t_PARTS)) (c_isinstance : mg ("isinstance" : Str) = none) (c_tuple : mg ("tuple" : Str) = none) (c_len : mg ("len" : Str) = none) (c_str : mg ("str" : Str) = none) {t_READ : Tok} (c_READ : mg ("READ" : Str) = some (.str ("read" : Str) t_READ)) {t_WRITE : Tok} (c_WRITE : mg ("WRITE" : Str) = some (.str ("write" : Str) t_WRITE)) {t_MOST_VALUE : Tok} (c_MOST_VALUE : mg ("MOST_VALUE" : Str) = some (.int 1000000000 t_MOST_VALUE)) (c_int : mg ("int" : Str) = none) : GFn P w K mg base 3 f fd ps_is_operation CM.s_is_operation := by
  refine gfn_of (g := CM.e_is_operation) Fu sc_is_operation 4 rfl fun cdv A outer s H E hr hG => ?_
  have hu1 := hu1_of hr
  have sc := sc_is_operation
  exact (ds_cons (ds_if (DW.dt (dw_or (dt_not (dt_val (de_callB CR_isi cs_isi (by rfl) c_isinstance PyProof.Rows.boot_isinstance (da_cons (de_var 0) (da_cons (de_bty (by rfl) c_tuple PyProof.Rows.boot_tuple) da_nil))))) (dw_or (dt_ne hr.units (de_callB CR_len cs_len (by rfl) c_len PySem.boot_len (da_cons (de_var 0) da_nil)) (de_globI (by rfl) c_PARTS)) (dw_or1 (dt_not (dt_val (de_callB CR_isi cs_isi (by rfl) c_isinstance PyProof.Rows.boot_isinstance (da_cons (de_idx hu1 (de_var 0) de_int) (da_cons (de_bty (by rfl) c_str PyProof.Rows.boot_str) da_nil)))))))))
    (ds_one (ds_ret de_bl))
    ds_nil)
    (ds_cons (ds_tgt (de_var 0) (dg_tup 4 rfl (dgs_cons (dg_name 1 sc.nd) (dgs_cons (dg_name 2 sc.nd) (dgs_cons (dg_name 3 sc.nd) (dgs_cons (dg_name 4 sc.nd) dgs_nil))))) (nx_tupG (nx_gsCons (nx_asgV 1) (nx_gsCons (nx_asgV 2) (nx_gsCons (nx_asgV 3) (nx_gsCons (nx_asgV 4) nx_gsNil))))))
    (ds_cons (ds_if (DW.dt (dw_or (dt_nin hu1 (de_var 1) (de_tup (da_cons (de_fz (de_globS (by rfl) c_READ)) (da_cons (de_fz (de_globS (by rfl) c_WRITE)) da_nil)))) (dw_or1 (dt_not (dt_val (de_call G_is_integer hr hG (takes_of rfl rfl rfl rfl) (by rfl) m_is_integer k_is_integer b_is_integer (da_cons (de_var 2) (da_cons (de_callTy call_int1 cs_int (by rfl) c_int PyProof.Rows.boot_int (da_cons (de_eq hr.units (de_var 1) (de_globS (by rfl) c_WRITE)) da_nil)) (da_cons (de_globI (by rfl) c_MOST_VALUE) da_nil))) (aCons_len (aCons_len (aCons_len fun _ _ _ => aNil_len)))))))))
    (ds_one (ds_ret de_bl))
    ds_nil)
    (ds_one (ds_ret (de_call G_are_stamps hr hG (takes_of rfl rfl rfl rfl) (by rfl) m_are_stamps k_are_stamps b_are_stamps (da_cons (de_var 3) (da_cons (de_var 4) da_nil)) (aCons_len (aCons_len fun _ _ _ => aNil_len))))))))
theorem sc_is_log : FnScope [("value" : Str), ("written" : Str), ("one" : Str)] ps_is_log (defScope st_is_log) := ⟨rfl, rfl, rfl, by decide +kernel, rfl, by decide +kernel, by decide +kernel⟩
theorem g_is_log {f : Addr} {fd : FuncData} (Fu : Fun K ("is_log" : Str) ("is_log" : Str) st_is_log f fd) {f_is_operation : Addr} {fd_is_operation : FuncData} (G_is_operation : GFn P w K mg base 3 f_is_operation fd_is_operation ps_is_operation CM.s_is_operation) (m_is_operation : mg ("is_operation" : Str) = some (.ref f_is_operation)) (k_is_operation : PySem.W.keepIn K (.ref f_is_operation) = true) (b_is_operation : Binds K fd_is_operation ps_is_operation []) {t_MOST_OPERATIONS : Tok} (c_MOST_OPERATIONS : mg ("MOST_OPERATIONS" : Str) = some (.int 200 t_MOST_OPERATIONS)) (c_all : mg ("all" : Str) = none) (c_len : mg ("len" : Str) = none) (c_isinstance : mg ("isinstance" : Str) = none) (c_tuple : mg ("tuple" : Str) = none) {t_WRITE : Tok} (c_WRITE : mg ("WRITE" : Str) = some (.str ("write" : Str) t_WRITE)) (c_set : mg ("set" : Str) = none) : GFn P w K mg base 4 f fd ps_is_log CM.s_is_log := by
  refine gfn_of (g := CM.e_is_log) Fu sc_is_log 2 rfl fun cdv A outer s H E hr hG => ?_
  have hu1 := hu1_of hr
  have sc := sc_is_log
  exact (ds_cons (ds_if (DW.dt (dw_or (dt_not (dt_val (de_callB CR_isi cs_isi (by rfl) c_isinstance PyProof.Rows.boot_isinstance (da_cons (de_var 0) (da_cons (de_bty (by rfl) c_tuple PyProof.Rows.boot_tuple) da_nil))))) (dw_or1 (dt_gt (de_callB CR_len cs_len (by rfl) c_len PySem.boot_len (da_cons (de_var 0) da_nil)) (de_globI (by rfl) c_MOST_OPERATIONS)))))
    (ds_one (ds_ret de_bl))
    ds_nil)
    (ds_cons (ds_if (dt_not (dt_val (de_callB (cr_all rfl) cs_all (by rfl) c_all PyProof.Rows.boot_all (da_cons (de_lc rfl sc.nd (di_seq (de_var 0)) (own := [(("one" : Str), 2)]) (blkOk_by (by first | (show blkC [("value" : Str), ("written" : Str), ("one" : Str)] (defScope st_is_log) _ _ = true; decide +kernel) | rfl)) (by decide) (fun _ _ _ _ _ => (dg_name 2 sc.nd)) (fun _ _ _ _ _ => dts_nil) (fun _ _ _ _ _ => (de_fz (de_call G_is_operation hr hG takes0 (by rfl) m_is_operation k_is_operation b_is_operation (da_cons (de_var 2) da_nil) (aCons_len fun _ _ _ => aNil_len))))) da_nil))))
    (ds_one (ds_ret de_bl))
    ds_nil)
    (ds_cons (by first | exact (ds_setLc 1 rfl sc.nd (di_seq (de_var 0)) (own := [(("one" : Str), 2)]) (blkOk_by (by first | (show blkC [("value" : Str), ("written" : Str), ("one" : Str)] (defScope st_is_log) _ _ = true; decide +kernel) | rfl)) (by decide) (fun _ _ _ _ _ => (dg_name 2 sc.nd)) (fun _ _ _ _ _ => (dts_one (dt_eq hr.units (de_idx hu1 (de_var 2) de_int) (de_globS (by rfl) c_WRITE)))) (fun _ _ _ _ _ => (de_fz (de_idx hu1 (de_var 2) de_int))) rfl) | exact (ds_asg 1 sc.nd (de_lc rfl sc.nd (di_seq (de_var 0)) (own := [(("one" : Str), 2)]) (blkOk_by (by first | (show blkC [("value" : Str), ("written" : Str), ("one" : Str)] (defScope st_is_log) _ _ = true; decide +kernel) | rfl)) (by decide) (fun _ _ _ _ _ => (dg_name 2 sc.nd)) (fun _ _ _ _ _ => (dts_one (dt_eq hr.units (de_idx hu1 (de_var 2) de_int) (de_globS (by rfl) c_WRITE)))) (fun _ _ _ _ _ => (de_fz (de_idx hu1 (de_var 2) de_int))))))
    (ds_one (ds_ret (de_eq hr.units (de_lenSet rfl (by rfl) c_len (by rfl) c_set (de_var 1)) (de_callB CR_len cs_len (by rfl) c_len PySem.boot_len (da_cons (de_var 1) da_nil))))))))
theorem sc_number_in : FnScope [("word" : Str), ("digits" : Str), ("sign" : Str)] ps_number_in (defScope st_number_in) := ⟨rfl, rfl, rfl, by decide +kernel, rfl, by decide +kernel, by decide +kernel⟩
theorem g_number_in {f : Addr} {fd : FuncData} (Fu : Fun K ("number_in" : Str) ("number_in" : Str) st_number_in f fd) (c_int : mg ("int" : Str) = none) {t_MINUS : Tok} (c_MINUS : mg ("MINUS" : Str) = some (.str ("-" : Str) t_MINUS)) {t_MOST_DIGITS : Tok} (c_MOST_DIGITS : mg ("MOST_DIGITS" : Str) = some (.int 20 t_MOST_DIGITS)) (c_all : mg ("all" : Str) = none) {t_DIGITS : Tok} (c_DIGITS : mg ("DIGITS" : Str) = some (.str ("0123456789" : Str) t_DIGITS)) (c_len : mg ("len" : Str) = none) : GFn P w K mg base 1 f fd ps_number_in CM.s_number_in := by
  refine gfn_of (g := CM.e_number_in) Fu sc_number_in 2 rfl fun cdv A outer s H E hr hG => ?_
  have hu1 := hu1_of hr
  have sc := sc_number_in
  exact (ds_cons (ds_asg 1 sc.nd (de_if (dt_val (de_sw (de_var 0) (de_globS (by rfl) c_MINUS))) (de_slice (de_var 0) (do_some de_int) do_none) (de_var 0)))
    (ds_cons (ds_if (DW.dt (dw_or (dt_not (dt_leLe de_int (de_callB CR_len cs_len (by rfl) c_len PySem.boot_len (da_cons (de_var 1) da_nil)) (de_globI (by rfl) c_MOST_DIGITS))) (dw_or1 (dt_not (dt_val (de_callB (cr_all rfl) cs_all (by rfl) c_all PyProof.Rows.boot_all (da_cons (de_lc rfl sc.nd (di_txt (de_var 1)) (own := [(("sign" : Str), 2)]) (blkOk_by (by first | (show blkC [("word" : Str), ("digits" : Str), ("sign" : Str)] (defScope st_number_in) _ _ = true; decide +kernel) | rfl)) (by decide) (fun _ _ _ _ _ => (dg_name 2 sc.nd)) (fun _ _ _ _ _ => dts_nil) (fun _ _ _ _ _ => (de_fz (de_inT (de_var 2) (de_globS (by rfl) c_DIGITS))))) da_nil)))))))
    (ds_one (ds_ret de_non))
    ds_nil)
    (ds_cons (ds_if (DW.dt (dw_and (dt_eq hr.units (de_idx hu1 (de_var 1) de_int) (de_idx hu1 (de_globS (by rfl) c_DIGITS) de_int)) (dw_and1 (dt_ne hr.units (de_var 0) (de_idx hu1 (de_globS (by rfl) c_DIGITS) de_int)))))
    (ds_one (ds_ret de_non))
    ds_nil)
    (ds_one (ds_ret (de_callTy call_int_str cs_intT (by rfl) c_int PyProof.Rows.boot_int (da_cons (de_var 0) da_nil)))))))
theorem sc_numbers_in : FnScope [("words" : Str), ("found" : Str), ("word" : Str)] ps_numbers_in (defScope st_numbers_in) := ⟨rfl, rfl, rfl, by decide +kernel, rfl, by decide +kernel, by decide +kernel⟩
theorem g_numbers_in {f : Addr} {fd : FuncData} (Fu : Fun K ("numbers_in" : Str) ("numbers_in" : Str) st_numbers_in f fd) {f_number_in : Addr} {fd_number_in : FuncData} (G_number_in : GFn P w K mg base 1 f_number_in fd_number_in ps_number_in CM.s_number_in) (m_number_in : mg ("number_in" : Str) = some (.ref f_number_in)) (k_number_in : PySem.W.keepIn K (.ref f_number_in) = true) (b_number_in : Binds K fd_number_in ps_number_in []) : GFn P w K mg base 2 f fd ps_numbers_in CM.s_numbers_in := by
  refine gfn_of (g := CM.e_numbers_in) Fu sc_numbers_in 2 rfl fun cdv A outer s H E hr hG => ?_
  have hu1 := hu1_of hr
  have sc := sc_numbers_in
  exact (ds_cons (by first | exact (ds_setLc 1 rfl sc.nd (di_seq (de_var 0)) (own := [(("word" : Str), 2)]) (blkOk_by (by first | (show blkC [("words" : Str), ("found" : Str), ("word" : Str)] (defScope st_numbers_in) _ _ = true; decide +kernel) | rfl)) (by decide) (fun _ _ _ _ _ => (dg_name 2 sc.nd)) (fun _ _ _ _ _ => dts_nil) (fun _ _ _ _ _ => (de_fz (de_call G_number_in hr hG takes0 (by rfl) m_number_in k_number_in b_number_in (da_cons (de_var 2) da_nil) (aCons_len fun _ _ _ => aNil_len)))) rfl) | exact (ds_asg 1 sc.nd (de_lc rfl sc.nd (di_seq (de_var 0)) (own := [(("word" : Str), 2)]) (blkOk_by (by first | (show blkC [("words" : Str), ("found" : Str), ("word" : Str)] (defScope st_numbers_in) _ _ = true; decide +kernel) | rfl)) (by decide) (fun _ _ _ _ _ => (dg_name 2 sc.nd)) (fun _ _ _ _ _ => dts_nil) (fun _ _ _ _ _ => (de_fz (de_call G_number_in hr hG takes0 (by rfl) m_number_in k_number_in b_number_in (da_cons (de_var 2) da_nil) (aCons_len fun _ _ _ => aNil_len)))))))
    (ds_one (ds_ret (de_if (dt_in hu1 de_non (de_var 1)) de_non (de_var 1)))))
theorem sc_line_of : FnScope [("parts" : Str), ("part" : Str)] ps_line_of (defScope st_line_of) := ⟨rfl, rfl, rfl, by decide +kernel, rfl, by decide +kernel, by decide +kernel⟩
theorem g_line_of {f : Addr} {fd : FuncData} (Fu : Fun K ("line_of" : Str) ("line_of" : Str) st_line_of f fd) {t_BLANK : Tok} (c_BLANK : mg ("BLANK" : Str) = some (.str (" " : Str) t_BLANK)) (c_str : mg ("str" : Str) = none) : GFn P w K mg base 1 f fd ps_line_of CM.s_line_of := by
  refine gfn_of (g := CM.e_line_of) Fu sc_line_of 1 rfl fun cdv A outer s H E hr hG => ?_
  have hu1 := hu1_of hr
  have sc := sc_line_of
  exact (ds_one (ds_ret (de_join (de_globS (by rfl) c_BLANK) (de_lc rfl sc.nd (di_seq (de_var 0)) (own := [(("part" : Str), 1)]) (blkOk_by (by first | (show blkC [("parts" : Str), ("part" : Str)] (defScope st_line_of) _ _ = true; decide +kernel) | rfl)) (by decide) (fun _ _ _ _ _ => (dg_name 1 sc.nd)) (fun _ _ _ _ _ => dts_nil) (fun _ _ _ _ _ => (de_fz (de_callTy call_strZ cs_strZ (by rfl) c_str PyProof.Rows.boot_str (da_cons (de_var 1) da_nil))))))))
theorem sc_format_log : FnScope [("log" : Str), ("operation" : Str)] ps_format_log (defScope st_format_log) := ⟨rfl, rfl, rfl, by decide +kernel, rfl, by decide +kernel, by decide +kernel⟩
theorem g_format_log {f : Addr} {fd : FuncData} (Fu : Fun K ("format_log" : Str) ("format_log" : Str) st_format_log f fd) {f_line_of : Addr} {fd_line_of : FuncData} (G_line_of : GFn P w K mg base 1 f_line_of fd_line_of ps_line_of CM.s_line_of) (m_line_of : mg ("line_of" : Str) = some (.ref f_line_of)) (k_line_of : PySem.W.keepIn K (.ref f_line_of) = true) (b_line_of : Binds K fd_line_of ps_line_of []) {t_NOTHING : Tok} (c_NOTHING : mg ("NOTHING" : Str) = some (.str ("-" : Str) t_NOTHING)) {t_FEED : Tok} (c_FEED : mg ("FEED" : Str) = some (.str ("\n" : Str) t_FEED)) : GFn P w K mg base 2 f fd ps_format_log s_format_log := by
  refine gfn_of (g := e_format_log) Fu sc_format_log 1 rfl fun cdv A outer s H E hr hG => ?_
  have hu1 := hu1_of hr
  have sc := sc_format_log
  exact (ds_one (ds_ret (de_if (dt_ne hr.units (de_var 0) (de_tup da_nil)) (de_join (de_globS (by rfl) c_FEED) (de_lc rfl sc.nd (di_seq (de_var 0)) (own := [(("operation" : Str), 1)]) (blkOk_by (by first | (show blkC [("log" : Str), ("operation" : Str)] (defScope st_format_log) _ _ = true; decide +kernel) | rfl)) (by decide) (fun _ _ _ _ _ => (dg_name 1 sc.nd)) (fun _ _ _ _ _ => dts_nil) (fun _ _ _ _ _ => (de_fz (de_call G_line_of hr hG takes0 (by rfl) m_line_of k_line_of b_line_of (da_cons (de_var 1) da_nil) (aCons_len fun _ _ _ => aNil_len)))))) (de_globS (by rfl) c_NOTHING))))
theorem sc_operation_in : FnScope [("row" : Str), ("numbers" : Str), ("kind" : Str), ("words" : Str)] ps_operation_in (defScope st_operation_in) := ⟨rfl, rfl, rfl, by decide +kernel, rfl, by decide +kernel, by decide +kernel⟩
theorem g_operation_in {f : Addr} {fd : FuncData} (Fu : Fun K ("operation_in" : Str) ("operation_in" : Str) st_operation_in f fd) {f_numbers_in : Addr} {fd_numbers_in : FuncData} (G_numbers_in : GFn P w K mg base 2 f_numbers_in fd_numbers_in ps_numbers_in CM.s_numbers_in) (m_numbers_in : mg ("numbers_in" : Str) = some (.ref f_numbers_in)) (k_numbers_in : PySem.W.keepIn K (.ref f_numbers_in) = true) (b_numbers_in : Binds K fd_numbers_in ps_numbers_in []) {t_BLANK : Tok} (c_BLANK : mg ("BLANK" : Str) = some (.str (" " : Str) t_BLANK)) (c_len : mg ("len" : Str) = none) {t_OPERATION_PARTS : Tok} (c_OPERATION_PARTS : mg ("OPERATION_PARTS" : Str) = some (.int 4 t_OPERATION_PARTS)) : GFn P w K mg base 3 f fd ps_operation_in CM.s_operation_in := by
  refine gfn_of (g := CM.e_operation_in) Fu sc_operation_in 3 rfl fun cdv A outer s H E hr hG => ?_
  have hu1 := hu1_of hr
  have sc := sc_operation_in
  exact (ds_cons (ds_tgt (de_split (de_var 0) (de_globS (by rfl) c_BLANK)) (dg_star 2 3 rfl sc.nd) (nx_starG 2 3))
    (ds_cons (ds_asg 1 sc.nd (de_call G_numbers_in hr hG (takes_of rfl rfl rfl rfl) (by rfl) m_numbers_in k_numbers_in b_numbers_in (da_cons (de_var 3) da_nil) (aCons_len fun _ _ _ => aNil_len)))
    (ds_one (ds_ret (de_if (DW.dt (dw_or (dt_isnW 1) (dw_or1 (dt_ne hr.units (de_callB CR_len cs_len (by rfl) c_len PySem.boot_len (da_cons (de_var 3) da_nil)) (de_sub (de_globI (by rfl) c_OPERATION_PARTS) de_int))))) de_non (de_tup (da_cons (de_fz (de_var 2)) (da_star (de_fz (de_var 1)) da_nil))))))))
theorem sc_parse_log : FnScope [("text" : Str), ("found" : Str), ("row" : Str)] ps_parse_log (defScope st_parse_log) := ⟨rfl, rfl, rfl, by decide +kernel, rfl, by decide +kernel, by decide +kernel⟩
theorem g_parse_log {f : Addr} {fd : FuncData} (Fu : Fun K ("parse_log" : Str) ("parse_log" : Str) st_parse_log f fd) {f_is_log : Addr} {fd_is_log : FuncData} (G_is_log : GFn P w K mg base 4 f_is_log fd_is_log ps_is_log CM.s_is_log) (m_is_log : mg ("is_log" : Str) = some (.ref f_is_log)) (k_is_log : PySem.W.keepIn K (.ref f_is_log) = true) (b_is_log : Binds K fd_is_log ps_is_log []) {f_operation_in : Addr} {fd_operation_in : FuncData} (G_operation_in : GFn P w K mg base 4 f_operation_in fd_operation_in ps_operation_in CM.s_operation_in) (m_operation_in : mg ("operation_in" : Str) = some (.ref f_operation_in)) (k_operation_in : PySem.W.keepIn K (.ref f_operation_in) = true) (b_operation_in : Binds K fd_operation_in ps_operation_in []) (c_isinstance : mg ("isinstance" : Str) = none) (c_str : mg ("str" : Str) = none) {t_NOTHING : Tok} (c_NOTHING : mg ("NOTHING" : Str) = some (.str ("-" : Str) t_NOTHING)) (c_tuple : mg ("tuple" : Str) = none) {t_FEED : Tok} (c_FEED : mg ("FEED" : Str) = some (.str ("\n" : Str) t_FEED)) : GFn P w K mg base 5 f fd ps_parse_log s_parse_log := by
  refine gfn_of (g := e_parse_log) Fu sc_parse_log 2 rfl fun cdv A outer s H E hr hG => ?_
  have hu1 := hu1_of hr
  have sc := sc_parse_log
  exact (ds_cons (ds_if (dt_not (dt_val (de_callB CR_isi cs_isi (by rfl) c_isinstance PyProof.Rows.boot_isinstance (da_cons (de_var 0) (da_cons (de_bty (by rfl) c_str PyProof.Rows.boot_str) da_nil)))))
    (ds_one ds_bad)
    ds_nil)
    (ds_cons (ds_asg 1 sc.nd (de_if (dt_ne hr.units (de_var 0) (de_globS (by rfl) c_NOTHING)) (de_callTy call_tuple_of cs_tuple (by rfl) c_tuple PyProof.Rows.boot_tuple (da_cons (de_lc rfl sc.nd (di_seq (de_split (de_var 0) (de_globS (by rfl) c_FEED))) (own := [(("row" : Str), 2)]) (blkOk_by (by first | (show blkC [("text" : Str), ("found" : Str), ("row" : Str)] (defScope st_parse_log) _ _ = true; decide +kernel) | rfl)) (by decide) (fun _ _ _ _ _ => (dg_name 2 sc.nd)) (fun _ _ _ _ _ => dts_nil) (fun _ _ _ _ _ => (de_fz (de_call G_operation_in hr hG takes0 (by rfl) m_operation_in k_operation_in b_operation_in (da_cons (de_var 2) da_nil) (aCons_len fun _ _ _ => aNil_len))))) da_nil)) (de_tup da_nil)))
    (ds_cons (ds_if (dt_not (dt_val (de_call G_is_log hr hG (takes_of rfl rfl rfl rfl) (by rfl) m_is_log k_is_log b_is_log (da_cons (de_var 1) da_nil) (aCons_len fun _ _ _ => aNil_len))))
    (ds_one ds_bad)
    ds_nil)
    (ds_one (ds_ret (de_var 1))))))
theorem sc_chart : FnScope [("log" : Str), ("rows" : Str), ("index" : Str), ("kind" : Str), ("value" : Str), ("begin" : Str), ("end" : Str)] ps_chart (defScope st_chart) := ⟨rfl, rfl, rfl, by decide +kernel, rfl, by decide +kernel, by decide +kernel⟩
theorem g_chart {f : Addr} {fd : FuncData} (Fu : Fun K ("chart" : Str) ("chart" : Str) st_chart f fd) (c_enumerate : mg ("enumerate" : Str) = none) {t_FEED : Tok} (c_FEED : mg ("FEED" : Str) = some (.str ("\n" : Str) t_FEED)) : GFn P w K mg base 1 f fd ps_chart s_chart := by
  refine gfn_of (g := e_chart) Fu sc_chart 6 rfl fun cdv A outer s H E hr hG => ?_
  have hu1 := hu1_of hr
  have sc := sc_chart
  exact (ds_cons (ds_asg 1 sc.nd (de_lst da_nil))
    (ds_cons (ds_for (passes_of rfl) rfl (di_enum (by rfl) c_enumerate (de_var 0)) (dg_tup 2 rfl (dgs_cons (dg_name 2 sc.nd) (dgs_cons (dg_tup 4 rfl (dgs_cons (dg_name 3 sc.nd) (dgs_cons (dg_name 4 sc.nd) (dgs_cons (dg_name 5 sc.nd) (dgs_cons (dg_name 6 sc.nd) dgs_nil))))) dgs_nil)))
    (ds_one (ds_expr (de_append 1 (de_joined (.cons (de_fmt3 (de_var 2)) (.cons de_str (.cons (de_fmtK (de_var 3)) (.cons de_str (.cons (de_fmt10 (de_var 4)) (.cons de_str (.cons (de_fmt17 (de_var 5)) (.cons de_str (.cons (de_fmt17 (de_var 6)) .nil))))))))))))))
    (ds_one (ds_ret (de_join (de_globS (by rfl) c_FEED) (de_var 1))))))
theorem sc__law_pot : FnScope [("_law_script" : Str), ("_law_k" : Str), ("_law_cell" : Str), ("_law_own" : Str)] ps__law_pot (defScope st__law_pot) := ⟨rfl, rfl, rfl, by decide +kernel, rfl, by decide +kernel, by decide +kernel⟩
theorem g__law_pot {f : Addr} {fd : FuncData} (Fu : Fun K ("_law_pot" : Str) ("_law_pot" : Str) st__law_pot f fd) (c_len : mg ("len" : Str) = none) (c_int : mg ("int" : Str) = none) (c_abs : mg ("abs" : Str) = none) : GFn P w K mg base 1 f fd ps__law_pot CM.s_l_pot := by
  refine gfn_of (g := CM.e_l_pot) Fu sc__law_pot 2 rfl fun cdv A outer s H E hr hG => ?_
  have hu1 := hu1_of hr
  have sc := sc__law_pot
  exact (ds_cons (ds_asg 2 sc.nd (de_add (de_mul de_int (de_var 1)) de_int))
    (ds_cons (ds_if (dt_lt (de_var 1) (de_callB CR_len cs_len (by rfl) c_len PySem.boot_len (da_cons (de_var 0) da_nil)))
    (ds_one (ds_asg 2 sc.nd (de_idx hu1 (de_var 0) (de_var 1))))
    ds_nil)
    (ds_cons (ds_asg 3 sc.nd (de_mul (de_mod (de_callB call_abs cs_abs (by rfl) c_abs PyProof.Rows.boot_abs (da_cons (de_var 2) da_nil)) (de_pow (de_pow de_int de_int) de_int)) (de_callTy call_int1 cs_int (by rfl) c_int PyProof.Rows.boot_int (da_cons (de_ge (de_callB call_abs cs_abs (by rfl) c_abs PyProof.Rows.boot_abs (da_cons (de_var 2) da_nil)) (de_pow de_int de_int)) da_nil))))
    (ds_one (ds_ret (de_lst (da_cons (de_fz (de_var 3)) (da_cons (de_fz (de_mod (de_add (de_add (de_mul (de_mod (de_var 2) de_int) de_int) (de_mul (de_mul de_int (de_var 1)) (de_var 1))) de_int) de_int)) (da_cons de_int da_nil)))))))))
theorem sc__law_draw : FnScope [("_law_pot_here" : Str), ("_law_many" : Str), ("_law_prime" : Str), ("_law_mixed_here" : Str), ("_law_digit" : Str)] ps__law_draw (defScope st__law_draw) := ⟨rfl, rfl, rfl, by decide +kernel, rfl, by decide +kernel, by decide +kernel⟩
theorem g__law_draw {f : Addr} {fd : FuncData} (Fu : Fun K ("_law_draw" : Str) ("_law_draw" : Str) st__law_draw f fd)  : GFn P w K mg base 1 f fd ps__law_draw CM.s_l_draw := by
  refine gfn_of (g := CM.e_l_draw) Fu sc__law_draw 3 rfl fun cdv A outer s H E hr hG => ?_
  have hu1 := hu1_of hr
  have sc := sc__law_draw
  exact (ds_cons (ds_if (dt_gt (de_idx hu1 (de_var 0) de_int) de_int)
    (ds_cons (ds_asg 4 sc.nd (de_mod (de_idx hu1 (de_var 0) de_int) (de_var 1)))
    (ds_cons (ds_store 0 hu1 (de_div (de_idx hu1 (de_var 0) de_int) (de_var 1)) de_int)
    (ds_one (ds_ret (de_var 4)))))
    ds_nil)
    (ds_cons (ds_store 0 hu1 (de_add (de_idx hu1 (de_var 0) de_int) de_int) de_int)
    (ds_cons (ds_asg 2 sc.nd (de_idx hu1 (de_lst (da_cons de_int (da_cons de_int (da_cons de_int (da_cons de_int (da_cons de_int da_nil)))))) (de_mod (de_idx hu1 (de_var 0) de_int) de_int)))
    (ds_cons (ds_asg 3 sc.nd (de_mod (de_pow (de_add (de_add (de_idx hu1 (de_var 0) de_int) (de_mul (de_mul de_int (de_idx hu1 (de_var 0) de_int)) (de_idx hu1 (de_var 0) de_int))) de_int) de_int) (de_var 2)))
    (ds_one (ds_ret (de_mod (de_div (de_mod (de_mul (de_var 3) (de_add (de_mod (de_var 3) de_int) (de_mul de_int (de_idx hu1 (de_var 0) de_int)))) de_int) de_int) (de_var 1))))))))
theorem sc__law_any : FnScope [("_law_pot_here" : Str), ("_law_items" : Str)] ps__law_any (defScope st__law_any) := ⟨rfl, rfl, rfl, by decide +kernel, rfl, by decide +kernel, by decide +kernel⟩
theorem g__law_any {f : Addr} {fd : FuncData} (Fu : Fun K ("_law_any" : Str) ("_law_any" : Str) st__law_any f fd) {f__law_draw : Addr} {fd__law_draw : FuncData} (G__law_draw : GFn P w K mg base 1 f__law_draw fd__law_draw ps__law_draw CM.s_l_draw) (m__law_draw : mg ("_law_draw" : Str) = some (.ref f__law_draw)) (k__law_draw : PySem.W.keepIn K (.ref f__law_draw) = true) (b__law_draw : Binds K fd__law_draw ps__law_draw []) (c_len : mg ("len" : Str) = none) : GFn P w K mg base 2 f fd ps__law_any CM.s_l_any := by
  refine gfn_of (g := CM.e_l_any) Fu sc__law_any 0 rfl fun cdv A outer s H E hr hG => ?_
  have hu1 := hu1_of hr
  have sc := sc__law_any
  exact (ds_one (ds_ret (de_idx hu1 (de_var 1) (de_call G__law_draw hr hG (takes_of rfl rfl rfl rfl) (by rfl) m__law_draw k__law_draw b__law_draw (da_cons (de_var 0) (da_cons (de_callB CR_len cs_len (by rfl) c_len PySem.boot_len (da_cons (de_var 1) da_nil)) da_nil)) (aCons_len (aCons_len fun _ _ _ => aNil_len))))))
theorem sc__law_mixed : FnScope [("_law_pot_here" : Str), ("_law_items" : Str), ("_law_left" : Str), ("_law_found" : Str)] ps__law_mixed (defScope st__law_mixed) := ⟨rfl, rfl, rfl, by decide +kernel, rfl, by decide +kernel, by decide +kernel⟩
theorem g__law_mixed {f : Addr} {fd : FuncData} (Fu : Fun K ("_law_mixed" : Str) ("_law_mixed" : Str) st__law_mixed f fd) {f__law_draw : Addr} {fd__law_draw : FuncData} (G__law_draw : GFn P w K mg base 1 f__law_draw fd__law_draw ps__law_draw CM.s_l_draw) (m__law_draw : mg ("_law_draw" : Str) = some (.ref f__law_draw)) (k__law_draw : PySem.W.keepIn K (.ref f__law_draw) = true) (b__law_draw : Binds K fd__law_draw ps__law_draw []) (c_list : mg ("list" : Str) = none) (c_len : mg ("len" : Str) = none) : GFn P w K mg base 2 f fd ps__law_mixed CM.s_l_mixed := by
  refine gfn_of (g := CM.e_l_mixed) Fu sc__law_mixed 2 rfl fun cdv A outer s H E hr hG => ?_
  have hu1 := hu1_of hr
  have sc := sc__law_mixed
  exact (ds_cons (by first | exact (ds_par2 2 3 rfl sc.nd (da_cons (de_nsl (de_callTy call_list_of cs_list (by rfl) c_list PyProof.Rows.boot_list (da_cons (de_var 1) da_nil))) (da_cons (de_nsl (de_lst da_nil)) da_nil))) | exact (ds_parT2 2 3 rfl sc.nd (da_cons (de_nsl (de_callTy call_list_of cs_list (by rfl) c_list PyProof.Rows.boot_list (da_cons (de_var 1) da_nil))) (da_cons (de_nsl (de_lst da_nil)) da_nil))))
    (ds_cons (ds_while 1000000 (passes_of rfl) (dt_ne hr.units (de_var 2) (de_lst da_nil))
    (ds_one (ds_expr (de_append 3 (de_popAt 2 (de_call G__law_draw hr hG (takes_of rfl rfl rfl rfl) (by rfl) m__law_draw k__law_draw b__law_draw (da_cons (de_var 0) (da_cons (de_callB CR_len cs_len (by rfl) c_len PySem.boot_len (da_cons (de_var 2) da_nil)) da_nil)) (aCons_len (aCons_len fun _ _ _ => aNil_len))))))))
    (ds_one (ds_ret (de_var 3)))))
theorem sc__law_wild : FnScope [("_law_pot_here" : Str), ("_law_most" : Str), ("_law_room" : Str), ("_law_turn" : Str), ("_law_found" : Str), ("_law_written" : Str), ("_law_begin" : Str), ("_law_kind" : Str), ("_law_value" : Str), ("_law_some" : Str)] ps__law_wild (defScope st__law_wild) := ⟨rfl, rfl, rfl, by decide +kernel, rfl, by decide +kernel, by decide +kernel⟩
theorem g__law_wild {f : Addr} {fd : FuncData} (Fu : Fun K ("_law_wild" : Str) ("_law_wild" : Str) st__law_wild f fd) {f__law_draw : Addr} {fd__law_draw : FuncData} (G__law_draw : GFn P w K mg base 2 f__law_draw fd__law_draw ps__law_draw CM.s_l_draw) (m__law_draw : mg ("_law_draw" : Str) = some (.ref f__law_draw)) (k__law_draw : PySem.W.keepIn K (.ref f__law_draw) = true) (b__law_draw : Binds K fd__law_draw ps__law_draw []) {f__law_mixed : Addr} {fd__law_mixed : FuncData} (G__law_mixed : GFn P w K mg base 2 f__law_mixed fd__law_mixed ps__law_mixed CM.s_l_mixed) (m__law_mixed : mg ("_law_mixed" : Str) = some (.ref f__law_mixed)) (k__law_mixed : PySem.W.keepIn K (.ref f__law_mixed) = true) (b__law_mixed : Binds K fd__law_mixed ps__law_mixed []) {f__law_any : Addr} {fd__law_any : FuncData} (G__law_any : GFn P w K mg base 2 f__law_any fd__law_any ps__law_any CM.s_l_any) (m__law_any : mg ("_law_any" : Str) = some (.ref f__law_any)) (k__law_any : PySem.W.keepIn K (.ref f__law_any) = true) (b__law_any : Binds K fd__law_any ps__law_any []) (c_range : mg ("range" : Str) = none) (c_tuple : mg ("tuple" : Str) = none) : GFn P w K mg base 3 f fd ps__law_wild CM.s_l_wild := by
  refine gfn_of (g := CM.e_l_wild) Fu sc__law_wild 7 rfl fun cdv A outer s H E hr hG => ?_
  have hu1 := hu1_of hr
  have sc := sc__law_wild
  exact (ds_cons (by first | exact (ds_par2 4 5 rfl sc.nd (da_cons (de_nsl (de_lst da_nil)) (da_cons (de_nsl (de_lst da_nil)) da_nil))) | exact (ds_parT2 4 5 rfl sc.nd (da_cons (de_nsl (de_lst da_nil)) (da_cons (de_nsl (de_lst da_nil)) da_nil))))
    (ds_cons (ds_for (passes_of rfl) rfl (di_range1 (by rfl) c_range (da_cons (de_call G__law_draw hr hG (takes_of rfl rfl rfl rfl) (by rfl) m__law_draw k__law_draw b__law_draw (da_cons (de_var 0) (da_cons (de_add (de_var 1) de_int) da_nil)) (aCons_len (aCons_len fun _ _ _ => aNil_len))) da_nil) rfl (aCons_len fun _ _ _ => aNil_len)) (dg_name 3 sc.nd)
    (ds_cons (by first | exact (ds_par2 7 8 rfl sc.nd (da_cons (de_nsl (de_call G__law_any hr hG (takes_of rfl rfl rfl rfl) (by rfl) m__law_any k__law_any b__law_any (da_cons (de_var 0) (da_cons (de_lst (da_cons de_str (da_cons de_str (da_cons de_str da_nil)))) da_nil)) (aCons_len (aCons_len fun _ _ _ => aNil_len)))) (da_cons (de_nsl (de_call G__law_draw hr hG (takes_of rfl rfl rfl rfl) (by rfl) m__law_draw k__law_draw b__law_draw (da_cons (de_var 0) (da_cons de_int da_nil)) (aCons_len (aCons_len fun _ _ _ => aNil_len)))) da_nil))) | exact (ds_parT2 7 8 rfl sc.nd (da_cons (de_nsl (de_call G__law_any hr hG (takes_of rfl rfl rfl rfl) (by rfl) m__law_any k__law_any b__law_any (da_cons (de_var 0) (da_cons (de_lst (da_cons de_str (da_cons de_str (da_cons de_str da_nil)))) da_nil)) (aCons_len (aCons_len fun _ _ _ => aNil_len)))) (da_cons (de_nsl (de_call G__law_draw hr hG (takes_of rfl rfl rfl rfl) (by rfl) m__law_draw k__law_draw b__law_draw (da_cons (de_var 0) (da_cons de_int da_nil)) (aCons_len (aCons_len fun _ _ _ => aNil_len)))) da_nil))))
    (ds_cons (ds_asg 6 sc.nd (de_call G__law_draw hr hG (takes_of rfl rfl rfl rfl) (by rfl) m__law_draw k__law_draw b__law_draw (da_cons (de_var 0) (da_cons (de_var 2) da_nil)) (aCons_len (aCons_len fun _ _ _ => aNil_len))))
    (ds_one (ds_if (DW.dt (dw_and (dt_eq hr.units (de_var 7) de_str) (dw_and (dt_gt (de_var 8) de_int) (dw_and1 (dt_nin hu1 (de_var 8) (de_var 5))))))
    (ds_cons (ds_expr (de_append 5 (de_var 8)))
    (ds_one (ds_expr (de_append 4 (de_tup (da_cons de_str (da_cons (de_fz (de_var 8)) (da_cons (de_fz (de_var 6)) (da_cons (de_fz (de_add (de_var 6) (de_call G__law_draw hr hG (takes_of rfl rfl rfl rfl) (by rfl) m__law_draw k__law_draw b__law_draw (da_cons (de_var 0) (da_cons (de_add (de_div (de_var 2) de_int) de_int) da_nil)) (aCons_len (aCons_len fun _ _ _ => aNil_len))))) da_nil)))))))))
    (ds_cons (ds_asg 9 sc.nd (de_add (de_var 5) (de_lst (da_cons de_int da_nil))))
    (ds_cons (ds_asg 8 sc.nd (de_call G__law_any hr hG (takes_of rfl rfl rfl rfl) (by rfl) m__law_any k__law_any b__law_any (da_cons (de_var 0) (da_cons (de_add (de_add (de_var 9) (de_var 9)) (de_lst (da_cons (de_fz (de_var 8)) da_nil))) da_nil)) (aCons_len (aCons_len fun _ _ _ => aNil_len))))
    (ds_one (ds_expr (de_append 4 (de_tup (da_cons de_str (da_cons (de_fz (de_var 8)) (da_cons (de_fz (de_var 6)) (da_cons (de_fz (de_add (de_var 6) (de_call G__law_draw hr hG (takes_of rfl rfl rfl rfl) (by rfl) m__law_draw k__law_draw b__law_draw (da_cons (de_var 0) (da_cons (de_add (de_div (de_var 2) de_int) de_int) da_nil)) (aCons_len (aCons_len fun _ _ _ => aNil_len))))) da_nil)))))))))))))))
    (ds_one (ds_ret (de_callTy call_tuple_of cs_tuple (by rfl) c_tuple PyProof.Rows.boot_tuple (da_cons (de_call G__law_mixed hr hG (takes_of rfl rfl rfl rfl) (by rfl) m__law_mixed k__law_mixed b__law_mixed (da_cons (de_var 0) (da_cons (de_var 4) da_nil)) (aCons_len (aCons_len fun _ _ _ => aNil_len))) da_nil))))))
theorem sc__law_true : FnScope [("_law_pot_here" : Str), ("_law_many" : Str), ("_law_off" : Str), ("_law_step" : Str), ("_law_names" : Str), ("_law_turn" : Str), ("_law_found" : Str), ("_law_value" : Str), ("_law_time" : Str), ("_law_kind" : Str), ("_law_ends" : Str), ("_law_begin" : Str), ("_law_end" : Str)] ps__law_true (defScope st__law_true) := ⟨rfl, rfl, rfl, by decide +kernel, rfl, by decide +kernel, by decide +kernel⟩
theorem g__law_true {f : Addr} {fd : FuncData} (Fu : Fun K ("_law_true" : Str) ("_law_true" : Str) st__law_true f fd) {f__law_mixed : Addr} {fd__law_mixed : FuncData} (G__law_mixed : GFn P w K mg base 2 f__law_mixed fd__law_mixed ps__law_mixed CM.s_l_mixed) (m__law_mixed : mg ("_law_mixed" : Str) = some (.ref f__law_mixed)) (k__law_mixed : PySem.W.keepIn K (.ref f__law_mixed) = true) (b__law_mixed : Binds K fd__law_mixed ps__law_mixed []) {f__law_any : Addr} {fd__law_any : FuncData} (G__law_any : GFn P w K mg base 2 f__law_any fd__law_any ps__law_any CM.s_l_any) (m__law_any : mg ("_law_any" : Str) = some (.ref f__law_any)) (k__law_any : PySem.W.keepIn K (.ref f__law_any) = true) (b__law_any : Binds K fd__law_any ps__law_any []) {f__law_draw : Addr} {fd__law_draw : FuncData} (G__law_draw : GFn P w K mg base 2 f__law_draw fd__law_draw ps__law_draw CM.s_l_draw) (m__law_draw : mg ("_law_draw" : Str) = some (.ref f__law_draw)) (k__law_draw : PySem.W.keepIn K (.ref f__law_draw) = true) (b__law_draw : Binds K fd__law_draw ps__law_draw []) (c_range : mg ("range" : Str) = none) (c_tuple : mg ("tuple" : Str) = none) (c_list : mg ("list" : Str) = none) (c_min : mg ("min" : Str) = none) (c_max : mg ("max" : Str) = none) : GFn P w K mg base 3 f fd ps__law_true CM.s_l_true := by
  refine gfn_of (g := CM.e_l_true) Fu sc__law_true 9 rfl fun cdv A outer s H E hr hG => ?_
  have hu1 := hu1_of hr
  have sc := sc__law_true
  exact (ds_cons (by first | exact (ds_par3 6 7 8 rfl sc.nd (da_cons (de_nsl (de_lst da_nil)) (da_cons (de_nsl de_int) (da_cons (de_nsl (de_call G__law_any hr hG (takes_of rfl rfl rfl rfl) (by rfl) m__law_any k__law_any b__law_any (da_cons (de_var 0) (da_cons (de_lst (da_cons de_int (da_cons (de_fz (de_neg de_int)) (da_cons (de_fz (de_pow de_int de_int)) da_nil)))) da_nil)) (aCons_len (aCons_len fun _ _ _ => aNil_len)))) da_nil)))) | exact (ds_parT3 6 7 8 rfl sc.nd (da_cons (de_nsl (de_lst da_nil)) (da_cons (de_nsl de_int) (da_cons (de_nsl (de_call G__law_any hr hG (takes_of rfl rfl rfl rfl) (by rfl) m__law_any k__law_any b__law_any (da_cons (de_var 0) (da_cons (de_lst (da_cons de_int (da_cons (de_fz (de_neg de_int)) (da_cons (de_fz (de_pow de_int de_int)) da_nil)))) da_nil)) (aCons_len (aCons_len fun _ _ _ => aNil_len)))) da_nil)))))
    (ds_cons (ds_asg 4 sc.nd (de_call G__law_mixed hr hG (takes_of rfl rfl rfl rfl) (by rfl) m__law_mixed k__law_mixed b__law_mixed (da_cons (de_var 0) (da_cons (de_lrg2 rfl (by rfl) c_list (by rfl) c_range de_int (de_add (de_var 1) de_int)) da_nil)) (aCons_len (aCons_len fun _ _ _ => aNil_len))))
    (ds_cons (ds_for (passes_of rfl) rfl (di_range1 (by rfl) c_range (da_cons (de_var 1) da_nil) rfl (aCons_len fun _ _ _ => aNil_len)) (dg_name 5 sc.nd)
    (ds_cons (ds_asg 8 sc.nd (de_add (de_var 8) (de_call G__law_draw hr hG (takes_of rfl rfl rfl rfl) (by rfl) m__law_draw k__law_draw b__law_draw (da_cons (de_var 0) (da_cons (de_add (de_var 3) de_int) da_nil)) (aCons_len (aCons_len fun _ _ _ => aNil_len)))))
    (ds_cons (ds_asg 9 sc.nd (de_call G__law_any hr hG (takes_of rfl rfl rfl rfl) (by rfl) m__law_any k__law_any b__law_any (da_cons (de_var 0) (da_cons (de_lst (da_cons de_str (da_cons de_str (da_cons de_str da_nil)))) da_nil)) (aCons_len (aCons_len fun _ _ _ => aNil_len))))
    (ds_cons (ds_if (dt_eq hr.units (de_var 9) de_str)
    (ds_one (ds_asg 7 sc.nd (de_idx hu1 (de_var 4) (de_var 5))))
    ds_nil)
    (ds_cons (ds_asg 10 sc.nd (de_tup (da_cons (de_fz (de_sub (de_var 8) (de_call G__law_draw hr hG (takes_of rfl rfl rfl rfl) (by rfl) m__law_draw k__law_draw b__law_draw (da_cons (de_var 0) (da_cons (de_add (de_var 3) de_int) da_nil)) (aCons_len (aCons_len fun _ _ _ => aNil_len))))) (da_cons (de_fz (de_add (de_var 8) (de_call G__law_draw hr hG (takes_of rfl rfl rfl rfl) (by rfl) m__law_draw k__law_draw b__law_draw (da_cons (de_var 0) (da_cons (de_add (de_var 3) de_int) da_nil)) (aCons_len (aCons_len fun _ _ _ => aNil_len))))) da_nil))))
    (ds_cons (ds_asg 11 sc.nd (de_add (de_sub (de_idx hu1 (de_var 10) de_int) (de_var 2)) (de_call G__law_draw hr hG (takes_of rfl rfl rfl rfl) (by rfl) m__law_draw k__law_draw b__law_draw (da_cons (de_var 0) (da_cons (de_add (de_mul de_int (de_var 2)) de_int) da_nil)) (aCons_len (aCons_len fun _ _ _ => aNil_len)))))
    (ds_cons (ds_asg 12 sc.nd (de_add (de_sub (de_idx hu1 (de_var 10) de_int) (de_var 2)) (de_call G__law_draw hr hG (takes_of rfl rfl rfl rfl) (by rfl) m__law_draw k__law_draw b__law_draw (da_cons (de_var 0) (da_cons (de_add (de_mul de_int (de_var 2)) de_int) da_nil)) (aCons_len (aCons_len fun _ _ _ => aNil_len)))))
    (ds_one (ds_expr (de_append 6 (de_tup (da_cons (de_fz (de_var 9)) (da_cons (de_fz (de_var 7)) (da_cons (de_fz (de_callB CR_min cs_min (by rfl) c_min PyProof.Rows.boot_min (da_cons (de_var 11) (da_cons (de_var 12) da_nil)))) (da_cons (de_fz (de_callB CR_max cs_max (by rfl) c_max PyProof.Rows.boot_max (da_cons (de_var 11) (da_cons (de_var 12) da_nil)))) da_nil)))))))))))))))
    (ds_one (ds_ret (de_callTy call_tuple_of cs_tuple (by rfl) c_tuple PyProof.Rows.boot_tuple (da_cons (de_call G__law_mixed hr hG (takes_of rfl rfl rfl rfl) (by rfl) m__law_mixed k__law_mixed b__law_mixed (da_cons (de_var 0) (da_cons (de_var 6) da_nil)) (aCons_len (aCons_len fun _ _ _ => aNil_len))) da_nil)))))))
theorem sc__law_row : FnScope [("_law_operation" : Str), ("_law_part" : Str)] ps__law_row (defScope st__law_row) := ⟨rfl, rfl, rfl, by decide +kernel, rfl, by decide +kernel, by decide +kernel⟩
theorem g__law_row {f : Addr} {fd : FuncData} (Fu : Fun K ("_law_row" : Str) ("_law_row" : Str) st__law_row f fd) (c_str : mg ("str" : Str) = none) : GFn P w K mg base 1 f fd ps__law_row CM.s_line_of := by
  refine gfn_of (g := CM.e_line_of) Fu sc__law_row 1 rfl fun cdv A outer s H E hr hG => ?_
  have hu1 := hu1_of hr
  have sc := sc__law_row
  exact (ds_one (ds_ret (de_join de_str (de_lc rfl sc.nd (di_seq (de_var 0)) (own := [(("_law_part" : Str), 1)]) (blkOk_by (by first | (show blkC [("_law_operation" : Str), ("_law_part" : Str)] (defScope st__law_row) _ _ = true; decide +kernel) | rfl)) (by decide) (fun _ _ _ _ _ => (dg_name 1 sc.nd)) (fun _ _ _ _ _ => dts_nil) (fun _ _ _ _ _ => (de_fz (de_callTy call_strZ cs_strZ (by rfl) c_str PyProof.Rows.boot_str (da_cons (de_var 1) da_nil))))))))
theorem sc__law_page : FnScope [("_law_log" : Str), ("_law_one" : Str)] ps__law_page (defScope st__law_page) := ⟨rfl, rfl, rfl, by decide +kernel, rfl, by decide +kernel, by decide +kernel⟩
theorem g__law_page {f : Addr} {fd : FuncData} (Fu : Fun K ("_law_page" : Str) ("_law_page" : Str) st__law_page f fd) {f__law_row : Addr} {fd__law_row : FuncData} (G__law_row : GFn P w K mg base 1 f__law_row fd__law_row ps__law_row CM.s_line_of) (m__law_row : mg ("_law_row" : Str) = some (.ref f__law_row)) (k__law_row : PySem.W.keepIn K (.ref f__law_row) = true) (b__law_row : Binds K fd__law_row ps__law_row []) : GFn P w K mg base 2 f fd ps__law_page s__law_page := by
  refine gfn_of (g := e__law_page) Fu sc__law_page 1 rfl fun cdv A outer s H E hr hG => ?_
  have hu1 := hu1_of hr
  have sc := sc__law_page
  exact (ds_one (ds_ret (de_if (dt_ne hr.units (de_var 0) (de_tup da_nil)) (de_join de_str (de_lc rfl sc.nd (di_seq (de_var 0)) (own := [(("_law_one" : Str), 1)]) (blkOk_by (by first | (show blkC [("_law_log" : Str), ("_law_one" : Str)] (defScope st__law_page) _ _ = true; decide +kernel) | rfl)) (by decide) (fun _ _ _ _ _ => (dg_name 1 sc.nd)) (fun _ _ _ _ _ => dts_nil) (fun _ _ _ _ _ => (de_fz (de_call G__law_row hr hG takes0 (by rfl) m__law_row k__law_row b__law_row (da_cons (de_var 1) da_nil) (aCons_len fun _ _ _ => aNil_len)))))) de_str)))
theorem sc__law_filled : FnScope [("_law_word" : Str), ("_law_wide" : Str), ("_law_is_left" : Str), ("_law_room" : Str)] ps__law_filled (defScope st__law_filled) := ⟨rfl, rfl, rfl, by decide +kernel, rfl, by decide +kernel, by decide +kernel⟩
theorem g__law_filled {f : Addr} {fd : FuncData} (Fu : Fun K ("_law_filled" : Str) ("_law_filled" : Str) st__law_filled f fd) (c_len : mg ("len" : Str) = none) : GFn P w K mg base 1 f fd ps__law_filled s__law_filled := by
  refine gfn_of (g := e__law_filled) Fu sc__law_filled 1 rfl fun cdv A outer s H E hr hG => ?_
  have hu1 := hu1_of hr
  have sc := sc__law_filled
  exact (ds_cons (ds_asg 3 sc.nd (de_mulT2 de_str (de_sub (de_var 1) (de_callB CR_len cs_len (by rfl) c_len PySem.boot_len (da_cons (de_var 0) da_nil)))))
    (ds_one (ds_ret (de_if (dt_val (de_var 2)) (de_add (de_var 0) (de_var 3)) (de_add (de_var 3) (de_var 0))))))
theorem sc__law_lines : FnScope [("_law_log" : Str), ("_law_found" : Str), ("_law_at" : Str), ("_law_some" : Str), ("_law_kind" : Str), ("_law_worth" : Str), ("_law_early" : Str), ("_law_late" : Str)] ps__law_lines (defScope st__law_lines) := ⟨rfl, rfl, rfl, by decide +kernel, rfl, by decide +kernel, by decide +kernel⟩
theorem g__law_lines {f : Addr} {fd : FuncData} (Fu : Fun K ("_law_lines" : Str) ("_law_lines" : Str) st__law_lines f fd) {f__law_filled : Addr} {fd__law_filled : FuncData} (G__law_filled : GFn P w K mg base 1 f__law_filled fd__law_filled ps__law_filled s__law_filled) (m__law_filled : mg ("_law_filled" : Str) = some (.ref f__law_filled)) (k__law_filled : PySem.W.keepIn K (.ref f__law_filled) = true) (b__law_filled : Binds K fd__law_filled ps__law_filled []) (c_enumerate : mg ("enumerate" : Str) = none) (c_str : mg ("str" : Str) = none) : GFn P w K mg base 2 f fd ps__law_lines s__law_lines := by
  refine gfn_of (g := e__law_lines) Fu sc__law_lines 7 rfl fun cdv A outer s H E hr hG => ?_
  have hu1 := hu1_of hr
  have sc := sc__law_lines
  exact (ds_cons (ds_asg 1 sc.nd (de_lst da_nil))
    (ds_cons (ds_for (passes_of rfl) rfl (di_enum (by rfl) c_enumerate (de_var 0)) (dg_tup 2 rfl (dgs_cons (dg_name 2 sc.nd) (dgs_cons (dg_tup 4 rfl (dgs_cons (dg_name 4 sc.nd) (dgs_cons (dg_name 5 sc.nd) (dgs_cons (dg_name 6 sc.nd) (dgs_cons (dg_name 7 sc.nd) dgs_nil))))) dgs_nil)))
    (ds_cons (ds_asg 3 sc.nd (de_lst (da_cons (de_fz (de_call G__law_filled hr hG (takes_of rfl rfl rfl rfl) (by rfl) m__law_filled k__law_filled b__law_filled (da_cons (de_callTy call_strZ cs_strZ (by rfl) c_str PyProof.Rows.boot_str (da_cons (de_var 2) da_nil)) (da_cons de_int (da_cons de_bl da_nil))) (aCons_len (aCons_len (aCons_len fun _ _ _ => aNil_len))))) (da_cons (de_fz (de_call G__law_filled hr hG (takes_of rfl rfl rfl rfl) (by rfl) m__law_filled k__law_filled b__law_filled (da_cons (de_var 4) (da_cons de_int (da_cons de_bl da_nil))) (aCons_len (aCons_len (aCons_len fun _ _ _ => aNil_len))))) (da_cons (de_fz (de_call G__law_filled hr hG (takes_of rfl rfl rfl rfl) (by rfl) m__law_filled k__law_filled b__law_filled (da_cons (de_callTy call_strZ cs_strZ (by rfl) c_str PyProof.Rows.boot_str (da_cons (de_var 5) da_nil)) (da_cons de_int (da_cons de_bl da_nil))) (aCons_len (aCons_len (aCons_len fun _ _ _ => aNil_len))))) da_nil)))))
    (ds_one (ds_expr (de_append 1 (de_join de_str (de_add (de_var 3) (de_lst (da_cons (de_fz (de_call G__law_filled hr hG (takes_of rfl rfl rfl rfl) (by rfl) m__law_filled k__law_filled b__law_filled (da_cons (de_callTy call_strZ cs_strZ (by rfl) c_str PyProof.Rows.boot_str (da_cons (de_var 6) da_nil)) (da_cons de_int (da_cons de_bl da_nil))) (aCons_len (aCons_len (aCons_len fun _ _ _ => aNil_len))))) (da_cons (de_fz (de_call G__law_filled hr hG (takes_of rfl rfl rfl rfl) (by rfl) m__law_filled k__law_filled b__law_filled (da_cons (de_callTy call_strZ cs_strZ (by rfl) c_str PyProof.Rows.boot_str (da_cons (de_var 7) da_nil)) (da_cons de_int (da_cons de_bl da_nil))) (aCons_len (aCons_len (aCons_len fun _ _ _ => aNil_len))))) da_nil))))))))))
    (ds_one (ds_ret (de_join de_str (de_var 1))))))
theorem sc__law_far : FnScope [("_law_pot_here" : Str), ("_law_many" : Str), ("_law_found" : Str), ("_law_turn" : Str), ("_law_some" : Str), ("_law_early" : Str), ("_law_late" : Str), ("_law_kind" : Str)] ps__law_far (defScope st__law_far) := ⟨rfl, rfl, rfl, by decide +kernel, rfl, by decide +kernel, by decide +kernel⟩
theorem g__law_far {f : Addr} {fd : FuncData} (Fu : Fun K ("_law_far" : Str) ("_law_far" : Str) st__law_far f fd) {f__law_any : Addr} {fd__law_any : FuncData} (G__law_any : GFn P w K mg base 2 f__law_any fd__law_any ps__law_any CM.s_l_any) (m__law_any : mg ("_law_any" : Str) = some (.ref f__law_any)) (k__law_any : PySem.W.keepIn K (.ref f__law_any) = true) (b__law_any : Binds K fd__law_any ps__law_any []) {f__law_draw : Addr} {fd__law_draw : FuncData} (G__law_draw : GFn P w K mg base 2 f__law_draw fd__law_draw ps__law_draw CM.s_l_draw) (m__law_draw : mg ("_law_draw" : Str) = some (.ref f__law_draw)) (k__law_draw : PySem.W.keepIn K (.ref f__law_draw) = true) (b__law_draw : Binds K fd__law_draw ps__law_draw []) (c_range : mg ("range" : Str) = none) (c_tuple : mg ("tuple" : Str) = none) (c_min : mg ("min" : Str) = none) : GFn P w K mg base 3 f fd ps__law_far s__law_far := by
  refine gfn_of (g := e__law_far) Fu sc__law_far 6 rfl fun cdv A outer s H E hr hG => ?_
  have hu1 := hu1_of hr
  have sc := sc__law_far
  exact (ds_cons (ds_asg 2 sc.nd (de_lst da_nil))
    (ds_cons (ds_for (passes_of rfl) rfl (di_range1 (by rfl) c_range (da_cons (de_var 1) da_nil) rfl (aCons_len fun _ _ _ => aNil_len)) (dg_name 3 sc.nd)
    (ds_cons (ds_asg 4 sc.nd (de_lst (da_cons (de_fz (de_neg (de_pow de_int de_int))) (da_cons (de_fz (de_pow de_int de_int)) (da_cons de_int (da_cons (de_fz (de_sub (de_pow de_int de_int) (de_call G__law_draw hr hG (takes_of rfl rfl rfl rfl) (by rfl) m__law_draw k__law_draw b__law_draw (da_cons (de_var 0) (da_cons (de_pow de_int de_int) da_nil)) (aCons_len (aCons_len fun _ _ _ => aNil_len))))) (da_cons (de_fz (de_sub de_int (de_call G__law_draw hr hG (takes_of rfl rfl rfl rfl) (by rfl) m__law_draw k__law_draw b__law_draw (da_cons (de_var 0) (da_cons (de_pow de_int de_int) da_nil)) (aCons_len (aCons_len fun _ _ _ => aNil_len))))) da_nil)))))))
    (ds_cons (ds_asg 5 sc.nd (de_call G__law_any hr hG (takes_of rfl rfl rfl rfl) (by rfl) m__law_any k__law_any b__law_any (da_cons (de_var 0) (da_cons (de_var 4) da_nil)) (aCons_len (aCons_len fun _ _ _ => aNil_len))))
    (ds_cons (ds_asg 6 sc.nd (de_call G__law_any hr hG (takes_of rfl rfl rfl rfl) (by rfl) m__law_any k__law_any b__law_any (da_cons (de_var 0) (da_cons (de_lst (da_cons (de_fz (de_var 5)) (da_cons (de_fz (de_pow de_int de_int)) (da_cons (de_fz (de_callB CR_min cs_min (by rfl) c_min PyProof.Rows.boot_min (da_cons (de_pow de_int de_int) (da_cons (de_add (de_var 5) (de_call G__law_draw hr hG (takes_of rfl rfl rfl rfl) (by rfl) m__law_draw k__law_draw b__law_draw (da_cons (de_var 0) (da_cons de_int da_nil)) (aCons_len (aCons_len fun _ _ _ => aNil_len)))) da_nil)))) da_nil)))) da_nil)) (aCons_len (aCons_len fun _ _ _ => aNil_len))))
    (ds_cons (ds_asg 7 sc.nd (de_call G__law_any hr hG (takes_of rfl rfl rfl rfl) (by rfl) m__law_any k__law_any b__law_any (da_cons (de_var 0) (da_cons (de_lst (da_cons de_str (da_cons de_str da_nil))) da_nil)) (aCons_len (aCons_len fun _ _ _ => aNil_len))))
    (ds_one (ds_expr (de_append 2 (de_tup (da_cons (de_fz (de_var 7)) (da_cons (de_fz (de_if (dt_eq hr.units (de_var 7) de_str) (de_sub (de_pow de_int de_int) (de_var 3)) (de_call G__law_any hr hG (takes_of rfl rfl rfl rfl) (by rfl) m__law_any k__law_any b__law_any (da_cons (de_var 0) (da_cons (de_lst (da_cons de_int (da_cons (de_fz (de_pow de_int de_int)) da_nil))) da_nil)) (aCons_len (aCons_len fun _ _ _ => aNil_len))))) (da_cons (de_fz (de_var 5)) (da_cons (de_fz (de_var 6)) da_nil)))))))))))))
    (ds_one (ds_ret (de_callTy call_tuple_of cs_tuple (by rfl) c_tuple PyProof.Rows.boot_tuple (da_cons (de_var 2) da_nil))))))
theorem sc__law_log_right : FnScope [("_law_log" : Str), ("_law_kept" : Str), ("_law_page_here" : Str)] ps__law_log_right (defScope st__law_log_right) := ⟨rfl, rfl, rfl, by decide +kernel, rfl, by decide +kernel, by decide +kernel⟩
theorem g__law_log_right {f : Addr} {fd : FuncData} (Fu : Fun K ("_law_log_right" : Str) ("_law_log_right" : Str) st__law_log_right f fd) {f__law_page : Addr} {fd__law_page : FuncData} (G__law_page : GFn P w K mg base 5 f__law_page fd__law_page ps__law_page s__law_page) (m__law_page : mg ("_law_page" : Str) = some (.ref f__law_page)) (k__law_page : PySem.W.keepIn K (.ref f__law_page) = true) (b__law_page : Binds K fd__law_page ps__law_page []) {f_format_log : Addr} {fd_format_log : FuncData} (G_format_log : GFn P w K mg base 5 f_format_log fd_format_log ps_format_log s_format_log) (m_format_log : mg ("format_log" : Str) = some (.ref f_format_log)) (k_format_log : PySem.W.keepIn K (.ref f_format_log) = true) (b_format_log : Binds K fd_format_log ps_format_log []) {f_chart : Addr} {fd_chart : FuncData} (G_chart : GFn P w K mg base 5 f_chart fd_chart ps_chart s_chart) (m_chart : mg ("chart" : Str) = some (.ref f_chart)) (k_chart : PySem.W.keepIn K (.ref f_chart) = true) (b_chart : Binds K fd_chart ps_chart []) {f__law_lines : Addr} {fd__law_lines : FuncData} (G__law_lines : GFn P w K mg base 5 f__law_lines fd__law_lines ps__law_lines s__law_lines) (m__law_lines : mg ("_law_lines" : Str) = some (.ref f__law_lines)) (k__law_lines : PySem.W.keepIn K (.ref f__law_lines) = true) (b__law_lines : Binds K fd__law_lines ps__law_lines []) {f_parse_log : Addr} {fd_parse_log : FuncData} (G_parse_log : GFn P w K mg base 5 f_parse_log fd_parse_log ps_parse_log s_parse_log) (m_parse_log : mg ("parse_log" : Str) = some (.ref f_parse_log)) (k_parse_log : PySem.W.keepIn K (.ref f_parse_log) = true) (b_parse_log : Binds K fd_parse_log ps_parse_log []) (c_repr : mg ("repr" : Str) = none) : GFn P w K mg base 6 f fd ps__law_log_right s__law_log_right := by
  refine gfn_of (g := e__law_log_right) Fu sc__law_log_right 2 rfl fun cdv A outer s H E hr hG => ?_
  have hu1 := hu1_of hr
  have sc := sc__law_log_right
  exact (ds_cons (by first | exact (ds_par2 1 2 rfl sc.nd (da_cons (de_nsl (de_callB (CR_reprY hG hr.units) cs_reprY (by rfl) c_repr PyProof.Rows.boot_repr (da_cons (de_var 0) da_nil))) (da_cons (de_nsl (de_call G__law_page hr hG (takes_of rfl rfl rfl rfl) (by rfl) m__law_page k__law_page b__law_page (da_cons (de_var 0) da_nil) (aCons_len fun _ _ _ => aNil_len))) da_nil))) | exact (ds_parT2 1 2 rfl sc.nd (da_cons (de_nsl (de_callB (CR_reprY hG hr.units) cs_reprY (by rfl) c_repr PyProof.Rows.boot_repr (da_cons (de_var 0) da_nil))) (da_cons (de_nsl (de_call G__law_page hr hG (takes_of rfl rfl rfl rfl) (by rfl) m__law_page k__law_page b__law_page (da_cons (de_var 0) da_nil) (aCons_len fun _ _ _ => aNil_len))) da_nil))))
    (ds_cons (ds_if (DW.dt (dw_or (dt_ne hr.units (de_call G_format_log hr hG (takes_of rfl rfl rfl rfl) (by rfl) m_format_log k_format_log b_format_log (da_cons (de_var 0) da_nil) (aCons_len fun _ _ _ => aNil_len)) (de_var 2)) (dw_or (dt_ne hr.units (de_callB (CR_reprY hG hr.units) cs_reprY (by rfl) c_repr PyProof.Rows.boot_repr (da_cons (de_call G_parse_log hr hG (takes_of rfl rfl rfl rfl) (by rfl) m_parse_log k_parse_log b_parse_log (da_cons (de_var 2) da_nil) (aCons_len fun _ _ _ => aNil_len)) da_nil)) (de_var 1)) (dw_or1 (dt_ne hr.units (de_call G_chart hr hG (takes_of rfl rfl rfl rfl) (by rfl) m_chart k_chart b_chart (da_cons (de_var 0) da_nil) (aCons_len fun _ _ _ => aNil_len)) (de_call G__law_lines hr hG (takes_of rfl rfl rfl rfl) (by rfl) m__law_lines k__law_lines b__law_lines (da_cons (de_var 0) da_nil) (aCons_len fun _ _ _ => aNil_len)))))))
    (ds_one (ds_ret de_bl))
    ds_nil)
    (ds_one (ds_ret (de_eq hr.units (de_callB (CR_reprY hG hr.units) cs_reprY (by rfl) c_repr PyProof.Rows.boot_repr (da_cons (de_var 0) da_nil)) (de_var 1))))))
theorem sc_law : FnScope [("_law_script" : Str), ("_law_k" : Str), ("_law_pot_here" : Str), ("_law_some" : Str), ("_law_one" : Str), ("_law_other" : Str), ("_law_log" : Str)] ps_law (defScope st_law) := ⟨rfl, rfl, rfl, by decide +kernel, rfl, by decide +kernel, by decide +kernel⟩
theorem g_law {f : Addr} {fd : FuncData} (Fu : Fun K ("law" : Str) ("law" : Str) st_law f fd) {f__law_pot : Addr} {fd__law_pot : FuncData} (G__law_pot : GFn P w K mg base 6 f__law_pot fd__law_pot ps__law_pot CM.s_l_pot) (m__law_pot : mg ("_law_pot" : Str) = some (.ref f__law_pot)) (k__law_pot : PySem.W.keepIn K (.ref f__law_pot) = true) (b__law_pot : Binds K fd__law_pot ps__law_pot []) {f__law_wild : Addr} {fd__law_wild : FuncData} (G__law_wild : GFn P w K mg base 6 f__law_wild fd__law_wild ps__law_wild CM.s_l_wild) (m__law_wild : mg ("_law_wild" : Str) = some (.ref f__law_wild)) (k__law_wild : PySem.W.keepIn K (.ref f__law_wild) = true) (b__law_wild : Binds K fd__law_wild ps__law_wild []) {f__law_far : Addr} {fd__law_far : FuncData} (G__law_far : GFn P w K mg base 6 f__law_far fd__law_far ps__law_far s__law_far) (m__law_far : mg ("_law_far" : Str) = some (.ref f__law_far)) (k__law_far : PySem.W.keepIn K (.ref f__law_far) = true) (b__law_far : Binds K fd__law_far ps__law_far []) {f__law_true : Addr} {fd__law_true : FuncData} (G__law_true : GFn P w K mg base 6 f__law_true fd__law_true ps__law_true CM.s_l_true) (m__law_true : mg ("_law_true" : Str) = some (.ref f__law_true)) (k__law_true : PySem.W.keepIn K (.ref f__law_true) = true) (b__law_true : Binds K fd__law_true ps__law_true []) {f__law_log_right : Addr} {fd__law_log_right : FuncData} (G__law_log_right : GFn P w K mg base 6 f__law_log_right fd__law_log_right ps__law_log_right s__law_log_right) (m__law_log_right : mg ("_law_log_right" : Str) = some (.ref f__law_log_right)) (k__law_log_right : PySem.W.keepIn K (.ref f__law_log_right) = true) (b__law_log_right : Binds K fd__law_log_right ps__law_log_right []) {f_format_log : Addr} {fd_format_log : FuncData} (G_format_log : GFn P w K mg base 6 f_format_log fd_format_log ps_format_log s_format_log) (m_format_log : mg ("format_log" : Str) = some (.ref f_format_log)) (k_format_log : PySem.W.keepIn K (.ref f_format_log) = true) (b_format_log : Binds K fd_format_log ps_format_log []) (c_range : mg ("range" : Str) = none) (c_max : mg ("max" : Str) = none) (c_min : mg ("min" : Str) = none) (c_all : mg ("all" : Str) = none) (c_len : mg ("len" : Str) = none) : GFn P w K mg base 7 f fd ps_law s_law := by
  refine gfn_of (g := e_law) Fu sc_law 6 rfl fun cdv A outer s H E hr hG => ?_
  have hu1 := hu1_of hr
  have sc := sc_law
  exact (ds_cons (ds_for (passes_of rfl) rfl (di_range1 (by rfl) c_range (da_cons (de_callB CR_max cs_max (by rfl) c_max PyProof.Rows.boot_max (da_cons de_int (da_cons (de_callB CR_min cs_min (by rfl) c_min PyProof.Rows.boot_min (da_cons de_int (da_cons (de_callB CR_len cs_len (by rfl) c_len PySem.boot_len (da_cons (de_var 0) da_nil)) da_nil))) da_nil))) da_nil) rfl (aCons_len fun _ _ _ => aNil_len)) (dg_name 1 sc.nd)
    (ds_cons (ds_asg 2 sc.nd (de_call G__law_pot hr hG (takes_of rfl rfl rfl rfl) (by rfl) m__law_pot k__law_pot b__law_pot (da_cons (de_var 0) (da_cons (de_var 1) da_nil)) (aCons_len (aCons_len fun _ _ _ => aNil_len))))
    (ds_cons (ds_asg 3 sc.nd (de_lst (da_cons (de_fz (de_call G__law_wild hr hG (takes_of rfl rfl rfl rfl) (by rfl) m__law_wild k__law_wild b__law_wild (da_cons (de_var 2) (da_cons de_int (da_cons de_int da_nil))) (aCons_len (aCons_len (aCons_len fun _ _ _ => aNil_len))))) (da_cons (de_fz (de_call G__law_far hr hG (takes_of rfl rfl rfl rfl) (by rfl) m__law_far k__law_far b__law_far (da_cons (de_var 2) (da_cons de_int da_nil)) (aCons_len (aCons_len fun _ _ _ => aNil_len)))) (da_cons (de_fz (de_call G__law_true hr hG (takes_of rfl rfl rfl rfl) (by rfl) m__law_true k__law_true b__law_true (da_cons (de_var 2) (da_cons de_int (da_cons de_int (da_cons de_int da_nil)))) (aCons_len (aCons_len (aCons_len (aCons_len fun _ _ _ => aNil_len)))))) (da_cons (de_fz (de_tup da_nil)) (da_cons (de_fz (de_call G__law_far hr hG (takes_of rfl rfl rfl rfl) (by rfl) m__law_far k__law_far b__law_far (da_cons (de_var 2) (da_cons de_int da_nil)) (aCons_len (aCons_len fun _ _ _ => aNil_len)))) da_nil)))))))
    (ds_cons (ds_if (dt_not (dt_val (de_callB (cr_all rfl) cs_all (by rfl) c_all PyProof.Rows.boot_all (da_cons (de_lc rfl sc.nd (di_seq (de_var 3)) (own := [(("_law_log" : Str), 6)]) (blkOk_by (by first | (show blkC [("_law_script" : Str), ("_law_k" : Str), ("_law_pot_here" : Str), ("_law_some" : Str), ("_law_one" : Str), ("_law_other" : Str), ("_law_log" : Str)] (defScope st_law) _ _ = true; decide +kernel) | rfl)) (by decide) (fun _ _ _ _ _ => (dg_name 6 sc.nd)) (fun _ _ _ _ _ => dts_nil) (fun _ _ _ _ _ => (de_fz (de_call G__law_log_right hr hG takes0 (by rfl) m__law_log_right k__law_log_right b__law_log_right (da_cons (de_var 6) da_nil) (aCons_len fun _ _ _ => aNil_len))))) da_nil))))
    (ds_one (ds_ret de_bl))
    ds_nil)
    (ds_one (ds_for (passes_of rfl) rfl (di_seq (de_var 3)) (dg_name 4 sc.nd)
    (ds_one (ds_for (passes_of rfl) rfl (di_seq (de_var 3)) (dg_name 5 sc.nd)
    (ds_one (ds_if (dt_ne hr.units (de_eq hr.units (de_call G_format_log hr hG (takes_of rfl rfl rfl rfl) (by rfl) m_format_log k_format_log b_format_log (da_cons (de_var 4) da_nil) (aCons_len fun _ _ _ => aNil_len)) (de_call G_format_log hr hG (takes_of rfl rfl rfl rfl) (by rfl) m_format_log k_format_log b_format_log (da_cons (de_var 5) da_nil) (aCons_len fun _ _ _ => aNil_len))) (de_eq hr.units (de_var 4) (de_var 5)))
    (ds_one (ds_ret de_bl))
    ds_nil))))))))))
    (ds_one (ds_ret de_bl)))
end
end K58
set_option maxHeartbeats 4000000
namespace K58
open PySem PySem.Spec PyProof.Rows L2 DL
set_option maxHeartbeats 0 in
theorem all_mk {l : PySem.W.OpenLaw} {w : World} {K : PySem.W.Frag} {h : Heap} {mg : Str → Option Value} {fa f1 f2 f3 f4 f5 f6 f7 f8 f9 f10 f11 f12 f13 f14 f15 f16 f17 f18 f19 f20 f21 f22 f23 f24 : Addr} (X : K.In h) (G : h.Ns mainGlobals mg) (hfa : mg "law" = some (.ref fa))
    {od1 an1 : Option Addr} {sl1 : Array (Option Value)} {oc1 kV1 dc1 pm1 cd1 ct1 : Value}
    {od2 an2 : Option Addr} {sl2 : Array (Option Value)} {oc2 kV2 dc2 pm2 cd2 ct2 : Value}
    {od3 an3 : Option Addr} {sl3 : Array (Option Value)} {oc3 kV3 dc3 pm3 cd3 ct3 : Value}
    {od4 an4 : Option Addr} {sl4 : Array (Option Value)} {oc4 kV4 dc4 pm4 cd4 ct4 : Value}
    {od5 an5 : Option Addr} {sl5 : Array (Option Value)} {oc5 kV5 dc5 pm5 cd5 ct5 : Value}
    {od6 an6 : Option Addr} {sl6 : Array (Option Value)} {oc6 kV6 dc6 pm6 cd6 ct6 : Value}
    {od7 an7 : Option Addr} {sl7 : Array (Option Value)} {oc7 kV7 dc7 pm7 cd7 ct7 : Value}
    {od8 an8 : Option Addr} {sl8 : Array (Option Value)} {oc8 kV8 dc8 pm8 cd8 ct8 : Value}
    {od9 an9 : Option Addr} {sl9 : Array (Option Value)} {oc9 kV9 dc9 pm9 cd9 ct9 : Value}
    {od10 an10 : Option Addr} {sl10 : Array (Option Value)} {oc10 kV10 dc10 pm10 cd10 ct10 : Value}
    {od11 an11 : Option Addr} {sl11 : Array (Option Value)} {oc11 kV11 dc11 pm11 cd11 ct11 : Value}
    {od12 an12 : Option Addr} {sl12 : Array (Option Value)} {oc12 kV12 dc12 pm12 cd12 ct12 : Value}
    {od13 an13 : Option Addr} {sl13 : Array (Option Value)} {oc13 kV13 dc13 pm13 cd13 ct13 : Value}
    {od14 an14 : Option Addr} {sl14 : Array (Option Value)} {oc14 kV14 dc14 pm14 cd14 ct14 : Value}
    {od15 an15 : Option Addr} {sl15 : Array (Option Value)} {oc15 kV15 dc15 pm15 cd15 ct15 : Value}
    {od16 an16 : Option Addr} {sl16 : Array (Option Value)} {oc16 kV16 dc16 pm16 cd16 ct16 : Value}
    {od17 an17 : Option Addr} {sl17 : Array (Option Value)} {oc17 kV17 dc17 pm17 cd17 ct17 : Value}
    {od18 an18 : Option Addr} {sl18 : Array (Option Value)} {oc18 kV18 dc18 pm18 cd18 ct18 : Value}
    {od19 an19 : Option Addr} {sl19 : Array (Option Value)} {oc19 kV19 dc19 pm19 cd19 ct19 : Value}
    {od20 an20 : Option Addr} {sl20 : Array (Option Value)} {oc20 kV20 dc20 pm20 cd20 ct20 : Value}
    {od21 an21 : Option Addr} {sl21 : Array (Option Value)} {oc21 kV21 dc21 pm21 cd21 ct21 : Value}
    {od22 an22 : Option Addr} {sl22 : Array (Option Value)} {oc22 kV22 dc22 pm22 cd22 ct22 : Value}
    {od23 an23 : Option Addr} {sl23 : Array (Option Value)} {oc23 kV23 dc23 pm23 cd23 ct23 : Value}
    {od24 an24 : Option Addr} {sl24 : Array (Option Value)} {oc24 kV24 dc24 pm24 cd24 ct24 : Value}
    (a1 : PySem.W.nsIn K mainGlobals ("_law_pot" : Str) = some (some (.ref f1)))
    (l1 : K.lookup f1 = some ⟨oc1, od1, .func (PySem.W.fnOf ("_law_pot" : Str) ("_law_pot" : Str) (defArgs st__law_pot) (defBody st__law_pot) (defScope st__law_pot) .none kV1 dc1 pm1 an1 cd1 ct1), sl1⟩)
    (c1 : PySem.W.codeIn K cd1 ("_law_pot" : Str) = true) (k1 : PySem.W.keepIn K (.ref f1) = true)
    (a2 : PySem.W.nsIn K mainGlobals ("_law_draw" : Str) = some (some (.ref f2)))
    (l2 : K.lookup f2 = some ⟨oc2, od2, .func (PySem.W.fnOf ("_law_draw" : Str) ("_law_draw" : Str) (defArgs st__law_draw) (defBody st__law_draw) (defScope st__law_draw) .none kV2 dc2 pm2 an2 cd2 ct2), sl2⟩)
    (c2 : PySem.W.codeIn K cd2 ("_law_draw" : Str) = true) (k2 : PySem.W.keepIn K (.ref f2) = true)
    (a3 : PySem.W.nsIn K mainGlobals ("_law_mixed" : Str) = some (some (.ref f3)))
    (l3 : K.lookup f3 = some ⟨oc3, od3, .func (PySem.W.fnOf ("_law_mixed" : Str) ("_law_mixed" : Str) (defArgs st__law_mixed) (defBody st__law_mixed) (defScope st__law_mixed) .none kV3 dc3 pm3 an3 cd3 ct3), sl3⟩)
    (c3 : PySem.W.codeIn K cd3 ("_law_mixed" : Str) = true) (k3 : PySem.W.keepIn K (.ref f3) = true)
    (a4 : PySem.W.nsIn K mainGlobals ("_law_any" : Str) = some (some (.ref f4)))
    (l4 : K.lookup f4 = some ⟨oc4, od4, .func (PySem.W.fnOf ("_law_any" : Str) ("_law_any" : Str) (defArgs st__law_any) (defBody st__law_any) (defScope st__law_any) .none kV4 dc4 pm4 an4 cd4 ct4), sl4⟩)
    (c4 : PySem.W.codeIn K cd4 ("_law_any" : Str) = true) (k4 : PySem.W.keepIn K (.ref f4) = true)
    (a5 : PySem.W.nsIn K mainGlobals ("_law_wild" : Str) = some (some (.ref f5)))
    (l5 : K.lookup f5 = some ⟨oc5, od5, .func (PySem.W.fnOf ("_law_wild" : Str) ("_law_wild" : Str) (defArgs st__law_wild) (defBody st__law_wild) (defScope st__law_wild) .none kV5 dc5 pm5 an5 cd5 ct5), sl5⟩)
    (c5 : PySem.W.codeIn K cd5 ("_law_wild" : Str) = true) (k5 : PySem.W.keepIn K (.ref f5) = true)
    (a6 : PySem.W.nsIn K mainGlobals ("_law_far" : Str) = some (some (.ref f6)))
    (l6 : K.lookup f6 = some ⟨oc6, od6, .func (PySem.W.fnOf ("_law_far" : Str) ("_law_far" : Str) (defArgs st__law_far) (defBody st__law_far) (defScope st__law_far) .none kV6 dc6 pm6 an6 cd6 ct6), sl6⟩)
    (c6 : PySem.W.codeIn K cd6 ("_law_far" : Str) = true) (k6 : PySem.W.keepIn K (.ref f6) = true)
    (a7 : PySem.W.nsIn K mainGlobals ("_law_true" : Str) = some (some (.ref f7)))
    (l7 : K.lookup f7 = some ⟨oc7, od7, .func (PySem.W.fnOf ("_law_true" : Str) ("_law_true" : Str) (defArgs st__law_true) (defBody st__law_true) (defScope st__law_true) .none kV7 dc7 pm7 an7 cd7 ct7), sl7⟩)
    (c7 : PySem.W.codeIn K cd7 ("_law_true" : Str) = true) (k7 : PySem.W.keepIn K (.ref f7) = true)
    (a8 : PySem.W.nsIn K mainGlobals ("_law_row" : Str) = some (some (.ref f8)))
    (l8 : K.lookup f8 = some ⟨oc8, od8, .func (PySem.W.fnOf ("_law_row" : Str) ("_law_row" : Str) (defArgs st__law_row) (defBody st__law_row) (defScope st__law_row) .none kV8 dc8 pm8 an8 cd8 ct8), sl8⟩)
    (c8 : PySem.W.codeIn K cd8 ("_law_row" : Str) = true) (k8 : PySem.W.keepIn K (.ref f8) = true)
    (a9 : PySem.W.nsIn K mainGlobals ("_law_page" : Str) = some (some (.ref f9)))
    (l9 : K.lookup f9 = some ⟨oc9, od9, .func (PySem.W.fnOf ("_law_page" : Str) ("_law_page" : Str) (defArgs st__law_page) (defBody st__law_page) (defScope st__law_page) .none kV9 dc9 pm9 an9 cd9 ct9), sl9⟩)
    (c9 : PySem.W.codeIn K cd9 ("_law_page" : Str) = true) (k9 : PySem.W.keepIn K (.ref f9) = true)
    (a10 : PySem.W.nsIn K mainGlobals ("line_of" : Str) = some (some (.ref f10)))
    (l10 : K.lookup f10 = some ⟨oc10, od10, .func (PySem.W.fnOf ("line_of" : Str) ("line_of" : Str) (defArgs st_line_of) (defBody st_line_of) (defScope st_line_of) .none kV10 dc10 pm10 an10 cd10 ct10), sl10⟩)
    (c10 : PySem.W.codeIn K cd10 ("line_of" : Str) = true) (k10 : PySem.W.keepIn K (.ref f10) = true)
    (a11 : PySem.W.nsIn K mainGlobals ("format_log" : Str) = some (some (.ref f11)))
    (l11 : K.lookup f11 = some ⟨oc11, od11, .func (PySem.W.fnOf ("format_log" : Str) ("format_log" : Str) (defArgs st_format_log) (defBody st_format_log) (defScope st_format_log) .none kV11 dc11 pm11 an11 cd11 ct11), sl11⟩)
    (c11 : PySem.W.codeIn K cd11 ("format_log" : Str) = true) (k11 : PySem.W.keepIn K (.ref f11) = true)
    (a12 : PySem.W.nsIn K mainGlobals ("chart" : Str) = some (some (.ref f12)))
    (l12 : K.lookup f12 = some ⟨oc12, od12, .func (PySem.W.fnOf ("chart" : Str) ("chart" : Str) (defArgs st_chart) (defBody st_chart) (defScope st_chart) .none kV12 dc12 pm12 an12 cd12 ct12), sl12⟩)
    (c12 : PySem.W.codeIn K cd12 ("chart" : Str) = true) (k12 : PySem.W.keepIn K (.ref f12) = true)
    (a13 : PySem.W.nsIn K mainGlobals ("_law_filled" : Str) = some (some (.ref f13)))
    (l13 : K.lookup f13 = some ⟨oc13, od13, .func (PySem.W.fnOf ("_law_filled" : Str) ("_law_filled" : Str) (defArgs st__law_filled) (defBody st__law_filled) (defScope st__law_filled) .none kV13 dc13 pm13 an13 cd13 ct13), sl13⟩)
    (c13 : PySem.W.codeIn K cd13 ("_law_filled" : Str) = true) (k13 : PySem.W.keepIn K (.ref f13) = true)
    (a14 : PySem.W.nsIn K mainGlobals ("_law_lines" : Str) = some (some (.ref f14)))
    (l14 : K.lookup f14 = some ⟨oc14, od14, .func (PySem.W.fnOf ("_law_lines" : Str) ("_law_lines" : Str) (defArgs st__law_lines) (defBody st__law_lines) (defScope st__law_lines) .none kV14 dc14 pm14 an14 cd14 ct14), sl14⟩)
    (c14 : PySem.W.codeIn K cd14 ("_law_lines" : Str) = true) (k14 : PySem.W.keepIn K (.ref f14) = true)
    (a15 : PySem.W.nsIn K mainGlobals ("is_integer" : Str) = some (some (.ref f15)))
    (l15 : K.lookup f15 = some ⟨oc15, od15, .func (PySem.W.fnOf ("is_integer" : Str) ("is_integer" : Str) (defArgs st_is_integer) (defBody st_is_integer) (defScope st_is_integer) .none kV15 dc15 pm15 an15 cd15 ct15), sl15⟩)
    (c15 : PySem.W.codeIn K cd15 ("is_integer" : Str) = true) (k15 : PySem.W.keepIn K (.ref f15) = true)
    (a16 : PySem.W.nsIn K mainGlobals ("are_stamps" : Str) = some (some (.ref f16)))
    (l16 : K.lookup f16 = some ⟨oc16, od16, .func (PySem.W.fnOf ("are_stamps" : Str) ("are_stamps" : Str) (defArgs st_are_stamps) (defBody st_are_stamps) (defScope st_are_stamps) .none kV16 dc16 pm16 an16 cd16 ct16), sl16⟩)
    (c16 : PySem.W.codeIn K cd16 ("are_stamps" : Str) = true) (k16 : PySem.W.keepIn K (.ref f16) = true)
    (a17 : PySem.W.nsIn K mainGlobals ("is_operation" : Str) = some (some (.ref f17)))
    (l17 : K.lookup f17 = some ⟨oc17, od17, .func (PySem.W.fnOf ("is_operation" : Str) ("is_operation" : Str) (defArgs st_is_operation) (defBody st_is_operation) (defScope st_is_operation) .none kV17 dc17 pm17 an17 cd17 ct17), sl17⟩)
    (c17 : PySem.W.codeIn K cd17 ("is_operation" : Str) = true) (k17 : PySem.W.keepIn K (.ref f17) = true)
    (a18 : PySem.W.nsIn K mainGlobals ("is_log" : Str) = some (some (.ref f18)))
    (l18 : K.lookup f18 = some ⟨oc18, od18, .func (PySem.W.fnOf ("is_log" : Str) ("is_log" : Str) (defArgs st_is_log) (defBody st_is_log) (defScope st_is_log) .none kV18 dc18 pm18 an18 cd18 ct18), sl18⟩)
    (c18 : PySem.W.codeIn K cd18 ("is_log" : Str) = true) (k18 : PySem.W.keepIn K (.ref f18) = true)
    (a19 : PySem.W.nsIn K mainGlobals ("number_in" : Str) = some (some (.ref f19)))
    (l19 : K.lookup f19 = some ⟨oc19, od19, .func (PySem.W.fnOf ("number_in" : Str) ("number_in" : Str) (defArgs st_number_in) (defBody st_number_in) (defScope st_number_in) .none kV19 dc19 pm19 an19 cd19 ct19), sl19⟩)
    (c19 : PySem.W.codeIn K cd19 ("number_in" : Str) = true) (k19 : PySem.W.keepIn K (.ref f19) = true)
    (a20 : PySem.W.nsIn K mainGlobals ("numbers_in" : Str) = some (some (.ref f20)))
    (l20 : K.lookup f20 = some ⟨oc20, od20, .func (PySem.W.fnOf ("numbers_in" : Str) ("numbers_in" : Str) (defArgs st_numbers_in) (defBody st_numbers_in) (defScope st_numbers_in) .none kV20 dc20 pm20 an20 cd20 ct20), sl20⟩)
    (c20 : PySem.W.codeIn K cd20 ("numbers_in" : Str) = true) (k20 : PySem.W.keepIn K (.ref f20) = true)
    (a21 : PySem.W.nsIn K mainGlobals ("operation_in" : Str) = some (some (.ref f21)))
    (l21 : K.lookup f21 = some ⟨oc21, od21, .func (PySem.W.fnOf ("operation_in" : Str) ("operation_in" : Str) (defArgs st_operation_in) (defBody st_operation_in) (defScope st_operation_in) .none kV21 dc21 pm21 an21 cd21 ct21), sl21⟩)
    (c21 : PySem.W.codeIn K cd21 ("operation_in" : Str) = true) (k21 : PySem.W.keepIn K (.ref f21) = true)
    (a22 : PySem.W.nsIn K mainGlobals ("parse_log" : Str) = some (some (.ref f22)))
    (l22 : K.lookup f22 = some ⟨oc22, od22, .func (PySem.W.fnOf ("parse_log" : Str) ("parse_log" : Str) (defArgs st_parse_log) (defBody st_parse_log) (defScope st_parse_log) .none kV22 dc22 pm22 an22 cd22 ct22), sl22⟩)
    (c22 : PySem.W.codeIn K cd22 ("parse_log" : Str) = true) (k22 : PySem.W.keepIn K (.ref f22) = true)
    (a23 : PySem.W.nsIn K mainGlobals ("_law_log_right" : Str) = some (some (.ref f23)))
    (l23 : K.lookup f23 = some ⟨oc23, od23, .func (PySem.W.fnOf ("_law_log_right" : Str) ("_law_log_right" : Str) (defArgs st__law_log_right) (defBody st__law_log_right) (defScope st__law_log_right) .none kV23 dc23 pm23 an23 cd23 ct23), sl23⟩)
    (c23 : PySem.W.codeIn K cd23 ("_law_log_right" : Str) = true) (k23 : PySem.W.keepIn K (.ref f23) = true)
    (a24 : PySem.W.nsIn K mainGlobals ("law" : Str) = some (some (.ref f24)))
    (l24 : K.lookup f24 = some ⟨oc24, od24, .func (PySem.W.fnOf ("law" : Str) ("law" : Str) (defArgs st_law) (defBody st_law) (defScope st_law) .none kV24 dc24 pm24 an24 cd24 ct24), sl24⟩)
    (c24 : PySem.W.codeIn K cd24 ("law" : Str) = true) (k24 : PySem.W.keepIn K (.ref f24) = true)
    (z_len : PySem.W.nsIn K mainGlobals ("len" : Str) = some none)
    (z_int : PySem.W.nsIn K mainGlobals ("int" : Str) = some none)
    (z_abs : PySem.W.nsIn K mainGlobals ("abs" : Str) = some none)
    (z_list : PySem.W.nsIn K mainGlobals ("list" : Str) = some none)
    (z_range : PySem.W.nsIn K mainGlobals ("range" : Str) = some none)
    (z_tuple : PySem.W.nsIn K mainGlobals ("tuple" : Str) = some none)
    (z_min : PySem.W.nsIn K mainGlobals ("min" : Str) = some none)
    (z_max : PySem.W.nsIn K mainGlobals ("max" : Str) = some none)
    (z_str : PySem.W.nsIn K mainGlobals ("str" : Str) = some none)
    {t_BLANK : Tok} (z_BLANK : PySem.W.nsIn K mainGlobals ("BLANK" : Str) = some (some (.str (" " : Str) t_BLANK)))
    {t_NOTHING : Tok} (z_NOTHING : PySem.W.nsIn K mainGlobals ("NOTHING" : Str) = some (some (.str ("-" : Str) t_NOTHING)))
    {t_FEED : Tok} (z_FEED : PySem.W.nsIn K mainGlobals ("FEED" : Str) = some (some (.str ("\n" : Str) t_FEED)))
    (z_enumerate : PySem.W.nsIn K mainGlobals ("enumerate" : Str) = some none)
    (z_isinstance : PySem.W.nsIn K mainGlobals ("isinstance" : Str) = some none)
    (z_bool : PySem.W.nsIn K mainGlobals ("bool" : Str) = some none)
    {t_MOST_STAMP : Tok} (z_MOST_STAMP : PySem.W.nsIn K mainGlobals ("MOST_STAMP" : Str) = some (some (.int 1000000000000000 t_MOST_STAMP)))
    {t_PARTS : Tok} (z_PARTS : PySem.W.nsIn K mainGlobals ("PARTS" : Str) = some (some (.int 4 t_PARTS)))
    {t_READ : Tok} (z_READ : PySem.W.nsIn K mainGlobals ("READ" : Str) = some (some (.str ("read" : Str) t_READ)))
    {t_WRITE : Tok} (z_WRITE : PySem.W.nsIn K mainGlobals ("WRITE" : Str) = some (some (.str ("write" : Str) t_WRITE)))
    {t_MOST_VALUE : Tok} (z_MOST_VALUE : PySem.W.nsIn K mainGlobals ("MOST_VALUE" : Str) = some (some (.int 1000000000 t_MOST_VALUE)))
    {t_MOST_OPERATIONS : Tok} (z_MOST_OPERATIONS : PySem.W.nsIn K mainGlobals ("MOST_OPERATIONS" : Str) = some (some (.int 200 t_MOST_OPERATIONS)))
    (z_all : PySem.W.nsIn K mainGlobals ("all" : Str) = some none)
    (z_set : PySem.W.nsIn K mainGlobals ("set" : Str) = some none)
    {t_MINUS : Tok} (z_MINUS : PySem.W.nsIn K mainGlobals ("MINUS" : Str) = some (some (.str ("-" : Str) t_MINUS)))
    {t_MOST_DIGITS : Tok} (z_MOST_DIGITS : PySem.W.nsIn K mainGlobals ("MOST_DIGITS" : Str) = some (some (.int 20 t_MOST_DIGITS)))
    {t_DIGITS : Tok} (z_DIGITS : PySem.W.nsIn K mainGlobals ("DIGITS" : Str) = some (some (.str ("0123456789" : Str) t_DIGITS)))
    {t_OPERATION_PARTS : Tok} (z_OPERATION_PARTS : PySem.W.nsIn K mainGlobals ("OPERATION_PARTS" : Str) = some (some (.int 4 t_OPERATION_PARTS)))
    (z_repr : PySem.W.nsIn K mainGlobals ("repr" : Str) = some none) :
    ∃ fd : FuncData, (∀ (s : Shared) (v : Value), BindsTo s fd ⟨[v], []⟩ [(("_law_script" : Str), v)]) ∧ ∀ base : Heap, K.In base → base.Ns mainGlobals mg → GFn l.prog w K mg base 7 fa fd [("_law_script" : Str)] s_law := by
  have e := hfa.symm.trans (PySem.W.mg_of X G a24)
  cases e
  have F1 := fun_mk (st := st__law_pot) l1 c1 k1
  have b1 := F1.binds (ps := ps__law_pot) fun _ _ _ _ _ _ us hl => match us, hl with | [_, _], _ => rfl
  have F2 := fun_mk (st := st__law_draw) l2 c2 k2
  have b2 := F2.binds (ps := ps__law_draw) fun _ _ _ _ _ _ us hl => match us, hl with | [_, _], _ => rfl
  have F3 := fun_mk (st := st__law_mixed) l3 c3 k3
  have b3 := F3.binds (ps := ps__law_mixed) fun _ _ _ _ _ _ us hl => match us, hl with | [_, _], _ => rfl
  have F4 := fun_mk (st := st__law_any) l4 c4 k4
  have b4 := F4.binds (ps := ps__law_any) fun _ _ _ _ _ _ us hl => match us, hl with | [_, _], _ => rfl
  have F5 := fun_mk (st := st__law_wild) l5 c5 k5
  have b5 := F5.binds (ps := ps__law_wild) fun _ _ _ _ _ _ us hl => match us, hl with | [_, _, _], _ => rfl
  have F6 := fun_mk (st := st__law_far) l6 c6 k6
  have b6 := F6.binds (ps := ps__law_far) fun _ _ _ _ _ _ us hl => match us, hl with | [_, _], _ => rfl
  have F7 := fun_mk (st := st__law_true) l7 c7 k7
  have b7 := F7.binds (ps := ps__law_true) fun _ _ _ _ _ _ us hl => match us, hl with | [_, _, _, _], _ => rfl
  have F8 := fun_mk (st := st__law_row) l8 c8 k8
  have b8 := F8.binds (ps := ps__law_row) fun _ _ _ _ _ _ us hl => match us, hl with | [_], _ => rfl
  have F9 := fun_mk (st := st__law_page) l9 c9 k9
  have b9 := F9.binds (ps := ps__law_page) fun _ _ _ _ _ _ us hl => match us, hl with | [_], _ => rfl
  have F10 := fun_mk (st := st_line_of) l10 c10 k10
  have b10 := F10.binds (ps := ps_line_of) fun _ _ _ _ _ _ us hl => match us, hl with | [_], _ => rfl
  have F11 := fun_mk (st := st_format_log) l11 c11 k11
  have b11 := F11.binds (ps := ps_format_log) fun _ _ _ _ _ _ us hl => match us, hl with | [_], _ => rfl
  have F12 := fun_mk (st := st_chart) l12 c12 k12
  have b12 := F12.binds (ps := ps_chart) fun _ _ _ _ _ _ us hl => match us, hl with | [_], _ => rfl
  have F13 := fun_mk (st := st__law_filled) l13 c13 k13
  have b13 := F13.binds (ps := ps__law_filled) fun _ _ _ _ _ _ us hl => match us, hl with | [_, _, _], _ => rfl
  have F14 := fun_mk (st := st__law_lines) l14 c14 k14
  have b14 := F14.binds (ps := ps__law_lines) fun _ _ _ _ _ _ us hl => match us, hl with | [_], _ => rfl
  have F15 := fun_mk (st := st_is_integer) l15 c15 k15
  have b15 := F15.binds (ps := ps_is_integer) fun _ _ _ _ _ _ us hl => match us, hl with | [_, _, _], _ => rfl
  have F16 := fun_mk (st := st_are_stamps) l16 c16 k16
  have b16 := F16.binds (ps := ps_are_stamps) fun _ _ _ _ _ _ us hl => match us, hl with | [_, _], _ => rfl
  have F17 := fun_mk (st := st_is_operation) l17 c17 k17
  have b17 := F17.binds (ps := ps_is_operation) fun _ _ _ _ _ _ us hl => match us, hl with | [_], _ => rfl
  have F18 := fun_mk (st := st_is_log) l18 c18 k18
  have b18 := F18.binds (ps := ps_is_log) fun _ _ _ _ _ _ us hl => match us, hl with | [_], _ => rfl
  have F19 := fun_mk (st := st_number_in) l19 c19 k19
  have b19 := F19.binds (ps := ps_number_in) fun _ _ _ _ _ _ us hl => match us, hl with | [_], _ => rfl
  have F20 := fun_mk (st := st_numbers_in) l20 c20 k20
  have b20 := F20.binds (ps := ps_numbers_in) fun _ _ _ _ _ _ us hl => match us, hl with | [_], _ => rfl
  have F21 := fun_mk (st := st_operation_in) l21 c21 k21
  have b21 := F21.binds (ps := ps_operation_in) fun _ _ _ _ _ _ us hl => match us, hl with | [_], _ => rfl
  have F22 := fun_mk (st := st_parse_log) l22 c22 k22
  have b22 := F22.binds (ps := ps_parse_log) fun _ _ _ _ _ _ us hl => match us, hl with | [_], _ => rfl
  have F23 := fun_mk (st := st__law_log_right) l23 c23 k23
  have b23 := F23.binds (ps := ps__law_log_right) fun _ _ _ _ _ _ us hl => match us, hl with | [_], _ => rfl
  have F24 := fun_mk (st := st_law) l24 c24 k24
  refine ⟨PySem.W.fnOf "law" "law" (defArgs st_law) (defBody st_law) (defScope st_law) .none kV24 dc24 pm24 an24 cd24 ct24, fun s v => .of_eq rfl, fun base _ _ => ?_⟩
  have G1 := g__law_pot (P := l.prog) (w := w) (mg := mg) (base := base) F1 (c_len := PySem.W.mg_none_of X G z_len) (c_int := PySem.W.mg_none_of X G z_int) (c_abs := PySem.W.mg_none_of X G z_abs) 
  have G2 := g__law_draw (P := l.prog) (w := w) (mg := mg) (base := base) F2 
  have G3 := g__law_mixed (P := l.prog) (w := w) (mg := mg) (base := base) F3 (G__law_draw := G2.mono (by decide)) (m__law_draw := PySem.W.mg_of X G a2) (k__law_draw := k2) (b__law_draw := b2) (c_list := PySem.W.mg_none_of X G z_list) (c_len := PySem.W.mg_none_of X G z_len) 
  have G4 := g__law_any (P := l.prog) (w := w) (mg := mg) (base := base) F4 (G__law_draw := G2.mono (by decide)) (m__law_draw := PySem.W.mg_of X G a2) (k__law_draw := k2) (b__law_draw := b2) (c_len := PySem.W.mg_none_of X G z_len) 
  have G5 := g__law_wild (P := l.prog) (w := w) (mg := mg) (base := base) F5 (G__law_draw := G2.mono (by decide)) (m__law_draw := PySem.W.mg_of X G a2) (k__law_draw := k2) (b__law_draw := b2) (G__law_mixed := G3.mono (by decide)) (m__law_mixed := PySem.W.mg_of X G a3) (k__law_mixed := k3) (b__law_mixed := b3) (G__law_any := G4.mono (by decide)) (m__law_any := PySem.W.mg_of X G a4) (k__law_any := k4) (b__law_any := b4) (c_range := PySem.W.mg_none_of X G z_range) (c_tuple := PySem.W.mg_none_of X G z_tuple) 
  have G6 := g__law_far (P := l.prog) (w := w) (mg := mg) (base := base) F6 (G__law_any := G4.mono (by decide)) (m__law_any := PySem.W.mg_of X G a4) (k__law_any := k4) (b__law_any := b4) (G__law_draw := G2.mono (by decide)) (m__law_draw := PySem.W.mg_of X G a2) (k__law_draw := k2) (b__law_draw := b2) (c_range := PySem.W.mg_none_of X G z_range) (c_tuple := PySem.W.mg_none_of X G z_tuple) (c_min := PySem.W.mg_none_of X G z_min) 
  have G7 := g__law_true (P := l.prog) (w := w) (mg := mg) (base := base) F7 (G__law_mixed := G3.mono (by decide)) (m__law_mixed := PySem.W.mg_of X G a3) (k__law_mixed := k3) (b__law_mixed := b3) (G__law_any := G4.mono (by decide)) (m__law_any := PySem.W.mg_of X G a4) (k__law_any := k4) (b__law_any := b4) (G__law_draw := G2.mono (by decide)) (m__law_draw := PySem.W.mg_of X G a2) (k__law_draw := k2) (b__law_draw := b2) (c_range := PySem.W.mg_none_of X G z_range) (c_tuple := PySem.W.mg_none_of X G z_tuple) (c_list := PySem.W.mg_none_of X G z_list) (c_min := PySem.W.mg_none_of X G z_min) (c_max := PySem.W.mg_none_of X G z_max) 
  have G8 := g__law_row (P := l.prog) (w := w) (mg := mg) (base := base) F8 (c_str := PySem.W.mg_none_of X G z_str) 
  have G9 := g__law_page (P := l.prog) (w := w) (mg := mg) (base := base) F9 (G__law_row := G8.mono (by decide)) (m__law_row := PySem.W.mg_of X G a8) (k__law_row := k8) (b__law_row := b8) 
  have G10 := g_line_of (P := l.prog) (w := w) (mg := mg) (base := base) F10 (c_BLANK := PySem.W.mg_of X G z_BLANK) (c_str := PySem.W.mg_none_of X G z_str) 
  have G11 := g_format_log (P := l.prog) (w := w) (mg := mg) (base := base) F11 (G_line_of := G10.mono (by decide)) (m_line_of := PySem.W.mg_of X G a10) (k_line_of := k10) (b_line_of := b10) (c_NOTHING := PySem.W.mg_of X G z_NOTHING) (c_FEED := PySem.W.mg_of X G z_FEED) 
  have G12 := g_chart (P := l.prog) (w := w) (mg := mg) (base := base) F12 (c_enumerate := PySem.W.mg_none_of X G z_enumerate) (c_FEED := PySem.W.mg_of X G z_FEED) 
  have G13 := g__law_filled (P := l.prog) (w := w) (mg := mg) (base := base) F13 (c_len := PySem.W.mg_none_of X G z_len) 
  have G14 := g__law_lines (P := l.prog) (w := w) (mg := mg) (base := base) F14 (G__law_filled := G13.mono (by decide)) (m__law_filled := PySem.W.mg_of X G a13) (k__law_filled := k13) (b__law_filled := b13) (c_enumerate := PySem.W.mg_none_of X G z_enumerate) (c_str := PySem.W.mg_none_of X G z_str) 
  have G15 := g_is_integer (P := l.prog) (w := w) (mg := mg) (base := base) F15 (c_isinstance := PySem.W.mg_none_of X G z_isinstance) (c_int := PySem.W.mg_none_of X G z_int) (c_bool := PySem.W.mg_none_of X G z_bool) 
  have G16 := g_are_stamps (P := l.prog) (w := w) (mg := mg) (base := base) F16 (G_is_integer := G15.mono (by decide)) (m_is_integer := PySem.W.mg_of X G a15) (k_is_integer := k15) (b_is_integer := b15) (c_MOST_STAMP := PySem.W.mg_of X G z_MOST_STAMP) 
  have G17 := g_is_operation (P := l.prog) (w := w) (mg := mg) (base := base) F17 (G_are_stamps := G16.mono (by decide)) (m_are_stamps := PySem.W.mg_of X G a16) (k_are_stamps := k16) (b_are_stamps := b16) (G_is_integer := G15.mono (by decide)) (m_is_integer := PySem.W.mg_of X G a15) (k_is_integer := k15) (b_is_integer := b15) (c_PARTS := PySem.W.mg_of X G z_PARTS) (c_isinstance := PySem.W.mg_none_of X G z_isinstance) (c_tuple := PySem.W.mg_none_of X G z_tuple) (c_len := PySem.W.mg_none_of X G z_len) (c_str := PySem.W.mg_none_of X G z_str) (c_READ := PySem.W.mg_of X G z_READ) (c_WRITE := PySem.W.mg_of X G z_WRITE) (c_MOST_VALUE := PySem.W.mg_of X G z_MOST_VALUE) (c_int := PySem.W.mg_none_of X G z_int) 
  have G18 := g_is_log (P := l.prog) (w := w) (mg := mg) (base := base) F18 (G_is_operation := G17.mono (by decide)) (m_is_operation := PySem.W.mg_of X G a17) (k_is_operation := k17) (b_is_operation := b17) (c_MOST_OPERATIONS := PySem.W.mg_of X G z_MOST_OPERATIONS) (c_all := PySem.W.mg_none_of X G z_all) (c_len := PySem.W.mg_none_of X G z_len) (c_isinstance := PySem.W.mg_none_of X G z_isinstance) (c_tuple := PySem.W.mg_none_of X G z_tuple) (c_WRITE := PySem.W.mg_of X G z_WRITE) (c_set := PySem.W.mg_none_of X G z_set) 
  have G19 := g_number_in (P := l.prog) (w := w) (mg := mg) (base := base) F19 (c_int := PySem.W.mg_none_of X G z_int) (c_MINUS := PySem.W.mg_of X G z_MINUS) (c_MOST_DIGITS := PySem.W.mg_of X G z_MOST_DIGITS) (c_all := PySem.W.mg_none_of X G z_all) (c_DIGITS := PySem.W.mg_of X G z_DIGITS) (c_len := PySem.W.mg_none_of X G z_len) 
  have G20 := g_numbers_in (P := l.prog) (w := w) (mg := mg) (base := base) F20 (G_number_in := G19.mono (by decide)) (m_number_in := PySem.W.mg_of X G a19) (k_number_in := k19) (b_number_in := b19) 
  have G21 := g_operation_in (P := l.prog) (w := w) (mg := mg) (base := base) F21 (G_numbers_in := G20.mono (by decide)) (m_numbers_in := PySem.W.mg_of X G a20) (k_numbers_in := k20) (b_numbers_in := b20) (c_BLANK := PySem.W.mg_of X G z_BLANK) (c_len := PySem.W.mg_none_of X G z_len) (c_OPERATION_PARTS := PySem.W.mg_of X G z_OPERATION_PARTS) 
  have G22 := g_parse_log (P := l.prog) (w := w) (mg := mg) (base := base) F22 (G_is_log := G18.mono (by decide)) (m_is_log := PySem.W.mg_of X G a18) (k_is_log := k18) (b_is_log := b18) (G_operation_in := G21.mono (by decide)) (m_operation_in := PySem.W.mg_of X G a21) (k_operation_in := k21) (b_operation_in := b21) (c_isinstance := PySem.W.mg_none_of X G z_isinstance) (c_str := PySem.W.mg_none_of X G z_str) (c_NOTHING := PySem.W.mg_of X G z_NOTHING) (c_tuple := PySem.W.mg_none_of X G z_tuple) (c_FEED := PySem.W.mg_of X G z_FEED) 
  have G23 := g__law_log_right (P := l.prog) (w := w) (mg := mg) (base := base) F23 (G__law_page := G9.mono (by decide)) (m__law_page := PySem.W.mg_of X G a9) (k__law_page := k9) (b__law_page := b9) (G_format_log := G11.mono (by decide)) (m_format_log := PySem.W.mg_of X G a11) (k_format_log := k11) (b_format_log := b11) (G_chart := G12.mono (by decide)) (m_chart := PySem.W.mg_of X G a12) (k_chart := k12) (b_chart := b12) (G__law_lines := G14.mono (by decide)) (m__law_lines := PySem.W.mg_of X G a14) (k__law_lines := k14) (b__law_lines := b14) (G_parse_log := G22.mono (by decide)) (m_parse_log := PySem.W.mg_of X G a22) (k_parse_log := k22) (b_parse_log := b22) (c_repr := PySem.W.mg_none_of X G z_repr) 
  exact g_law (P := l.prog) (w := w) (mg := mg) (base := base) F24 (G__law_pot := G1.mono (by decide)) (m__law_pot := PySem.W.mg_of X G a1) (k__law_pot := k1) (b__law_pot := b1) (G__law_wild := G5.mono (by decide)) (m__law_wild := PySem.W.mg_of X G a5) (k__law_wild := k5) (b__law_wild := b5) (G__law_far := G6.mono (by decide)) (m__law_far := PySem.W.mg_of X G a6) (k__law_far := k6) (b__law_far := b6) (G__law_true := G7.mono (by decide)) (m__law_true := PySem.W.mg_of X G a7) (k__law_true := k7) (b__law_true := b7) (G__law_log_right := G23.mono (by decide)) (m__law_log_right := PySem.W.mg_of X G a23) (k__law_log_right := k23) (b__law_log_right := b23) (G_format_log := G11.mono (by decide)) (m_format_log := PySem.W.mg_of X G a11) (k_format_log := k11) (b_format_log := b11) (c_range := PySem.W.mg_none_of X G z_range) (c_max := PySem.W.mg_none_of X G z_max) (c_min := PySem.W.mg_none_of X G z_min) (c_all := PySem.W.mg_none_of X G z_all) (c_len := PySem.W.mg_none_of X G z_len)
end K58
open PySem PySem.W PyProof.Rows
set_option maxHeartbeats 0 in
theorem PySem.Challenge.cw_clockslack_k58_whole_logs_written_and_re_holds : PySem.Challenge.rw_clockslack_k58_whole_logs_written_and_re.Holds := by
  w_on; o_law; k_head; (case hw => w_witness2)
  k_fill
  refine DL.walk_gfn (l := PySem.Challenge.rw_clockslack_k58_whole_logs_written_and_re) (n := 63) (k := 7) (x := ("_law_script" : Str)) (Fm := K58.s_law) rfl rfl rfl (by decide) rfl ⟨rfl, by decide, by decide⟩ (fun w h Y => PySem.W.kIn_of Y) ?F (fun ns h => K58.sem_law ns h)
  case F =>
    intro w mg fa h KX G hmg
    refine' K58.all_mk KX G hmg ?a1 ?l1 ?c1 ?k1 ?a2 ?l2 ?c2 ?k2 ?a3 ?l3 ?c3 ?k3 ?a4 ?l4 ?c4 ?k4 ?a5 ?l5 ?c5 ?k5 ?a6 ?l6 ?c6 ?k6 ?a7 ?l7 ?c7 ?k7 ?a8 ?l8 ?c8 ?k8 ?a9 ?l9 ?c9 ?k9 ?a10 ?l10 ?c10 ?k10 ?a11 ?l11 ?c11 ?k11 ?a12 ?l12 ?c12 ?k12 ?a13 ?l13 ?c13 ?k13 ?a14 ?l14 ?c14 ?k14 ?a15 ?l15 ?c15 ?k15 ?a16 ?l16 ?c16 ?k16 ?a17 ?l17 ?c17 ?k17 ?a18 ?l18 ?c18 ?k18 ?a19 ?l19 ?c19 ?k19 ?a20 ?l20 ?c20 ?k20 ?a21 ?l21 ?c21 ?k21 ?a22 ?l22 ?c22 ?k22 ?a23 ?l23 ?c23 ?k23 ?a24 ?l24 ?c24 ?k24 ?z_len ?z_int ?z_abs ?z_list ?z_range ?z_tuple ?z_min ?z_max ?z_str ?z_BLANK ?z_NOTHING ?z_FEED ?z_enumerate ?z_isinstance ?z_bool ?z_MOST_STAMP ?z_PARTS ?z_READ ?z_WRITE ?z_MOST_VALUE ?z_MOST_OPERATIONS ?z_all ?z_set ?z_MINUS ?z_MOST_DIGITS ?z_DIGITS ?z_OPERATION_PARTS ?z_repr
    (case a1 => k_is); (case l1 => k_is); (case c1 => k_is); (case k1 => k_is); (case a2 => k_is); (case l2 => k_is); (case c2 => k_is); (case k2 => k_is); (case a3 => k_is); (case l3 => k_is); (case c3 => k_is); (case k3 => k_is); (case a4 => k_is); (case l4 => k_is); (case c4 => k_is); (case k4 => k_is); (case a5 => k_is); (case l5 => k_is); (case c5 => k_is); (case k5 => k_is); (case a6 => k_is); (case l6 => k_is); (case c6 => k_is); (case k6 => k_is); (case a7 => k_is); (case l7 => k_is); (case c7 => k_is); (case k7 => k_is); (case a8 => k_is); (case l8 => k_is); (case c8 => k_is); (case k8 => k_is); (case a9 => k_is); (case l9 => k_is); (case c9 => k_is); (case k9 => k_is); (case a10 => k_is); (case l10 => k_is); (case c10 => k_is); (case k10 => k_is); (case a11 => k_is); (case l11 => k_is); (case c11 => k_is); (case k11 => k_is); (case a12 => k_is); (case l12 => k_is); (case c12 => k_is); (case k12 => k_is); (case a13 => k_is); (case l13 => k_is); (case c13 => k_is); (case k13 => k_is); (case a14 => k_is); (case l14 => k_is); (case c14 => k_is); (case k14 => k_is); (case a15 => k_is); (case l15 => k_is); (case c15 => k_is); (case k15 => k_is); (case a16 => k_is); (case l16 => k_is); (case c16 => k_is); (case k16 => k_is); (case a17 => k_is); (case l17 => k_is); (case c17 => k_is); (case k17 => k_is); (case a18 => k_is); (case l18 => k_is); (case c18 => k_is); (case k18 => k_is); (case a19 => k_is); (case l19 => k_is); (case c19 => k_is); (case k19 => k_is); (case a20 => k_is); (case l20 => k_is); (case c20 => k_is); (case k20 => k_is); (case a21 => k_is); (case l21 => k_is); (case c21 => k_is); (case k21 => k_is); (case a22 => k_is); (case l22 => k_is); (case c22 => k_is); (case k22 => k_is); (case a23 => k_is); (case l23 => k_is); (case c23 => k_is); (case k23 => k_is); (case a24 => k_is); (case l24 => k_is); (case c24 => k_is); (case k24 => k_is); (case z_len => k_is); (case z_int => k_is); (case z_abs => k_is); (case z_list => k_is); (case z_range => k_is); (case z_tuple => k_is); (case z_min => k_is); (case z_max => k_is); (case z_str => k_is); (case z_BLANK => k_is); (case z_NOTHING => k_is); (case z_FEED => k_is); (case z_enumerate => k_is); (case z_isinstance => k_is); (case z_bool => k_is); (case z_MOST_STAMP => k_is); (case z_PARTS => k_is); (case z_READ => k_is); (case z_WRITE => k_is); (case z_MOST_VALUE => k_is); (case z_MOST_OPERATIONS => k_is); (case z_all => k_is); (case z_set => k_is); (case z_MINUS => k_is); (case z_MOST_DIGITS => k_is); (case z_DIGITS => k_is); (case z_OPERATION_PARTS => k_is); (case z_repr => k_is)
