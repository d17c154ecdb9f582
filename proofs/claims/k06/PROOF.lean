import PyProof.Rows.All
import Wide.All
import OpenK.AllK
import Wide.FinOn
import PySem.Challenge.RW_clockslack_k06_values_before_others
import HandS.ForMost
import HandS.ForExc
import HandS.Wide
import HandS.Defaults
import HandS.SortInts
import HandS.TupAny
import HandS.TupMul
import HandS.Deep
import HandS.Codes
import HandS.IsInst
import HandS.RaiseMore
import HandS.WordsDict
import HandS.Style
import HandS.SetFor
import HandS.Ends
import HandS.Conv
import HandS.Strs
import PyProof.ReprRoads
import PyProof.ReprLen
import PyProof.FitsInt
import PyProof.P3Eq
import PyProof.StrLawsRepr
import PyProof.Rows.RegStrFacts
import HandS.SetBool
import HandS.DictComp
import KE.GoesEnum
import HandS.Zip
set_option Elab.async false
set_option linter.all false
set_option maxRecDepth 100000
set_option maxHeartbeats 4000000
/-! DL1: data, slots, the relation between slots and the abstract heap, how it evolves. -/
namespace DL
open PySem PySem.Spec PyProof.Rows L2

/-- a Python value as plain data -/
inductive D where
  | non | bl (b : Bool) | int (i : Int) | str (x : Str)
  | tup (xs : List D) | lst (xs : List D) | dic (ks : List Key) (vs : List D) | set (ks : List Int)
  | scr (ns : List Int) | ty (n : String)
  | obj (c : Str) (ns : List Str) (vs : List D)
/-- what an owned object holds -/
inductive Cont where
  | lst (xs : List D) | dic (ks : List Key) (vs : List D)
def Cont.toD : Cont → D
  | .lst xs => .lst xs
  | .dic ks vs => .dic ks vs
/-- own: made here; bor: lent by the caller; lck: read only for now -/
inductive Md where
  | own | bor | lck
  deriving DecidableEq
inductive Slot where
  | un | d (x : D) | ow (c : Cont) (m : Md)
abbrev DEnv := List Slot
/-- what an expression gives: data; a fresh object; the object of a slot -/
inductive Val where
  | d (x : D) | fr (c : Cont) | sl (i : Nat)
/-- an exception of a class of the program -/
structure Ex where
  c : Str
  ns : List Str
  vs : List D
inductive R (α : Type) where
  | ok (a : α) (ρ : DEnv) | ex (x : Ex) (ρ : DEnv) | bad
def R.bind {α β : Type} (r : R α) (g : α → DEnv → R β) : R β := match r with
  | .ok a ρ => g a ρ
  | .ex x ρ => .ex x ρ
  | .bad => .bad
abbrev M (α : Type) := DEnv → R α
abbrev EM := M Val

section
variable (K : PySem.W.Frag) (F : Hp)
mutual
inductive Rep : V → D → Prop
  | non : Rep .non .non
  | bl (b : Bool) : Rep (.bl b) (.bl b)
  | int (i : Int) : Rep (.int i) (.int i)
  | str (x : Str) : Rep (.str x) (.str x)
  | lst {a : Addr} {xs : List V} {ds : List D} : F a = some (.lst xs) → RepL xs ds → Rep (.ref a) (.lst ds)
  | tup {a : Addr} {xs : List V} {ds : List D} : SqT K F a xs → RepL xs ds → Rep (.ref a) (.tup ds)
  | dic {a : Addr} {o : Obj} {ks : List Key} {xs : List V} {ds : List D} : F a = some (.frz o (.dK (ks.zip xs))) → ks.length = xs.length → RepL xs ds → Rep (.ref a) (.dic ks ds)
  | scr {a : Addr} {ns : List Int} : SqL K F a (ns.map V.int) → Rep (.ref a) (.scr ns)
  | ty (n : String) : Rep (.ty n) (.ty n)
inductive RepL : List V → List D → Prop
  | nil : RepL [] []
  | cons {v : V} {vs : List V} {d : D} {ds : List D} : Rep v d → RepL vs ds → RepL (v :: vs) (d :: ds)
end
end

structure RdLe (F F' : Hp) : Prop where
  «1» : ∀ a xs, F a = some (.lst xs) → F' a = some (.lst xs)
  «2» : ∀ a u, Rd F a u → Rd F' a u
  fr : ∀ a o u, F a = some (.frz o u) → F' a = some (.frz o u)
theorem RdLe.of {F F' : Hp} (h : Same F F') : RdLe F F' := ⟨fun a xs e => h a _ e, fun a u e => by
  rcases e with e | ⟨o, e⟩
  · exact .inl (h _ _ e)
  · exact .inr ⟨o, h _ _ e⟩, fun a o u e => h a _ e⟩
theorem RdLe.sqT {K : PySem.W.Frag} {F F' : Hp} (h : RdLe F F') {a : Addr} {xs : List V} (s : SqT K F a xs) : SqT K F' a xs := by
  rcases s with s | s
  · exact .inl (h.2 _ _ s)
  · exact .inr s
theorem RdLe.sqL {K : PySem.W.Frag} {F F' : Hp} (h : RdLe F F') {a : Addr} {xs : List V} (s : SqL K F a xs) : SqL K F' a xs := by
  rcases s with s | s
  · exact .inl (h.2 _ _ s)
  · exact .inr s
section
variable {K : PySem.W.Frag} {F F' : Hp}
mutual
theorem Rep.mono (h : RdLe F F') : ∀ {v : V} {d : D}, Rep K F v d → Rep K F' v d
  | _, _, .non => .non
  | _, _, .bl b => .bl b
  | _, _, .int i => .int i
  | _, _, .str x => .str x
  | _, _, .lst e r => .lst (h.1 _ _ e) (RepL.mono h r)
  | _, _, .tup e r => .tup (h.sqT e) (RepL.mono h r)
  | _, _, .dic e l r => .dic (h.fr _ _ _ e) l (RepL.mono h r)
  | _, _, .scr e => .scr (h.sqL e)
  | _, _, .ty n => .ty n
theorem RepL.mono (h : RdLe F F') : ∀ {v : List V} {d : List D}, RepL K F v d → RepL K F' v d
  | _, _, .nil => .nil
  | _, _, .cons a b => .cons (Rep.mono h a) (RepL.mono h b)
end
theorem RepL.length : ∀ {vs : List V} {ds : List D}, RepL K F vs ds → vs.length = ds.length
  | _, _, .nil => rfl
  | _, _, .cons _ b => congrArg (· + 1) (RepL.length b)
theorem RepL.app : ∀ {vs us : List V} {ds es : List D}, RepL K F vs ds → RepL K F us es → RepL K F (vs ++ us) (ds ++ es)
  | _, _, _, _, .nil, r => r
  | _, _, _, _, .cons a b, r => .cons a (RepL.app b r)
theorem RepL.one {v : V} {d : D} (h : Rep K F v d) : RepL K F [v] [d] := .cons h .nil
theorem RepL.get : ∀ {vs : List V} {ds : List D} {i : Nat} {d : D}, RepL K F vs ds → ds[i]? = some d → ∃ v, vs[i]? = some v ∧ Rep K F v d
  | _, _, _, _, .nil, e => by simp at e
  | _, _, 0, _, .cons a b, e => by simp at e; subst e; exact ⟨_, rfl, a⟩
  | _, _, i + 1, d, .cons a b, e => by
    obtain ⟨v, h1, h2⟩ := RepL.get (i := i) (d := d) b (by simpa using e)
    exact ⟨v, by simpa using h1, h2⟩
theorem RepL.getV : ∀ {vs : List V} {ds : List D} {i : Nat} {v : V}, RepL K F vs ds → vs[i]? = some v → ∃ d, ds[i]? = some d ∧ Rep K F v d
  | _, _, _, _, .nil, e => by simp at e
  | _, _, 0, _, .cons a b, e => by simp at e; subst e; exact ⟨_, rfl, a⟩
  | _, _, i + 1, v, .cons a b, e => by
    obtain ⟨d, h1, h2⟩ := RepL.getV (i := i) (v := v) b (by simpa using e)
    exact ⟨d, by simpa using h1, h2⟩
theorem RepL.set {v : V} {d : D} (h : Rep K F v d) : ∀ {vs : List V} {ds : List D} (i : Nat), RepL K F vs ds → RepL K F (vs.set i v) (ds.set i d)
  | _, _, _, .nil => .nil
  | _, _, 0, .cons a b => .cons h b
  | _, _, i + 1, .cons a b => .cons a (RepL.set h i b)
theorem RepL.take : ∀ {vs : List V} {ds : List D} (n : Nat), RepL K F vs ds → RepL K F (vs.take n) (ds.take n)
  | _, _, 0, _ => .nil
  | _, _, _ + 1, .nil => .nil
  | _, _, n + 1, .cons a b => .cons a (RepL.take n b)
theorem RepL.drop : ∀ {vs : List V} {ds : List D} (n : Nat), RepL K F vs ds → RepL K F (vs.drop n) (ds.drop n)
  | _, _, 0, r => r
  | _, _, _ + 1, .nil => .nil
  | _, _, n + 1, .cons a b => RepL.drop n b
theorem RepL.eraseIdx : ∀ {vs : List V} {ds : List D} (n : Nat), RepL K F vs ds → RepL K F (vs.eraseIdx n) (ds.eraseIdx n)
  | _, _, _, .nil => .nil
  | _, _, 0, .cons a b => b
  | _, _, n + 1, .cons a b => .cons a (RepL.eraseIdx n b)
theorem RepL.reverse : ∀ {vs : List V} {ds : List D}, RepL K F vs ds → RepL K F vs.reverse ds.reverse
  | _, _, .nil => .nil
  | _, _, .cons a b => by
    rw [List.reverse_cons, List.reverse_cons]
    exact (RepL.reverse b).app (.one a)
theorem RepL.ints : ∀ {ns : List Int}, RepL K F (ns.map V.int) (ns.map D.int)
  | [] => .nil
  | n :: ns => .cons (.int n) (RepL.ints (ns := ns))
theorem RepL.intsV : ∀ {vs : List V} {ns : List Int}, RepL K F vs (ns.map D.int) → vs = ns.map V.int
  | _, [], .nil => rfl
  | _, n :: ns, .cons a b => by
    cases a
    rw [RepL.intsV b]
    rfl
theorem RepL.flatten : ∀ {vs : List V} {ds : List D} (n : Nat), RepL K F vs ds → RepL K F (List.replicate n vs).flatten (List.replicate n ds).flatten
  | _, _, 0, _ => .nil
  | _, _, n + 1, r => by
    rw [List.replicate_succ, List.replicate_succ, List.flatten_cons, List.flatten_cons]
    exact r.app (RepL.flatten n r)
end

/-- the owned object at a holds c, its parts frozen in F -/
def CRep (K : PySem.W.Frag) (F H : Hp) (a : Addr) : Cont → Prop
  | .lst ds => ∃ vs, H a = some (.lst vs) ∧ RepL K F vs ds
  | .dic ks ds => ∃ vs, H a = some (.dK (ks.zip vs)) ∧ ks.length = vs.length ∧ RepL K F vs ds
theorem CRep.mono {K : PySem.W.Frag} {F F' H H' : Hp} {a : Addr} (hF : RdLe F F') (hH : H' a = H a) : ∀ {c : Cont}, CRep K F H a c → CRep K F' H' a c
  | .lst ds, ⟨vs, e, r⟩ => ⟨vs, hH.trans e, r.mono hF⟩
  | .dic ks ds, ⟨vs, e, l, r⟩ => ⟨vs, hH.trans e, l, r.mono hF⟩
theorem CRep.some {K : PySem.W.Frag} {F H : Hp} {a : Addr} : ∀ {c : Cont}, CRep K F H a c → ∃ o, H a = some o
  | .lst ds, ⟨vs, e, r⟩ => ⟨_, e⟩
  | .dic ks ds, ⟨vs, e, l, r⟩ => ⟨_, e⟩
/-- frozen, it is data -/
def Cont.isL : Cont → Bool
  | .lst _ => true
  | .dic _ _ => false
/-- the object under which it is frozen: a dict is locked, too -/
def FrzO (c : Cont) (o o' : HO) : Prop := match c with
  | .lst _ => o' = o
  | .dic _ _ => ∃ od, o' = .frz od o
theorem CRep.rep {K : PySem.W.Frag} {F F' H : Hp} {a : Addr} {o o' : HO} (hF : RdLe F F') (ho : H a = Option.some o) (hH : F' a = Option.some o') : ∀ {c : Cont}, FrzO c o o' → CRep K F H a c → Rep K F' (.ref a) c.toD
  | .lst ds, z, ⟨vs, e, r⟩ => by
    obtain rfl : o' = o := z
    rw [ho] at e; cases e
    exact .lst hH (r.mono hF)
  | .dic ks ds, z, ⟨vs, e, l, r⟩ => by
    obtain ⟨od, rfl⟩ := z
    rw [ho] at e; cases e
    exact .dic hH l (r.mono hF)

def SlotR (K : PySem.W.Frag) (F H : Hp) (ov : Option V) : Slot → Prop
  | .un => True
  | .d x => ∃ v, ov = some v ∧ Rep K F v x
  | .ow c _ => ∃ a, ov = some (.ref a) ∧ F a = none ∧ CRep K F H a c
/-- a slot owns the object at a -/
def Ow (σ : L2.St) (ρ : DEnv) (a : Addr) : Prop := ∃ (i : Nat) (c : Cont) (m : Md), ρ[i]? = some (Slot.ow c m) ∧ σ[i]? = some (some (V.ref a))
/-- .. and may change it -/
def Mt (σ : L2.St) (ρ : DEnv) (a : Addr) : Prop := ∃ (i : Nat) (c : Cont) (m : Md), ρ[i]? = some (Slot.ow c m) ∧ m ≠ Md.lck ∧ σ[i]? = some (some (V.ref a))
theorem Mt.ow {σ : L2.St} {ρ : DEnv} {a : Addr} : Mt σ ρ a → Ow σ ρ a := fun ⟨i, c, m, h, _, q⟩ => ⟨i, c, m, h, q⟩
structure SR (K : PySem.W.Frag) (F H : Hp) (σ : L2.St) (ρ : DEnv) : Prop where
  len : σ.length = ρ.length
  sub : Same F H
  slot : ∀ (i : Nat) (s : Slot), ρ[i]? = some s → ∃ ov, σ[i]? = some ov ∧ SlotR K F H ov s
  dist : ∀ (i j : Nat) (c : Cont) (m : Md) (c' : Cont) (m' : Md) (a : Addr), ρ[i]? = some (.ow c m) → ρ[j]? = some (.ow c' m') → σ[i]? = some (some (.ref a)) → σ[j]? = some (some (.ref a)) → i = j

/-- from (σ, ρ, F, H) to (σ', ρ', F', H') -/
structure Ev (σ : L2.St) (ρ : DEnv) (F H : Hp) (σ' : L2.St) (ρ' : DEnv) (F' H' : Hp) : Prop where
  ext : Same F F'
  keep : ∀ a o, H a = some o → ¬ Mt σ ρ a → H' a = some o
  newF : ∀ a, F a = none → F' a ≠ none → H a = none ∨ Ow σ ρ a
  dom : ∀ a, H a ≠ none → H' a ≠ none
  bor : ∀ (i : Nat) (c : Cont) (m : Md), ρ[i]? = some (.ow c m) → m ≠ .own → σ'[i]? = σ[i]? ∧ ∃ c' : Cont, ρ'[i]? = some (.ow c' m) ∧ (m = .lck → c' = c)
  own' : ∀ a, Ow σ' ρ' a → H a = none ∨ Ow σ ρ a
  mt' : ∀ a, Mt σ' ρ' a → H a = none ∨ Mt σ ρ a
section
variable {σ σ1 σ2 : L2.St} {ρ ρ1 ρ2 : DEnv} {F F1 F2 H H1 H2 : Hp}
theorem Ev.refl : Ev σ ρ F H σ ρ F H := ⟨Same.refl _, fun _ _ e _ => e, fun _ e n => absurd e n, fun _ h => h, fun i c m e _ => ⟨rfl, c, e, fun _ => rfl⟩, fun _ h => .inr h, fun _ h => .inr h⟩
theorem Ev.trans (a : Ev σ ρ F H σ1 ρ1 F1 H1) (b : Ev σ1 ρ1 F1 H1 σ2 ρ2 F2 H2) : Ev σ ρ F H σ2 ρ2 F2 H2 where
  ext := a.ext.trans b.ext
  keep := fun x o e n => by
    refine b.keep x o (a.keep x o e n) fun m => ?_
    rcases a.mt' x m with z | z
    · rw [e] at z; cases z
    · exact n z
  newF := fun x e n => by
    by_cases q : F1 x = none
    · rcases b.newF x q n with z | z
      · cases hx : H x with
        | none => exact .inl rfl
        | some o => exact absurd z (a.dom x (by rw [hx]; simp))
      · exact a.own' x z
    · exact a.newF x e q
  dom := fun x h => b.dom x (a.dom x h)
  bor := fun i c m e hm => by
    obtain ⟨s1, c1, r1, l1⟩ := a.bor i c m e hm
    obtain ⟨s2, c2, r2, l2⟩ := b.bor i c1 m r1 hm
    exact ⟨s2.trans s1, c2, r2, fun z => (l2 z).trans (l1 z)⟩
  own' := fun x h => by
    rcases b.own' x h with z | z
    · cases hx : H x with
      | none => exact .inl rfl
      | some o => exact absurd z (a.dom x (by rw [hx]; simp))
    · exact a.own' x z
  mt' := fun x h => by
    rcases b.mt' x h with z | z
    · cases hx : H x with
      | none => exact .inl rfl
      | some o => exact absurd z (a.dom x (by rw [hx]; simp))
    · exact a.mt' x z
end

/-- only new objects: of the abstract heap, of its frozen part -/
structure Gr (F H F' H' : Hp) : Prop where
  ext : Same F F'
  all : Same H H'
  sub : Same F' H'
  newF : ∀ a, F a = none → F' a ≠ none → H a = none
theorem Gr.refl {F H : Hp} (h : Same F H) : Gr F H F H := ⟨Same.refl _, Same.refl _, h, fun _ e n => absurd e n⟩
theorem Gr.trans {F H F1 H1 F2 H2 : Hp} (a : Gr F H F1 H1) (b : Gr F1 H1 F2 H2) : Gr F H F2 H2 := ⟨a.ext.trans b.ext, a.all.trans b.all, b.sub, fun x e n => by
  by_cases q : F1 x = none
  · exact Same.free a.all (b.newF x q n)
  · exact a.newF x e q⟩
section
variable {K : PySem.W.Frag} {σ : L2.St} {ρ : DEnv} {F H F' H' : Hp}
theorem Gr.sr (g : Gr F H F' H') (s : SR K F H σ ρ) : SR K F' H' σ ρ := by
  refine ⟨s.len, g.sub, fun i sl e => ?_, s.dist⟩
  obtain ⟨ov, h1, h2⟩ := s.slot i sl e
  refine ⟨ov, h1, ?_⟩
  cases sl with
  | un => trivial
  | d x => obtain ⟨v, q, r⟩ := h2; exact ⟨v, q, r.mono (.of g.ext)⟩
  | ow c m =>
    obtain ⟨a, q, fn, r⟩ := h2
    obtain ⟨o, ho⟩ := r.some
    refine ⟨a, q, ?_, r.mono (.of g.ext) ((g.all _ _ ho).trans ho.symm)⟩
    cases hF : F' a with
    | none => rfl
    | some u =>
      have z := g.newF a fn (by rw [hF]; simp)
      rw [ho] at z
      cases z
theorem Gr.ev (g : Gr F H F' H') : Ev σ ρ F H σ ρ F' H' := ⟨g.ext, fun a o e _ => g.all a o e, fun a e n => .inl (g.newF a e n), fun a h => by
  cases q : H a with
  | none => exact absurd q h
  | some o => rw [g.all a o q]; simp, fun i c m e _ => ⟨rfl, c, e, fun _ => rfl⟩, fun _ h => .inr h, fun _ h => .inr h⟩
/-- a new object, not frozen -/
theorem Gr.fresh {p : Addr} {o : HO} (h : Same F H) (n : H p = none) : Gr F H F (upd H p o) := ⟨Same.refl _, fun b u e => by rw [upd_ne (ne_of_none e n)]; exact e, fun b u e => by rw [upd_ne (ne_of_none (h _ _ e) n)]; exact h _ _ e, fun _ e z => absurd e z⟩
/-- a new object, frozen -/
theorem Gr.froz {p : Addr} {o : HO} (h : Same F H) (n : H p = none) : Gr F H (upd F p o) (upd H p o) := by
  have nF : F p = none := Same.free h n
  refine ⟨fun b u e => by rw [upd_ne (ne_of_none e nF)]; exact e, fun b u e => by rw [upd_ne (ne_of_none e n)]; exact e, fun b u e => ?_, fun b e z => ?_⟩
  · by_cases q : b = p
    · subst q; rw [upd_same] at e ⊢; exact e
    · rw [upd_ne q] at e ⊢; exact h _ _ e
  · by_cases q : b = p
    · subst q; exact n
    · rw [upd_ne q] at z; exact absurd e z
end

/-- the value v is x; Hb: the heap where the evaluation began -/
def VR (K : PySem.W.Frag) (σ : L2.St) (Hb F H : Hp) (ρ : DEnv) (v : V) : Val → Prop
  | .d x => Rep K F v x
  | .fr c => ∃ p, v = .ref p ∧ Hb p = none ∧ F p = none ∧ CRep K F H p c ∧ ¬ Ow σ ρ p
  | .sl i => σ[i]? = some (some v)
section
variable {K : PySem.W.Frag} {σ : L2.St} {ρ ρ' : DEnv} {Hb Hb' F H F' H' : Hp}
theorem VR.ev {v : V} {x : Val} (h : VR K σ Hb F H ρ v x) (ev : Ev σ ρ F H σ ρ' F' H') : VR K σ Hb F' H' ρ' v x := by
  cases x with
  | d x => exact Rep.mono (.of ev.ext) h
  | sl i => exact h
  | fr c =>
    obtain ⟨p, e, nb, nF, cr, no⟩ := h
    obtain ⟨o, ho⟩ := cr.some
    have nn : ¬ H p = none := fun z => by rw [ho] at z; cases z
    refine ⟨p, e, nb, ?_, cr.mono (.of ev.ext) ((ev.keep p o ho fun m => no m.ow).trans ho.symm), fun z => (ev.own' p z).elim nn no⟩
    cases hF : F' p with
    | none => rfl
    | some u => exact ((ev.newF p nF (by rw [hF]; simp)).elim nn no).elim
theorem VR.base {v : V} {x : Val} (h : VR K σ Hb F H ρ v x) (d : ∀ a, Hb' a ≠ none → Hb a ≠ none) : VR K σ Hb' F H ρ v x := by
  cases x with
  | d x => exact h
  | sl i => exact h
  | fr c =>
    obtain ⟨p, e, nb, r⟩ := h
    refine ⟨p, e, ?_, r⟩
    cases q : Hb' p with
    | none => rfl
    | some u => exact absurd nb (d p (by rw [q]; simp))
end
structure VRL (K : PySem.W.Frag) (σ : L2.St) (Hb F H : Hp) (ρ : DEnv) (vs : List V) (xs : List Val) : Prop where
  all : Paired (VR K σ Hb F H ρ) vs xs
  frs : ∀ (i j : Nat) (c c' : Cont) (p : Addr), xs[i]? = some (.fr c) → xs[j]? = some (.fr c') → vs[i]? = some (.ref p) → vs[j]? = some (.ref p) → i = j

/-- an exception, as what HandS tells of it -/
def XR (K : PySem.W.Frag) (mg : Str → Option Value) (F : Hp) (x : Ex) (cls : Value) (dd : Option Addr) : Prop :=
  mg x.c = some cls ∧ ∃ d vs, dd = some d ∧ F d = some (.xd (x.ns.zip vs)) ∧ x.ns.length = vs.length ∧ RepL K F vs x.vs

section
variable {α β γ δ : Type}
/-- how results lie -/
abbrev RelT (β α : Type) := Hp → Hp → Hp → DEnv → β → α → Prop
def Out (K : PySem.W.Frag) (mg : Str → Option Value) (E : XK) (rel : RelT β α) (σ : L2.St) (ρ : DEnv) (F H : Hp) (r : R α) (Q : β → Hp → Prop) : Prop :=
  match r with
  | .ok x ρ' => ∀ v F' H', SR K F' H' σ ρ' → Ev σ ρ F H σ ρ' F' H' → rel H F' H' ρ' v x → Q v H'
  | .ex x ρ' => ∀ cls dd F' H', SR K F' H' σ ρ' → Ev σ ρ F H σ ρ' F' H' → XR K mg F' x cls dd → E cls dd H'
  | .bad => False
variable {K : PySem.W.Frag} {mg : Str → Option Value} {E : XK} {rel : RelT β α} {rel2 : RelT δ γ} {σ : L2.St} {ρ ρ1 : DEnv} {F H F1 H1 : Hp}
theorem Out.bind {r : R α} {g : α → DEnv → R γ} {Q : δ → Hp → Prop} (h : Out K mg E rel2 σ ρ F H (r.bind g) Q) :
    Out K mg E rel σ ρ F H r (fun v H1 => ∃ x F1 ρ1, r = .ok x ρ1 ∧ SR K F1 H1 σ ρ1 ∧ Ev σ ρ F H σ ρ1 F1 H1 ∧ rel H F1 H1 ρ1 v x ∧ Out K mg E rel2 σ ρ F H (g x ρ1) Q) := by
  cases r with
  | ok x ρ' => exact fun v F' H' s e r => ⟨x, F', ρ', rfl, s, e, r, h⟩
  | ex x ρ' => exact h
  | bad => exact h
theorem Out.from {r : R α} {Q : β → Hp → Prop} (h : Out K mg E rel σ ρ F H r Q) (ev : Ev σ ρ F H σ ρ1 F1 H1) (hrel : ∀ F' H' ρ' v x, rel H1 F' H' ρ' v x → rel H F' H' ρ' v x) : Out K mg E rel σ ρ1 F1 H1 r Q := by
  cases r with
  | ok x ρ' => exact fun v F' H' s e r => h v F' H' s (ev.trans e) (hrel _ _ _ _ _ r)
  | ex x ρ' => exact fun c d F' H' s e r => h c d F' H' s (ev.trans e) r
  | bad => exact h
theorem Out.mono {r : R α} {Q Q' : β → Hp → Prop} (h : Out K mg E rel σ ρ F H r Q) (hQ : ∀ v H', Q v H' → Q' v H') : Out K mg E rel σ ρ F H r Q' := by
  cases r with
  | ok x ρ' => exact fun v F' H' s e r => hQ _ _ (h v F' H' s e r)
  | ex x ρ' => exact h
  | bad => exact h
end
def relV (K : PySem.W.Frag) (σ : L2.St) : RelT V Val := fun Hb F H ρ v x => VR K σ Hb F H ρ v x
def relL (K : PySem.W.Frag) (σ : L2.St) : RelT (List V) (List Val) := fun Hb F H ρ v x => VRL K σ Hb F H ρ v x
def relB : RelT Bool Bool := fun _ _ _ _ v x => v = x

/-- an expression's reading, by a function of the slots -/
def tD (K : PySem.W.Frag) (mg : Str → Option Value) (W : WX) (f : EM) : TE := fun σ H Q => ∃ F ρ, SR K F H σ ρ ∧ Out K mg (fun c d H => W c d σ H) (relV K σ) σ ρ F H (f ρ) Q
def tT (K : PySem.W.Frag) (mg : Str → Option Value) (W : WX) (f : M Bool) : TT := fun σ H Q => ∃ F ρ, SR K F H σ ρ ∧ Out K mg (fun c d H => W c d σ H) relB σ ρ F H (f ρ) Q
def tA (K : PySem.W.Frag) (mg : Str → Option Value) (W : WX) (f : M (List Val)) : TA := fun σ H Q => ∃ F ρ, SR K F H σ ρ ∧ Out K mg (fun c d H => W c d σ H) (relL K σ) σ ρ F H (f ρ) Q
/-- THE JUDGEMENTS -/
def DE (X : Cx) (E : WX) (e : Expr) (f : EM) : Prop := PE X e (tD X.K X.mg E f)
def DT (X : Cx) (E : WX) (e : Expr) (f : M Bool) : Prop := PT X e (tT X.K X.mg E f)
def DW (X : Cx) (E : WX) (e : Expr) (f : M Bool) : Prop := PW X e (tT X.K X.mg E f)
def DA (X : Cx) (E : WX) (es : List Expr) (f : M (List Val)) : Prop := PA X es (tA X.K X.mg E f)
theorem pe_conseq {X : Cx} {e : Expr} {t t' : TE} (h : PE X e t) (c : ∀ σ H Q, t' σ H Q → t σ H Q) : PE X e t' := ⟨fun pins s σ H Q I q => h.run pins s σ H Q I (c _ _ _ q)⟩
theorem pt_conseq {X : Cx} {e : Expr} {t t' : TT} (h : PT X e t) (c : ∀ σ H Q, t' σ H Q → t σ H Q) : PT X e t' := ⟨fun pins s σ H Q I q => h.run pins s σ H Q I (c _ _ _ q)⟩
theorem pw_conseq {X : Cx} {e : Expr} {t t' : TT} (h : PW X e t) (c : ∀ σ H Q, t' σ H Q → t σ H Q) : PW X e t' := ⟨fun w pins s σ H Q I q => h.run w pins s σ H Q I (c _ _ _ q)⟩
theorem pa_conseq {X : Cx} {es : List Expr} {t t' : TA} (h : PA X es t) (c : ∀ σ H Q, t' σ H Q → t σ H Q) : PA X es t' := ⟨fun pos pins s σ H Q I q => h.run pos pins s σ H Q I (c _ _ _ q)⟩
/-- by several readings: each state may choose -/
theorem pe_any {X : Cx} {e : Expr} {ι : Type} {t : ι → TE} (h : ∀ i, PE X e (t i)) : PE X e (fun σ H Q => ∃ i, t i σ H Q) := ⟨fun pins s σ H Q I ⟨i, q⟩ => (h i).run pins s σ H Q I q⟩
theorem pe_or2 {X : Cx} {e : Expr} {t u : TE} (h : PE X e t) (h' : PE X e u) : PE X e (fun σ H Q => t σ H Q ∨ u σ H Q) := ⟨fun pins s σ H Q I q => q.elim (h.run pins s σ H Q I) (h'.run pins s σ H Q I)⟩

/-! ### reading a value without freezing it -/
def Slot.peek : Slot → Option D
  | .un => none
  | .d x => some x
  | .ow c _ => some c.toD
def Val.peek (ρ : DEnv) : Val → Option D
  | .d x => some x
  | .fr c => some c.toD
  | .sl i => match ρ[i]? with
    | some s => s.peek
    | none => none
/-- data whose top may lie in H alone -/
def RepT (K : PySem.W.Frag) (F H : Hp) (v : V) : D → Prop
  | .lst ds => ∃ a xs, v = .ref a ∧ H a = some (.lst xs) ∧ RepL K F xs ds
  | .dic ks ds => ∃ a xs, v = .ref a ∧ Rd H a (.dK (ks.zip xs)) ∧ ks.length = xs.length ∧ RepL K F xs ds
  | d => Rep K F v d
section
variable {K : PySem.W.Frag} {σ : L2.St} {ρ : DEnv} {Hb F H : Hp} {v : V}
theorem Rep.top {d : D} (s : Same F H) (h : Rep K F v d) : RepT K F H v d := by
  cases h with
  | lst e r => exact ⟨_, _, rfl, s _ _ e, r⟩
  | dic e l r => exact ⟨_, _, rfl, .inr ⟨_, s _ _ e⟩, l, r⟩
  | non => exact .non
  | bl b => exact .bl b
  | int i => exact .int i
  | str x => exact .str x
  | tup e r => exact .tup e r
  | scr e => exact .scr e
  | ty n => exact .ty n
theorem CRep.top {a : Addr} {c : Cont} (h : CRep K F H a c) : RepT K F H (.ref a) c.toD := by
  cases c with
  | lst ds => obtain ⟨vs, e, r⟩ := h; exact ⟨_, _, rfl, e, r⟩
  | dic ks ds => obtain ⟨vs, e, l, r⟩ := h; exact ⟨_, _, rfl, .inl e, l, r⟩
theorem RepT.rep {d : D} (nd : ∀ ks vs, d ≠ .dic ks vs) (s : Same F H) (h : RepT K F H v d) : Rep K H v d := by
  cases d with
  | lst ds => obtain ⟨a, xs, rfl, e, r⟩ := h; exact .lst e (r.mono (.of s))
  | dic ks ds => exact absurd rfl (nd ks ds)
  | non => exact Rep.mono (.of s) h
  | bl _ => exact Rep.mono (.of s) h
  | int _ => exact Rep.mono (.of s) h
  | str _ => exact Rep.mono (.of s) h
  | tup _ => exact Rep.mono (.of s) h
  | set _ => exact Rep.mono (.of s) h
  | scr _ => exact Rep.mono (.of s) h
  | ty _ => exact Rep.mono (.of s) h
  | obj _ _ _ => exact Rep.mono (.of s) h
theorem SlotR.peek {s : Slot} {d : D} (sub : Same F H) (h : SlotR K F H (some v) s) (e : s.peek = some d) : RepT K F H v d := by
  cases s with
  | un => cases e
  | d x =>
    cases e
    obtain ⟨u, q, r⟩ := h
    cases q
    exact r.top sub
  | ow c m =>
    cases e
    obtain ⟨a, q, _, r⟩ := h
    cases q
    exact r.top
theorem VR.peek {x : Val} {d : D} (sr : SR K F H σ ρ) (h : VR K σ Hb F H ρ v x) (e : x.peek ρ = some d) : RepT K F H v d := by
  cases x with
  | d x => cases e; exact Rep.top sr.sub h
  | fr c =>
    cases e
    obtain ⟨p, rfl, _, _, r, _⟩ := h
    exact r.top
  | sl i =>
    have h : σ[i]? = some (some v) := h
    unfold Val.peek at e
    dsimp only at e
    cases q : ρ[i]? with
    | none => rw [q] at e; cases e
    | some s =>
      rw [q] at e
      obtain ⟨ov, h1, h2⟩ := sr.slot i s q
      rw [h] at h1
      cases h1
      exact h2.peek sr.sub e
end

/-! ### freezing -/
def Val.fzA (x : Val) (ρ : DEnv) : R Val := match x with
  | .d x => .ok (.d x) ρ
  | .fr c => .ok (.d c.toD) ρ
  | .sl i => match ρ[i]? with
    | some (.d x) => .ok (.d x) ρ
    | some (.ow c .own) => .ok (.d c.toD) (ρ.set i (.d c.toD))
    | _ => .bad
/-- the same for lists alone (a dict is locked when it is frozen: that takes a step of its own) -/
def Val.fz (x : Val) (ρ : DEnv) : R Val := match x with
  | .d x => .ok (.d x) ρ
  | .fr (.lst ds) => .ok (.d (.lst ds)) ρ
  | .fr (.dic _ _) => .bad
  | .sl i => match ρ[i]? with
    | some (.d x) => .ok (.d x) ρ
    | some (.ow (.lst ds) .own) => .ok (.d (.lst ds)) (ρ.set i (.d (.lst ds)))
    | _ => .bad
def fz (f : EM) : EM := fun ρ => (f ρ).bind Val.fzA
end DL
/-! DL2: expressions. -/
namespace DL
open PySem PySem.Spec PyProof.Rows L2

theorem ow_set_d {σ : L2.St} {ρ : DEnv} {i : Nat} {x : D} {a : Addr} (h : Ow σ (ρ.set i (.d x)) a) : Ow σ ρ a := by
  obtain ⟨j, c, m, e, q⟩ := h
  by_cases hj : i = j
  · subst hj
    by_cases hl : i < ρ.length
    · rw [List.getElem?_set_self hl] at e; cases e
    · rw [List.getElem?_eq_none (by simpa using hl)] at e; cases e
  · rw [List.getElem?_set_ne hj] at e
    exact ⟨j, c, m, e, q⟩
theorem mt_set_d {σ : L2.St} {ρ : DEnv} {i : Nat} {x : D} {a : Addr} (h : Mt σ (ρ.set i (.d x)) a) : Mt σ ρ a := by
  obtain ⟨j, c, m, e, n, q⟩ := h
  by_cases hj : i = j
  · subst hj
    by_cases hl : i < ρ.length
    · rw [List.getElem?_set_self hl] at e; cases e
    · rw [List.getElem?_eq_none (by simpa using hl)] at e; cases e
  · rw [List.getElem?_set_ne hj] at e
    exact ⟨j, c, m, e, n, q⟩
section
variable {K : PySem.W.Frag} {σ σb : L2.St} {ρ ρb ρ2 : DEnv} {Hb Fb F H : Hp} {v : V} {x y : Val}
/-- an object at p goes into the frozen part -/
theorem froz_sub {p : Addr} {o : HO} (s : Same F H) (e : H p = some o) : Same (upd F p o) H := fun b u q => by
  by_cases z : b = p
  · subst z; rw [upd_same] at q; cases q; exact e
  · rw [upd_ne z] at q; exact s _ _ q
theorem froz_ext {p : Addr} {o : HO} (n : F p = none) : Same F (upd F p o) := fun b u q => by rw [upd_ne (ne_of_none q n)]; exact q
theorem fzA_ok (sr : SR K F H σ ρ) (ev : Ev σb ρb Fb Hb σ ρ F H) (h : VR K σ Hb F H ρ v x) (e : x.fzA ρ = .ok y ρ2) :
    (∃ d, y = .d d ∧ ρ2 = ρ ∧ Rep K F v d) ∨ ∃ a c o, v = .ref a ∧ y = .d c.toD ∧ H a = some o ∧ CRep K F H a c ∧
      (∀ o', FrzO c o o' → SR K (upd F a o') (upd H a o') σ ρ2 ∧ Ev σb ρb Fb Hb σ ρ2 (upd F a o') (upd H a o') ∧ Rep K (upd F a o') v c.toD) := by
  have ext : ∀ {a : Addr} {o o' : HO} {c : Cont}, F a = none → Same F (upd F a o') := fun {a o o' c} n => froz_ext n
  have sub : ∀ {a : Addr} {o' : HO}, Same (upd F a o') (upd H a o') := fun {a o'} b u q => by
    by_cases z : b = a
    · subst z; rw [upd_same] at q ⊢; exact q
    · rw [upd_ne z] at q ⊢; exact sr.sub _ _ q
  cases x with
  | d x => cases e; exact .inl ⟨x, rfl, rfl, h⟩
  | fr c =>
    cases e
    obtain ⟨p, rfl, nb, nF, cr, no⟩ := h
    obtain ⟨o, ho⟩ := cr.some
    refine .inr ⟨p, c, o, rfl, rfl, ho, cr, fun o' fo => ⟨⟨sr.len, sub, fun i s q => ?_, sr.dist⟩, ⟨ev.ext.trans (froz_ext nF), fun b ob q n => ?_, fun a q n => ?_, fun b q => ?_, ev.bor, ev.own', ev.mt'⟩, cr.rep (.of (froz_ext nF)) ho upd_same fo⟩⟩
    · obtain ⟨ov, h1, h2⟩ := sr.slot i s q
      refine ⟨ov, h1, ?_⟩
      cases s with
      | un => trivial
      | d z => obtain ⟨u, e1, r⟩ := h2; exact ⟨u, e1, r.mono (.of (froz_ext nF))⟩
      | ow c' m =>
        obtain ⟨a, e1, fa, r⟩ := h2
        have ne : a ≠ p := fun z => no ⟨i, c', m, q, by rw [h1, e1, z]⟩
        exact ⟨a, e1, by rw [upd_ne ne]; exact fa, r.mono (.of (froz_ext nF)) (upd_ne ne)⟩
    · rw [upd_ne (fun z => by rw [z, nb] at q; cases q)]; exact ev.keep b ob q n
    · by_cases z : a = p
      · subst z; exact .inl nb
      · rw [upd_ne z] at n; exact ev.newF a q n
    · by_cases z : b = p
      · subst z; rw [upd_same]; simp
      · rw [upd_ne z]; exact ev.dom b q
  | sl i =>
    have h : σ[i]? = some (some v) := h
    unfold Val.fzA at e
    dsimp only at e
    cases q : ρ[i]? with
    | none => rw [q] at e; cases e
    | some s =>
      rw [q] at e
      obtain ⟨ov, h1, h2⟩ := sr.slot i s q
      rw [h] at h1; cases h1
      cases s with
      | un => cases e
      | d z =>
        cases e
        obtain ⟨u, e1, r⟩ := h2
        cases e1
        exact .inl ⟨z, rfl, rfl, r⟩
      | ow c m =>
        cases m with
        | bor => cases e
        | lck => cases e
        | own =>
          cases e
          obtain ⟨a, e1, fa, cr⟩ := h2
          cases e1
          obtain ⟨o, ho⟩ := cr.some
          have hl : i < ρ.length := by
            rcases Nat.lt_or_ge i ρ.length with z | z
            · exact z
            · rw [List.getElem?_eq_none z] at q; cases q
          have mt : Mt σ ρ a := ⟨i, c, .own, q, by decide, h⟩
          refine .inr ⟨a, c, o, rfl, rfl, ho, cr, fun o' fo => ⟨⟨by rw [List.length_set]; exact sr.len, sub, fun j s q' => ?_, fun j k c1 m1 c2 m2 b q1 q2 => ?_⟩, ⟨ev.ext.trans (froz_ext fa), fun b ob q' n => ?_, fun b q' n => ?_, fun b q' => ?_, fun j c1 m1 q' hm => ?_, fun b z => ev.own' b (ow_set_d z), fun b z => ev.mt' b (mt_set_d z)⟩, cr.rep (.of (froz_ext fa)) ho upd_same fo⟩⟩
          · by_cases hj : i = j
            · subst hj
              rw [List.getElem?_set_self hl] at q'; cases q'
              exact ⟨_, h, .ref a, rfl, cr.rep (.of (froz_ext fa)) ho upd_same fo⟩
            · rw [List.getElem?_set_ne hj] at q'
              obtain ⟨ov, h1, h2⟩ := sr.slot j s q'
              refine ⟨ov, h1, ?_⟩
              cases s with
              | un => trivial
              | d z => obtain ⟨u, e1, r⟩ := h2; exact ⟨u, e1, r.mono (.of (froz_ext fa))⟩
              | ow c' m' =>
                obtain ⟨b, e1, fb, r⟩ := h2
                have ne : b ≠ a := fun z => hj (sr.dist i j _ _ _ _ a q q' h (by rw [h1, e1, z]))
                exact ⟨b, e1, by rw [upd_ne ne]; exact fb, r.mono (.of (froz_ext fa)) (upd_ne ne)⟩
          · by_cases hj : i = j
            · subst hj; rw [List.getElem?_set_self hl] at q1; cases q1
            · by_cases hk : i = k
              · subst hk; rw [List.getElem?_set_self hl] at q2; cases q2
              · rw [List.getElem?_set_ne hj] at q1
                rw [List.getElem?_set_ne hk] at q2
                exact sr.dist j k c1 m1 c2 m2 b q1 q2
          · rw [upd_ne (fun z => by
              subst z
              rcases ev.mt' _ mt with z | z
              · rw [z] at q'; cases q'
              · exact n z)]
            exact ev.keep b ob q' n
          · by_cases z : b = a
            · subst z; exact ev.own' b ⟨i, c, _, q, h⟩
            · rw [upd_ne z] at n; exact ev.newF b q' n
          · by_cases z : b = a
            · subst z; rw [upd_same]; simp
            · rw [upd_ne z]; exact ev.dom b q'
          · obtain ⟨z1, c3, z2, z3⟩ := ev.bor j c1 m1 q' hm
            refine ⟨z1, c3, ?_, z3⟩
            by_cases hj : i = j
            · subst hj
              rw [q] at z2
              cases z2
              exact absurd rfl hm
            · rw [List.getElem?_set_ne hj]; exact z2
theorem fz_fzA {x y : Val} {ρ ρ2 : DEnv} (e : x.fz ρ = .ok y ρ2) : x.fzA ρ = .ok y ρ2 ∧ ∀ ks ds, y = .d (.dic ks ds) → x = .d (.dic ks ds) ∨ ∃ i, x = .sl i ∧ ρ[i]? = some (.d (.dic ks ds)) := by
  cases x with
  | d x => cases e; exact ⟨rfl, fun ks ds h => by cases h; exact .inl rfl⟩
  | fr c =>
    cases c with
    | lst ds => cases e; exact ⟨rfl, fun ks ds h => by cases h⟩
    | dic ks ds => cases e
  | sl i =>
    unfold Val.fz at e
    unfold Val.fzA
    dsimp only at e ⊢
    split at e
    · rename_i z; rw [z]; cases e; exact ⟨rfl, fun ks ds h => by cases h; exact .inr ⟨i, rfl, z⟩⟩
    · rename_i z; rw [z]; cases e; exact ⟨rfl, fun ks ds h => by cases h⟩
    · cases e
theorem upd_id {H : Hp} {a : Addr} {o : HO} (h : H a = some o) : upd H a o = H := funext fun b => by
  by_cases z : b = a
  · subst z; rw [upd_same, h]
  · rw [upd_ne z]
theorem fz_ok (sr : SR K F H σ ρ) (ev : Ev σb ρb Fb Hb σ ρ F H) (h : VR K σ Hb F H ρ v x) (e : x.fz ρ = .ok y ρ2) :
    ∃ F2 d, y = .d d ∧ SR K F2 H σ ρ2 ∧ Ev σb ρb Fb Hb σ ρ2 F2 H ∧ Rep K F2 v d := by
  obtain ⟨e1, e2⟩ := fz_fzA e
  rcases fzA_ok sr ev h e1 with ⟨d, rfl, rfl, r⟩ | ⟨a, c, o, rfl, rfl, ho, cr, f⟩
  · exact ⟨F, d, rfl, sr, ev, r⟩
  · cases c with
    | lst ds =>
      obtain ⟨s2, ev2, r2⟩ := f o rfl
      rw [upd_id ho] at s2 ev2
      exact ⟨_, _, rfl, s2, ev2, r2⟩
    | dic ks ds =>
      rcases e2 ks ds rfl with rfl | ⟨i, rfl, q⟩
      · cases e; exact ⟨F, _, rfl, sr, ev, h⟩
      · have e3 : (Val.sl i).fz ρ = .ok (.d (.dic ks ds)) ρ := by unfold Val.fz; dsimp only; rw [q]
        rw [e3] at e; cases e
        obtain ⟨ov, h1, h2⟩ := sr.slot i _ q
        have h : σ[i]? = some (some (V.ref a)) := h
        rw [h] at h1; cases h1
        obtain ⟨u, q1, r⟩ := h2
        cases q1
        exact ⟨F, _, rfl, sr, ev, r⟩
end

section
variable {X : Cx} {E : WX} {xk : XK} {a b c e : Expr} {es : List Expr} {f g h : EM} {pos : Pos}
/-- behind an expression a dict may be locked for good -/
theorem pe_lockP {X : Cx} {e : Expr} {t : TE} (h : PE X e t) : PE X e (fun σ H Q => t σ H fun v H1 => Q v H1 ∨ ∃ a kvs, H1 a = some (.dK kvs) ∧ ∀ od, Q v (upd H1 a (.frz od (.dK kvs)))) := by
  refine ⟨fun pins s σ H Q I hq => thn (h.run pins s σ H _ I hq) fun u s1 ⟨x, H1, I1, r, q⟩ => ?_⟩
  rcases q with q | ⟨a, kvs, ha, q⟩
  · exact ⟨x, H1, I1, r, q⟩
  · obtain ⟨od, I2⟩ := I1.lock ha True.intro
    exact ⟨x, _, I2, r, q od⟩
theorem de_fz (H : DE X E e f) : DE X E e (fz f) := by
  refine pe_conseq (pe_lockP H) fun σ H Q hq => ?_
  obtain ⟨F, ρ, sr, q⟩ := hq
  refine ⟨F, ρ, sr, (Out.bind (rel := relV X.K σ) q).mono fun v H1 h1 => ?_⟩
  obtain ⟨x, F1, ρ1, e1, s1, ev1, r1, o1⟩ := h1
  cases hx : x.fzA ρ1 with
  | bad => rw [hx] at o1; exact o1.elim
  | ex z ρ2 =>
    exfalso
    cases x with
    | d x => cases hx
    | fr c => cases hx
    | sl i =>
      unfold Val.fzA at hx
      dsimp only at hx
      split at hx <;> cases hx
  | ok y ρ2 =>
    rw [hx] at o1
    rcases fzA_ok s1 ev1 r1 hx with ⟨d, rfl, rfl, r⟩ | ⟨a, c, o, rfl, rfl, ho, cr, g⟩
    · exact .inl (o1 v F1 H1 s1 ev1 r)
    · cases c with
      | lst ds =>
        obtain ⟨s2, ev2, r2⟩ := g o rfl
        rw [upd_id ho] at s2 ev2
        exact .inl (o1 _ _ H1 s2 ev2 r2)
      | dic ks ds =>
        obtain ⟨vs, e, _⟩ := id cr
        rw [ho] at e; cases e
        refine .inr ⟨a, _, ho, fun od => ?_⟩
        obtain ⟨s2, ev2, r2⟩ := g (.frz od (.dK (ks.zip vs))) ⟨od, rfl⟩
        exact o1 _ _ _ s2 ev2 r2

def eVar (i : Nat) : EM := fun ρ => match ρ[i]? with
  | some (.d x) => .ok (.d x) ρ
  | some (.ow _ _) => .ok (.sl i) ρ
  | _ => .bad
theorem de_var (i : Nat) {x : Str} (hN : X.N[i]? = some x := by rfl) (hv : Vis X.env.scope x := by first | exact Or.inl rfl | exact Or.inr (Or.inl rfl) | exact Or.inr (Or.inr rfl)) (hd : (x == ("__debug__" : Str)) = false := by decide)
    (hcd : (x == ("__classdict__" : Str)) = false := by decide) : DE X E (.Name x pos) (eVar i) := by
  refine pe_conseq (pe_var hN hv hd hcd) fun σ H Q hq => ?_
  obtain ⟨F, ρ, sr, q⟩ := hq
  unfold eVar at q
  cases hs : ρ[i]? with
  | none => rw [hs] at q; exact q.elim
  | some s =>
    rw [hs] at q
    obtain ⟨ov, h1, h2⟩ := sr.slot i s hs
    cases s with
    | un => exact q.elim
    | d x =>
      obtain ⟨v, rfl, r⟩ := h2
      exact ⟨v, h1, q v F H sr .refl r⟩
    | ow c m =>
      obtain ⟨a, rfl, r⟩ := h2
      exact ⟨_, h1, q (.ref a) F H sr .refl h1⟩
def eC (x : D) : EM := fun ρ => .ok (.d x) ρ
theorem de_const {t : TE} {v : V} {x : D} (h : PE X e (tC v)) (r : ∀ F, Rep X.K F v x) : DE X E e (eC x) := by
  refine pe_conseq h fun σ H Q hq => ?_
  obtain ⟨F, ρ, sr, q⟩ := hq
  exact q v F H sr .refl (r F)
theorem de_int {i j} : DE X E (.Constant (.int i) j pos) (eC (.int i)) := de_const (t := tC .non) pe_int fun _ => .int i
theorem de_bl {b j} : DE X E (.Constant (.bool b) j pos) (eC (.bl b)) := de_const (t := tC .non) pe_bl fun _ => .bl b
theorem de_non {j} : DE X E (.Constant .none j pos) (eC .non) := de_const (t := tC .non) pe_non fun _ => .non
theorem de_str {x j} : DE X E (.Constant (.str x) j pos) (eC (.str x)) := de_const (t := tC .non) pe_str fun _ => .str x
/-- a constant of the module -/
theorem de_globI {x : Str} {i : Int} {t : Tok} (hg : Gl X x) (hm : X.mg x = some (.int i t)) (hd : (x == ("__debug__" : Str)) = false := by decide) : DE X E (.Name x pos) (eC (.int i)) := de_const (t := tC .non) (pe_glob (v := .int i) hg hm ⟨t, rfl⟩ hd) fun _ => .int i
theorem de_globS {x : Str} {i : Str} {t : Tok} (hg : Gl X x) (hm : X.mg x = some (.str i t)) (hd : (x == ("__debug__" : Str)) = false := by decide) : DE X E (.Name x pos) (eC (.str i)) := de_const (t := tC .non) (pe_glob (v := .str i) hg hm ⟨t, rfl⟩ hd) fun _ => .str i

/-! ### operations on what is only read -/
/-- a new result -/
def VN (K : PySem.W.Frag) (Hb F H : Hp) (v : V) : Val → Prop
  | .d x => Rep K F v x
  | .fr c => ∃ p, v = .ref p ∧ Hb p = none ∧ F p = none ∧ CRep K F H p c
  | .sl _ => False
def OpS (K : PySem.W.Frag) (r : R2) (op : D → D → Option Val) : Prop :=
  ∀ F H v w a b z Q, Same F H → RepT K F H v a → RepT K F H w b → op a b = some z → (∀ u F' H', Gr F H F' H' → VN K H F' H' u z → Q u H') → r v w H Q
def UnS (K : PySem.W.Frag) (r : V → Hp → VK → Prop) (op : D → Option Val) : Prop :=
  ∀ F H v a z Q, Same F H → RepT K F H v a → op a = some z → (∀ u F' H', Gr F H F' H' → VN K H F' H' u z → Q u H') → r v H Q
def RepTL (K : PySem.W.Frag) (F H : Hp) : List V → List D → Prop := Paired (RepT K F H)
def CallS (K : PySem.W.Frag) (r : List V → Hp → VK → Prop) (op : List D → Option Val) : Prop :=
  ∀ F H vs as z Q, Same F H → RepTL K F H vs as → op as = some z → (∀ u F' H', Gr F H F' H' → VN K H F' H' u z → Q u H') → r vs H Q
def ret1 (o : Option Val) : EM := fun ρ => match o with
  | some z => .ok z ρ
  | none => .bad
def opV (op : D → D → Option Val) (x y : Val) : EM := fun ρ => match x.peek ρ, y.peek ρ with
  | some a, some b => ret1 (op a b) ρ
  | _, _ => .bad
def unV (op : D → Option Val) (x : Val) : EM := fun ρ => match x.peek ρ with
  | some a => ret1 (op a) ρ
  | _ => .bad
def peekL (ρ : DEnv) : List Val → Option (List D)
  | [] => some []
  | x :: xs => match x.peek ρ, peekL ρ xs with
    | some a, some as => some (a :: as)
    | _, _ => none
def callV (op : List D → Option Val) (xs : List Val) : EM := fun ρ => match peekL ρ xs with
  | some as => ret1 (op as) ρ
  | _ => .bad
def eOp (op : D → D → Option Val) (f g : EM) : EM := fun ρ => (f ρ).bind fun x ρ1 => (g ρ1).bind fun y ρ2 => opV op x y ρ2
def eUn (op : D → Option Val) (f : EM) : EM := fun ρ => (f ρ).bind fun x ρ1 => unV op x ρ1
def eCallB (op : List D → Option Val) (f : M (List Val)) : EM := fun ρ => (f ρ).bind fun x ρ1 => callV op x ρ1
section
variable {K : PySem.W.Frag} {mg : Str → Option Value} {σ : L2.St} {ρ : DEnv} {F H : Hp} {v w : V} {x y : Val}
theorem VN.vr {F' H' : Hp} {u : V} {z : Val} (sr : SR K F H σ ρ) (h : VN K H F' H' u z) : VR K σ H F' H' ρ u z := by
  cases z with
  | d x => exact h
  | sl _ => exact h.elim
  | fr c =>
    obtain ⟨p, e, n, nF, cr⟩ := h
    refine ⟨p, e, n, nF, cr, fun ⟨i, c', m, q1, q2⟩ => ?_⟩
    obtain ⟨ov, h1, a, h2, _, cr'⟩ := sr.slot i _ q1
    rw [q2] at h1; cases h1
    cases h2
    obtain ⟨o, ho⟩ := cr'.some
    rw [n] at ho; cases ho
theorem ret1_ok {o : Option Val} {Q : VK} (sr : SR K F H σ ρ) (h : Out K mg xk (relV K σ) σ ρ F H (ret1 o ρ) Q) :
    ∃ z, o = some z ∧ ∀ u F' H', Gr F H F' H' → VN K H F' H' u z → Q u H' := by
  cases o with
  | none => exact h.elim
  | some z => exact ⟨z, rfl, fun u F' H' g vn => h u F' H' (g.sr sr) g.ev (vn.vr sr)⟩
theorem opV_ok {r : R2} {op : D → D → Option Val} {Q : VK} {Hb Hb' : Hp} (s : OpS K r op) (sr : SR K F H σ ρ) (rx : VR K σ Hb F H ρ v x) (ry : VR K σ Hb' F H ρ w y) (h : Out K mg xk (relV K σ) σ ρ F H (opV op x y ρ) Q) : r v w H Q := by
  unfold opV at h
  cases hx : x.peek ρ with
  | none => rw [hx] at h; exact h.elim
  | some a =>
    cases hy : y.peek ρ with
    | none => rw [hx, hy] at h; exact h.elim
    | some b =>
      rw [hx, hy] at h
      obtain ⟨z, e, q⟩ := ret1_ok sr h
      exact s F H v w a b z Q sr.sub (rx.peek sr hx) (ry.peek sr hy) e q
theorem unV_ok {r : V → Hp → VK → Prop} {op : D → Option Val} {Q : VK} {Hb : Hp} (s : UnS K r op) (sr : SR K F H σ ρ) (rx : VR K σ Hb F H ρ v x) (h : Out K mg xk (relV K σ) σ ρ F H (unV op x ρ) Q) : r v H Q := by
  unfold unV at h
  cases hx : x.peek ρ with
  | none => rw [hx] at h; exact h.elim
  | some a =>
    rw [hx] at h
    obtain ⟨z, e, q⟩ := ret1_ok sr h
    exact s F H v a z Q sr.sub (rx.peek sr hx) e q
theorem peekL_ok {Hb : Hp} (sr : SR K F H σ ρ) : ∀ {vs : List V} {xs : List Val} {as : List D}, Paired (VR K σ Hb F H ρ) vs xs → peekL ρ xs = some as → RepTL K F H vs as
  | _, _, _, .nil, e => by cases e; exact .nil
  | _, _, _, .cons (b := x) (l₂ := xs) r t, e => by
    unfold peekL at e
    cases hx : x.peek ρ with
    | none => rw [hx] at e; cases e
    | some a =>
      cases hy : peekL ρ xs with
      | none => rw [hx, hy] at e; cases e
      | some as =>
        rw [hx, hy] at e
        cases e
        exact .cons (r.peek sr hx) (peekL_ok sr t hy)
theorem callV_ok {r : List V → Hp → VK → Prop} {op : List D → Option Val} {Q : VK} {Hb : Hp} {vs : List V} {xs : List Val} (s : CallS K r op) (sr : SR K F H σ ρ) (rx : VRL K σ Hb F H ρ vs xs) (h : Out K mg xk (relV K σ) σ ρ F H (callV op xs ρ) Q) : r vs H Q := by
  unfold callV at h
  cases hx : peekL ρ xs with
  | none => rw [hx] at h; exact h.elim
  | some as =>
    rw [hx] at h
    obtain ⟨z, e, q⟩ := ret1_ok sr h
    exact s F H vs as z Q sr.sub (peekL_ok sr rx.all hx) e q
end
/-- two operands in a row -/
theorem two {r : R2} {op : D → D → Option Val} (s : OpS X.K r op) {σ : L2.St} {H : Hp} {Q : VK} (hq : tD X.K X.mg E (eOp op f g) σ H Q) : tOp r (tD X.K X.mg E f) (tD X.K X.mg E g) σ H Q := by
  obtain ⟨F, ρ, sr, q⟩ := hq
  refine ⟨F, ρ, sr, (Out.bind (rel := relV X.K σ) q).mono fun v H1 ⟨x, F1, ρ1, e1, s1, ev1, r1, o1⟩ => ?_⟩
  refine ⟨F1, ρ1, s1, ?_⟩
  have o2 := o1.from ev1 fun F' H' ρ' v x (h : VR X.K σ H1 F' H' ρ' v x) => VR.base h ev1.dom
  refine (Out.bind (rel := relV X.K σ) o2).mono fun w H2 ⟨y, F2, ρ2, e2, s2, ev2, r2, o3⟩ => ?_
  exact opV_ok s s2 (VR.ev r1 ev2) r2 (o3.from ev2 fun F' H' ρ' v x (h : VR X.K σ H2 F' H' ρ' v x) => VR.base h ev2.dom)
theorem one1 {r : V → Hp → VK → Prop} {op : D → Option Val} (s : UnS X.K r op) {σ : L2.St} {H : Hp} {Q : VK} (hq : tD X.K X.mg E (eUn op f) σ H Q) : tUn r (tD X.K X.mg E f) σ H Q := by
  obtain ⟨F, ρ, sr, q⟩ := hq
  refine ⟨F, ρ, sr, (Out.bind (rel := relV X.K σ) q).mono fun v H1 ⟨x, F1, ρ1, e1, s1, ev1, r1, o1⟩ => ?_⟩
  exact unV_ok s s1 r1 (o1.from ev1 fun F' H' ρ' v x (h : VR X.K σ H1 F' H' ρ' v x) => VR.base h ev1.dom)
theorem de_op {o : Operator} {r : R2} {op : D → D → Option Val} (ho : OpR X (binaryOp o) r) (s : OpS X.K r op) (ha : DE X E a f) (hb : DE X E b g) : DE X E (.BinOp a o b pos) (eOp op f g) :=
  pe_conseq (pe_op ho ha hb) fun _ _ _ => two s
theorem de_cmp {o : CmpOp} {r : R2} {op : D → D → Option Val} (ho : OpR X (compareOp o) r) (s : OpS X.K r op) (ha : DE X E a f) (hb : DE X E b g) (hm : behindInMarks o b = false := by rfl) : DE X E (.Compare a [o] [b] pos) (eOp op f g) :=
  pe_conseq (pe_cmpR ho ha hb hm) fun _ _ _ => two s
theorem de_un {o : UnaryOp} {r : V → Hp → VK → Prop} {op : D → Option Val} (ho : UnR X (unaryOp o) r) (s : UnS X.K r op) (ha : DE X E a f) : DE X E (.UnaryOp o a pos) (eUn op f) :=
  pe_conseq (pe_un ho ha) fun _ _ _ => one1 s

/-! ### tests -/
def bT (x : Val) : M Bool := fun ρ => match x with
  | .d (.bl b) => .ok b ρ
  | _ => .bad
def tst (f : EM) : M Bool := fun ρ => (f ρ).bind bT
theorem bT_ok {K : PySem.W.Frag} {mg : Str → Option Value} {σ : L2.St} {ρ : DEnv} {F H Hb : Hp} {v : V} {x : Val} {Q : Bool → Hp → Prop} (sr : SR K F H σ ρ) (rx : VR K σ Hb F H ρ v x) (h : Out K mg xk relB σ ρ F H (bT x ρ) Q) : ∃ k, v = .bl k ∧ Q k H := by
  cases x with
  | fr c => exact h.elim
  | sl i => exact h.elim
  | d d =>
    cases d with
    | bl b =>
      have rx : Rep K F v (.bl b) := rx
      cases rx
      exact ⟨b, rfl, h b F H sr .refl rfl⟩
    | _ => exact h.elim
theorem tst_ok {σ : L2.St} {H : Hp} {Q : Bool → Hp → Prop} (hq : tT X.K X.mg E (tst f) σ H Q) : tD X.K X.mg E f σ H fun x H' => ∃ k, x = .bl k ∧ Q k H' := by
  obtain ⟨F, ρ, sr, q⟩ := hq
  refine ⟨F, ρ, sr, (Out.bind (rel := relV X.K σ) q).mono fun v H1 ⟨x, F1, ρ1, e1, s1, ev1, r1, o1⟩ => ?_⟩
  exact bT_ok s1 r1 (o1.from ev1 fun F' H' ρ' v x (h : v = x) => h)
theorem dt_cmp {o : CmpOp} {r : R2} {op : D → D → Option Val} (ho : OpR X (compareOp o) r) (s : OpS X.K r op) (ha : DE X E a f) (hb : DE X E b g) (hm : behindInMarks o b = false := by rfl) : DT X E (.Compare a [o] [b] pos) (tst (eOp op f g)) :=
  pt_conseq (pt_cmpR ho ha hb hm) fun σ H Q hq => by
    obtain ⟨F, ρ, sr, q⟩ := tst_ok hq
    exact two s ⟨F, ρ, sr, q⟩
theorem dt_val (ha : DE X E e f) (he : ∀ whole, isTrue e X.env whole = (do let v ← whole; standAt e.pos; holding [v] (truthy v)) := by intro _; rfl) : DT X E e (tst f) :=
  pt_conseq (pt_val ha he) fun _ _ _ => tst_ok
end
end DL
/-! DL3: the operators. -/
namespace DL
open PySem PySem.Spec PyProof.Rows L2

/-! ### data as the library's PyData -/
def keyPy : Key → PyData
  | .inl i => .int i
  | .inr x => .str x
mutual
def D.toPy : D → Option PyData
  | .non => some .none
  | .bl b => some (.bool b)
  | .int i => some (.int i)
  | .str x => some (.str x)
  | .tup xs => (toPyL xs).map .tuple
  | .lst xs => (toPyL xs).map .list
  | .dic _ _ => none
  | .set _ => none
  | .scr _ => none
  | .ty _ => none
  | .obj _ _ _ => none
def toPyL : List D → Option (List PyData)
  | [] => some []
  | x :: xs => match D.toPy x, toPyL xs with
    | some p, some ps => some (p :: ps)
    | _, _ => none
end
section
variable {K : PySem.W.Frag} {H : Hp}
mutual
theorem Rep.dp : ∀ {v : V} {d : D} {p : PyData}, Rep K H v d → d.toPy = some p → Dp K H v p
  | _, _, _, .non, e => by simp only [D.toPy] at e; cases e; exact .non
  | _, _, _, .bl b, e => by simp only [D.toPy] at e; cases e; exact .bl b
  | _, _, _, .int i, e => by simp only [D.toPy] at e; cases e; exact .int i
  | _, _, _, .str x, e => by simp only [D.toPy] at e; cases e; exact .str x
  | _, _, _, .lst (ds := ds) h r, e => by
    simp only [D.toPy] at e
    cases q : toPyL ds with
    | none => rw [q] at e; cases e
    | some ps => rw [q] at e; cases e; exact .lst (.of h) (RepL.dp r q)
  | _, _, _, .tup (ds := ds) h r, e => by
    simp only [D.toPy] at e
    cases q : toPyL ds with
    | none => rw [q] at e; cases e
    | some ps => rw [q] at e; cases e; exact .tup h (RepL.dp r q)
  | _, _, _, .dic .., e => by simp only [D.toPy] at e; cases e
  | _, _, _, .scr .., e => by simp only [D.toPy] at e; cases e
theorem RepL.dp : ∀ {vs : List V} {ds : List D} {ps : List PyData}, RepL K H vs ds → toPyL ds = some ps → DpAll K H vs ps
  | _, _, _, .nil, e => by simp only [toPyL] at e; cases e; exact .nil
  | _, _, _, .cons (d := d) (ds := ds) a b, e => by
    simp only [toPyL] at e
    cases q1 : d.toPy with
    | none => rw [q1] at e; cases e
    | some p =>
      cases q2 : toPyL ds with
      | none => rw [q1, q2] at e; cases e
      | some ps => rw [q1, q2] at e; cases e; exact .cons (Rep.dp a q1) (RepL.dp b q2)
end
end

theorem toPy_nd {d : D} {p : PyData} (e : d.toPy = some p) : ∀ ks vs, d ≠ .dic ks vs := fun ks vs z => by subst z; simp only [D.toPy] at e; cases e
/-! ### ==, != -/
def eqD : D → D → Option Bool
  | .int i, .int j => some (decide (i = j))
  | .str x, .str y => some (decide (x = y))
  | .bl x, .bl y => some (x == y)
  | .non, .non => some true
  | .non, .int _ => some false
  | .non, .str _ => some false
  | .non, .bl _ => some false
  | .int _, .non => some false
  | .str _, .non => some false
  | .bl _, .non => some false
  | a, b => match a.toPy, b.toPy with
    | some p, some q => if SeqAt.shaped p = true ∧ SeqAt.shaped q = true then some (PyData.eqv p q) else none
    | _, _ => none
def bV (o : Option Bool) : Option Val := o.map fun b => .d (.bl b)
section
variable {K : PySem.W.Frag} {F H : Hp}
theorem vn_d {Q : VK} {v : V} {x : D} (s : Same F H) (q : ∀ u F' H', Gr F H F' H' → VN K H F' H' u (.d x) → Q u H') (r : Rep K F v x) : Q v H := q v F H (.refl s) r
theorem vn_bl {Q : VK} {b : Bool} (s : Same F H) (q : ∀ u F' H', Gr F H F' H' → VN K H F' H' u (.d (.bl b)) → Q u H') : Q (.bl b) H := vn_d s q (.bl b)
theorem vn_int {Q : VK} {b : Int} (s : Same F H) (q : ∀ u F' H', Gr F H F' H' → VN K H F' H' u (.d (.int b)) → Q u H') : Q (.int b) H := vn_d s q (.int b)
theorem vn_str {Q : VK} {b : Str} (s : Same F H) (q : ∀ u F' H', Gr F H F' H' → VN K H F' H' u (.d (.str b)) → Q u H') : Q (.str b) H := vn_d s q (.str b)
theorem vn_lst {Q : VK} {xs : List V} {ds : List D} (s : Same F H) (q : ∀ u F' H', Gr F H F' H' → VN K H F' H' u (.fr (.lst ds)) → Q u H') (r : RepL K F xs ds) {p : Addr} (n : H p = none) : Q (.ref p) (upd H p (.lst xs)) :=
  q (.ref p) F _ (.fresh s n) ⟨p, rfl, n, Same.free s n, xs, upd_same, r⟩
theorem vn_tup {Q : VK} {xs : List V} {ds : List D} (s : Same F H) (q : ∀ u F' H', Gr F H F' H' → VN K H F' H' u (.d (.tup ds)) → Q u H') (r : RepL K F xs ds) {p : Addr} (n : H p = none) : Q (.ref p) (upd H p (.tup xs)) :=
  q (.ref p) (upd F p (.tup xs)) _ (.froz s n) (.tup (.of upd_same) (r.mono (.of (froz_ext (Same.free s n)))))
theorem RepT.int {v : V} {i : Int} (h : RepT K F H v (.int i)) : v = .int i := by
  have h : Rep K F v (.int i) := h
  cases h; rfl
theorem RepT.str {v : V} {i : Str} (h : RepT K F H v (.str i)) : v = .str i := by
  have h : Rep K F v (.str i) := h
  cases h; rfl
theorem RepT.bl {v : V} {i : Bool} (h : RepT K F H v (.bl i)) : v = .bl i := by
  have h : Rep K F v (.bl i) := h
  cases h; rfl
theorem RepT.non {v : V} (h : RepT K F H v .non) : v = .non := by
  have h : Rep K F v .non := h
  cases h; rfl
theorem RepT.lst {v : V} {ds : List D} (h : RepT K F H v (.lst ds)) : ∃ a xs, v = .ref a ∧ H a = some (.lst xs) ∧ RepL K F xs ds := h
theorem RepT.tup {v : V} {ds : List D} (s : Same F H) (h : RepT K F H v (.tup ds)) : ∃ a xs, v = .ref a ∧ SqT K H a xs ∧ RepL K F xs ds := by
  have h : Rep K F v (.tup ds) := h
  cases h with
  | tup e r => exact ⟨_, _, rfl, (RdLe.of s).sqT e, r⟩
theorem RepT.scr {v : V} {ns : List Int} (s : Same F H) (h : RepT K F H v (.scr ns)) : ∃ a, v = .ref a ∧ SqL K H a (ns.map V.int) := by
  have h : Rep K F v (.scr ns) := h
  cases h with
  | scr e => exact ⟨_, rfl, (RdLe.of s).sqL e⟩
def rEqA (K : PySem.W.Frag) : R2 := fun x y H Q => rEq x y H Q ∨ rEqD K x y H Q
def rNeA (K : PySem.W.Frag) : R2 := fun x y H Q => rNe x y H Q ∨ rNeD K x y H Q
theorem eqD_sound {F H : Hp} {v w : V} {a b : D} {k : Bool} (s : Same F H) (ra : RepT K F H v a) (rb : RepT K F H w b) (e : eqD a b = some k) :
    (scal v w = true ∧ decide (v = w) = k) ∨ ∃ p q, Dp K H v p ∧ Dp K H w q ∧ SeqAt.shaped p = true ∧ SeqAt.shaped q = true ∧ PyData.eqv p q = k := by
  have gen : (∃ p q, a.toPy = some p ∧ b.toPy = some q ∧ SeqAt.shaped p = true ∧ SeqAt.shaped q = true ∧ PyData.eqv p q = k) → ∃ p q, Dp K H v p ∧ Dp K H w q ∧ SeqAt.shaped p = true ∧ SeqAt.shaped q = true ∧ PyData.eqv p q = k := fun ⟨p, q, e1, e2, z⟩ =>
    ⟨p, q, (ra.rep (toPy_nd e1) s).dp e1, (rb.rep (toPy_nd e2) s).dp e2, z⟩
  unfold eqD at e
  split at e
  · obtain rfl := ra.int; obtain rfl := rb.int; cases e
    exact .inl ⟨rfl, by simp⟩
  · obtain rfl := ra.str; obtain rfl := rb.str; cases e
    exact .inl ⟨rfl, by simp⟩
  · obtain rfl := ra.bl; obtain rfl := rb.bl; cases e
    refine .inl ⟨rfl, ?_⟩
    rw [dec_bl]
  · obtain rfl := ra.non; obtain rfl := rb.non; cases e; exact .inl ⟨rfl, by decide⟩
  · obtain rfl := ra.non; obtain rfl := rb.int; cases e; exact .inl ⟨rfl, by simp⟩
  · obtain rfl := ra.non; obtain rfl := rb.str; cases e; exact .inl ⟨rfl, by simp⟩
  · obtain rfl := ra.non; obtain rfl := rb.bl; cases e; exact .inl ⟨rfl, by simp⟩
  · obtain rfl := ra.int; obtain rfl := rb.non; cases e; exact .inl ⟨rfl, by simp⟩
  · obtain rfl := ra.str; obtain rfl := rb.non; cases e; exact .inl ⟨rfl, by simp⟩
  · obtain rfl := ra.bl; obtain rfl := rb.non; cases e; exact .inl ⟨rfl, by simp⟩
  · refine .inr (gen ?_)
    split at e
    · rename_i p q e1 e2
      split at e
      · rename_i z; cases e; exact ⟨p, q, e1, e2, z.1, z.2, rfl⟩
      · cases e
    · cases e
theorem os_eq : OpS K (rEqA K) (fun a b => bV (eqD a b)) := by
  intro F H v w a b z Q s ra rb e q
  dsimp only at e
  cases h : eqD a b with
  | none => rw [h] at e; cases e
  | some k =>
    rw [h] at e; cases e
    rcases eqD_sound s ra rb h with ⟨h1, rfl⟩ | ⟨p, r, h1, h2, h3, h4, rfl⟩
    · exact .inl ⟨h1, vn_bl s q⟩
    · exact .inr ⟨p, r, h1, h2, h3, h4, vn_bl s q⟩
theorem os_ne : OpS K (rNeA K) (fun a b => bV ((eqD a b).map (!·))) := by
  intro F H v w a b z Q s ra rb e q
  dsimp only at e
  cases h : eqD a b with
  | none => rw [h] at e; cases e
  | some k =>
    rw [h] at e; cases e
    rcases eqD_sound s ra rb h with ⟨h1, rfl⟩ | ⟨p, r, h1, h2, h3, h4, rfl⟩
    · exact .inl ⟨h1, vn_bl s q⟩
    · exact .inr ⟨p, r, h1, h2, h3, h4, vn_bl s q⟩
/-! ### ints -/
def intV (g : Int → Int → Option Int) : D → D → Option Val
  | .int i, .int j => (g i j).map fun k => .d (.int k)
  | _, _ => none
theorem os_int {C : Int → Int → Prop} {g : Int → Int → Int} {o : Int → Int → Option Int} (h : ∀ i j k, o i j = some k → C i j ∧ g i j = k) : OpS K (rI C fun i j => .int (g i j)) (intV o) := by
  intro F H v w a b z Q s ra rb e q
  unfold intV at e
  split at e
  · rename_i i j
    obtain rfl := ra.int; obtain rfl := rb.int
    cases h1 : o i j with
    | none => rw [h1] at e; cases e
    | some k =>
      rw [h1] at e; cases e
      obtain ⟨c, rfl⟩ := h i j k h1
      exact ⟨i, j, rfl, rfl, c, vn_int s q⟩
  · cases e
theorem os_int0 {g : Int → Int → Int} : OpS K (rI0 fun i j => .int (g i j)) (intV fun i j => some (g i j)) := by
  intro F H v w a b z Q s ra rb e q
  unfold intV at e
  split at e
  · obtain rfl := ra.int; obtain rfl := rb.int
    cases e
    exact ⟨_, _, rfl, rfl, vn_int s q⟩
  · cases e
def cmpV (g : Int → Int → Bool) : D → D → Option Val
  | .int i, .int j => some (.d (.bl (g i j)))
  | _, _ => none
theorem os_cmp0 {g : Int → Int → Bool} : OpS K (rI0 fun i j => .bl (g i j)) (cmpV g) := by
  intro F H v w a b z Q s ra rb e q
  unfold cmpV at e
  split at e
  · obtain rfl := ra.int; obtain rfl := rb.int
    cases e
    exact ⟨_, _, rfl, rfl, vn_bl s q⟩
  · cases e
def mulI (i j : Int) : Option Int := if (-(2 ^ 64) < i ∧ i < 2 ^ 64) ∨ (-(2 ^ 64) < j ∧ j < 2 ^ 64) ∨ i.natAbs.log2 + j.natAbs.log2 < 1000000 then some (i * j) else none
def divI (i j : Int) : Option Int := if 0 < j ∧ j.natAbs.log2 < 9000 then some (i / j) else none
def modI (i j : Int) : Option Int := if 0 < j then some (i % j) else none
def CMulA (i j : Int) : Prop := (-(2 ^ 64) < i ∧ i < 2 ^ 64) ∨ (-(2 ^ 64) < j ∧ j < 2 ^ 64) ∨ i.natAbs.log2 + j.natAbs.log2 < 1000000
theorem CMulA.ok {i j : Int} (h : CMulA i j) : IntMulOk i j := by
  rcases h with h | h | h
  · exact CMul.ok (.inl h)
  · exact CMul.ok (.inr h)
  · exact CMulW.ok h
/-- union of readings -/
def rU2 (r r' : R2) : R2 := fun x y H Q => r x y H Q ∨ r' x y H Q
theorem os_or {r r' : R2} {op op' : D → D → Option Val} (h : OpS K r op) (h' : OpS K r' op') : OpS K (rU2 r r') (fun a b => match op a b with | some z => some z | none => op' a b) := by
  intro F H v w a b z Q s ra rb e q
  dsimp only at e
  cases hz : op a b with
  | some y => rw [hz] at e; cases e; exact .inl (h F H v w a b _ Q s ra rb hz q)
  | none => rw [hz] at e; exact .inr (h' F H v w a b _ Q s ra rb e q)
def addS : D → D → Option Val
  | .str x, .str y => if x.length + y.length ≤ sizeLine then some (.d (.str (x ++ y))) else none
  | _, _ => none
theorem os_addS : OpS K (fun x y H Q => ∃ i j, x = .str i ∧ y = .str j ∧ i.length + j.length ≤ sizeLine ∧ Q (.str (i ++ j)) H) addS := by
  intro F H v w a b z Q s ra rb e q
  unfold addS at e
  split at e
  · obtain rfl := ra.str; obtain rfl := rb.str
    split at e
    · rename_i h; cases e; exact ⟨_, _, rfl, rfl, h, vn_str s q⟩
    · cases e
  · cases e
def addL : D → D → Option Val
  | .lst xs, .lst ys => if xs.length + ys.length ≤ sizeLine then some (.fr (.lst (xs ++ ys))) else none
  | _, _ => none
theorem os_addL : OpS K rCat addL := by
  intro F H v w a b z Q s ra rb e q
  unfold addL at e
  split at e
  · obtain ⟨l, xs, rfl, hl, r⟩ := ra.lst
    obtain ⟨l', ys, rfl, hl', r'⟩ := rb.lst
    split at e
    · rename_i h; cases e
      exact ⟨l, l', xs, ys, rfl, rfl, hl, hl', by rw [r.length, r'.length]; exact h, fun p n => vn_lst s q (r.app r') n⟩
    · cases e
  · cases e
def addT : D → D → Option Val
  | .tup xs, .tup ys => if xs.length + ys.length ≤ sizeLine then some (.d (.tup (xs ++ ys))) else none
  | _, _ => none
theorem os_addT : OpS K (rCatA K) addT := by
  intro F H v w a b z Q s ra rb e q
  unfold addT at e
  split at e
  · have ra' : Rep K F v (.tup _) := ra
    have rb' : Rep K F w (.tup _) := rb
    obtain ⟨l, xs, rfl, hl, r⟩ := ra.tup s
    obtain ⟨l', ys, rfl, hl', r'⟩ := rb.tup s
    split at e
    · rename_i h; cases e
      refine ⟨l, l', xs, ys, rfl, rfl, hl, hl', by rw [r.length, r'.length]; exact h, fun e1 => ?_, fun _ e1 => ?_, fun _ _ p n => vn_tup s q (r.app r') n⟩
      · subst e1
        cases r
        exact vn_d s q rb'
      · subst e1
        cases r'
        rw [List.append_nil] at q
        exact vn_d s q ra'
    · cases e
  · cases e
def repL : D → D → Option Val
  | .lst xs, .int k => if -(2 ^ 63) ≤ k ∧ k < 2 ^ 63 ∧ xs.length * k.toNat ≤ sizeLine then some (.fr (.lst (List.replicate k.toNat xs).flatten)) else none
  | _, _ => none
theorem os_repL : OpS K rRep repL := by
  intro F H v w a b z Q s ra rb e q
  unfold repL at e
  split at e
  · obtain ⟨l, xs, rfl, hl, r⟩ := ra.lst
    obtain rfl := rb.int
    split at e
    · rename_i h; cases e
      exact ⟨l, _, xs, rfl, rfl, hl, h.1, h.2.1, by rw [r.length]; exact h.2.2, fun p n => vn_lst s q (r.flatten _) n⟩
    · cases e
  · cases e
def addD : D → D → Option Val := fun a b => match intV (fun i j => some (i + j)) a b with | some z => some z | none => match addS a b with | some z => some z | none => match addL a b with | some z => some z | none => addT a b
def subD : D → D → Option Val := intV fun i j => some (i - j)
def mulD : D → D → Option Val := fun a b => match intV mulI a b with | some z => some z | none => repL a b
def divD : D → D → Option Val := intV divI
def modD : D → D → Option Val := intV modI
end
section
variable {X : Cx}
theorem opr_u {f : Value → Value → Sem Value} {r r' : R2} (h : OpR X f r) (h' : OpR X f r') : OpR X f (rU2 r r') := OpR.or h h'
theorem op_mulA : OpR X (binaryOp .Mult) (rI CMulA fun i j => .int (i * j)) := opI fun _ _ _ _ _ _ _ hc q => mul_int q hc.ok
variable {E : WX} {a b c e : Expr} {f g : EM} {pos : Pos}
theorem de_add (ha : DE X E a f) (hb : DE X E b g) : DE X E (.BinOp a .Add b pos) (eOp addD f g) :=
  de_op (opr_u op_add (opr_u op_add_str (opr_u op_cat op_catA))) (os_or os_int0 (os_or os_addS (os_or os_addL os_addT))) ha hb
theorem de_sub (ha : DE X E a f) (hb : DE X E b g) : DE X E (.BinOp a .Sub b pos) (eOp subD f g) := de_op op_sub os_int0 ha hb
theorem de_mul (ha : DE X E a f) (hb : DE X E b g) : DE X E (.BinOp a .Mult b pos) (eOp mulD f g) :=
  de_op (opr_u op_mulA op_rep) (os_or (os_int fun i j k h => by
    unfold mulI at h
    split at h
    · rename_i z; cases h; exact ⟨z, rfl⟩
    · cases h) os_repL) ha hb
theorem de_div (ha : DE X E a f) (hb : DE X E b g) : DE X E (.BinOp a .FloorDiv b pos) (eOp divD f g) :=
  de_op op_fdivW (os_int fun i j k h => by
    unfold divI at h
    split at h
    · rename_i z; cases h; exact ⟨z, rfl⟩
    · cases h) ha hb
theorem de_mod (ha : DE X E a f) (hb : DE X E b g) : DE X E (.BinOp a .Mod b pos) (eOp modD f g) :=
  de_op op_mod (os_int fun i j k h => by
    unfold modI at h
    split at h
    · rename_i z; cases h; exact ⟨z, rfl⟩
    · cases h) ha hb
def ltD : D → D → Option Val := cmpV fun i j => decide (i < j)
def leD : D → D → Option Val := cmpV fun i j => decide (i ≤ j)
def gtD : D → D → Option Val := cmpV fun i j => decide (j < i)
def geD : D → D → Option Val := cmpV fun i j => decide (j ≤ i)
def eqV' : D → D → Option Val := fun a b => bV (eqD a b)
def neV' : D → D → Option Val := fun a b => bV ((eqD a b).map (!·))
theorem de_lt (ha : DE X E a f) (hb : DE X E b g) : DE X E (.Compare a [.Lt] [b] pos) (eOp ltD f g) := de_cmp op_lt os_cmp0 ha hb (nomark _)
theorem de_le (ha : DE X E a f) (hb : DE X E b g) : DE X E (.Compare a [.LtE] [b] pos) (eOp leD f g) := de_cmp op_le os_cmp0 ha hb (nomark _)
theorem de_gt (ha : DE X E a f) (hb : DE X E b g) : DE X E (.Compare a [.Gt] [b] pos) (eOp gtD f g) := de_cmp op_gt os_cmp0 ha hb (nomark _)
theorem de_ge (ha : DE X E a f) (hb : DE X E b g) : DE X E (.Compare a [.GtE] [b] pos) (eOp geD f g) := de_cmp op_ge os_cmp0 ha hb (nomark _)
theorem dt_lt (ha : DE X E a f) (hb : DE X E b g) : DT X E (.Compare a [.Lt] [b] pos) (tst (eOp ltD f g)) := dt_cmp op_lt os_cmp0 ha hb (nomark _)
theorem dt_le (ha : DE X E a f) (hb : DE X E b g) : DT X E (.Compare a [.LtE] [b] pos) (tst (eOp leD f g)) := dt_cmp op_le os_cmp0 ha hb (nomark _)
theorem dt_gt (ha : DE X E a f) (hb : DE X E b g) : DT X E (.Compare a [.Gt] [b] pos) (tst (eOp gtD f g)) := dt_cmp op_gt os_cmp0 ha hb (nomark _)
theorem dt_ge (ha : DE X E a f) (hb : DE X E b g) : DT X E (.Compare a [.GtE] [b] pos) (tst (eOp geD f g)) := dt_cmp op_ge os_cmp0 ha hb (nomark _)
theorem opr_eq (hu : X.A.units + 64 < cLine) : OpR X (compareOp .Eq) (rEqA X.K) := OpR.or op_eq (op_eqD hu)
theorem opr_ne (hu : X.A.units + 64 < cLine) : OpR X (compareOp .NotEq) (rNeA X.K) := OpR.or op_ne (op_neD hu)
theorem de_eq (hu : X.A.units + 64 < cLine) (ha : DE X E a f) (hb : DE X E b g) : DE X E (.Compare a [.Eq] [b] pos) (eOp eqV' f g) := de_cmp (opr_eq hu) os_eq ha hb (nomark _)
theorem de_ne (hu : X.A.units + 64 < cLine) (ha : DE X E a f) (hb : DE X E b g) : DE X E (.Compare a [.NotEq] [b] pos) (eOp neV' f g) := de_cmp (opr_ne hu) os_ne ha hb (nomark _)
theorem dt_eq (hu : X.A.units + 64 < cLine) (ha : DE X E a f) (hb : DE X E b g) : DT X E (.Compare a [.Eq] [b] pos) (tst (eOp eqV' f g)) := dt_cmp (opr_eq hu) os_eq ha hb (nomark _)
theorem dt_ne (hu : X.A.units + 64 < cLine) (ha : DE X E a f) (hb : DE X E b g) : DT X E (.Compare a [.NotEq] [b] pos) (tst (eOp neV' f g)) := dt_cmp (opr_ne hu) os_ne ha hb (nomark _)
end
end DL
/-! DL4: more expressions: powers, truth, chains, subscripts, displays. -/
namespace DL
open PySem PySem.Spec PyProof.Rows L2

/-! ### powers, signs -/
def powI (i j : Int) : Option Int := if 0 ≤ j ∧ (i.natAbs.log2 + 1) * j.toNat ≤ 1000000 then some (i ^ j.toNat) else none
def CPowA (i j : Int) : Prop := 0 ≤ j ∧ (i.natAbs.log2 + 1) * j.toNat ≤ 1000000
section
variable {X : Cx} {E : WX} {xk : XK} {a b c e : Expr} {es : List Expr} {f g h : EM} {t u : M Bool} {pos : Pos}
theorem op_powA : OpR X (binaryOp .Pow) (rI CPowA fun i j => .int (i ^ j.toNat)) := opI fun i j _ _ _ _ _ hc q => pow_int hc.1 (by
  have h2 := hc.2
  have hb : Builtin.Int.intBits i ≤ i.natAbs.log2 + 1 := by
    unfold Builtin.Int.intBits
    split <;> omega
  have h0 := hc.1
  obtain ⟨n, rfl⟩ : ∃ n : Nat, j = n := ⟨j.toNat, by omega⟩
  rw [Int.toNat_natCast] at h2
  have h5 : Builtin.Int.intBits i * n ≤ (i.natAbs.log2 + 1) * n := Nat.mul_le_mul_right _ hb
  have h6 : (((Builtin.Int.intBits i : Nat) : Int) * (n : Int)) = ((Builtin.Int.intBits i * n : Nat) : Int) := by rw [Int.natCast_mul]
  rw [h6]
  have h7 : ((2 : Int) ^ 27) = 134217728 := by decide
  omega) q
def powD : D → D → Option Val := intV powI
theorem de_pow (ha : DE X E a f) (hb : DE X E b g) : DE X E (.BinOp a .Pow b pos) (eOp powD f g) :=
  de_op op_powA (os_int fun i j k h => by
    unfold powI at h
    split at h
    · rename_i z; cases h; exact ⟨z, rfl⟩
    · cases h) ha hb
def negD : D → Option Val
  | .int i => some (.d (.int (-i)))
  | _ => none
theorem de_neg (ha : DE X E a f) : DE X E (.UnaryOp .USub a pos) (eUn negD f) := de_un un_neg (by
  intro F H v a z Q s ra e q
  unfold negD at e
  split at e
  · obtain rfl := ra.int
    cases e
    exact ⟨_, rfl, vn_int s q⟩
  · cases e) ha

/-! ### and, or, not, if-else -/
def tAndM (t u : M Bool) : M Bool := fun ρ => (t ρ).bind fun b ρ1 => if b = true then u ρ1 else .ok false ρ1
def tOrM (t u : M Bool) : M Bool := fun ρ => (t ρ).bind fun b ρ1 => if b = true then .ok true ρ1 else u ρ1
def tNotM (t : M Bool) : M Bool := fun ρ => (t ρ).bind fun b ρ1 => .ok (!b) ρ1
theorem dw_and1 (ha : DT X E a t) : DW X E (.BoolOp .And [a] pos) t := pw_and1 ha
theorem dw_or1 (ha : DT X E a t) : DW X E (.BoolOp .Or [a] pos) t := pw_or1 ha
theorem DW.dt (h : DW X E e t) : DT X E e t := PW.pt h
theorem dw_and (ha : DT X E a t) (hb : DW X E (.BoolOp .And (b :: es) pos) u) : DW X E (.BoolOp .And (a :: b :: es) pos) (tAndM t u) :=
  pw_conseq (pw_and ha hb) fun σ H Q hq => by
    obtain ⟨F, ρ, sr, q⟩ := hq
    refine ⟨F, ρ, sr, (Out.bind (rel := relB) q).mono fun v H1 ⟨x, F1, ρ1, e1, s1, ev1, r1, o1⟩ => ?_⟩
    have r1 : v = x := r1
    subst r1
    have o2 := o1.from ev1 fun _ _ _ _ _ h => h
    cases v with
    | true => exact ⟨F1, ρ1, s1, o2⟩
    | false => exact o2 false F1 H1 s1 .refl rfl
theorem dw_or (ha : DT X E a t) (hb : DW X E (.BoolOp .Or (b :: es) pos) u) : DW X E (.BoolOp .Or (a :: b :: es) pos) (tOrM t u) :=
  pw_conseq (pw_or ha hb) fun σ H Q hq => by
    obtain ⟨F, ρ, sr, q⟩ := hq
    refine ⟨F, ρ, sr, (Out.bind (rel := relB) q).mono fun v H1 ⟨x, F1, ρ1, e1, s1, ev1, r1, o1⟩ => ?_⟩
    have r1 : v = x := r1
    subst r1
    have o2 := o1.from ev1 fun _ _ _ _ _ h => h
    cases v with
    | false => exact ⟨F1, ρ1, s1, o2⟩
    | true => exact o2 true F1 H1 s1 .refl rfl
theorem dt_not (ha : DT X E a t) : DT X E (.UnaryOp .Not a pos) (tNotM t) :=
  pt_conseq (pt_not ha) fun σ H Q hq => by
    obtain ⟨F, ρ, sr, q⟩ := hq
    refine ⟨F, ρ, sr, (Out.bind (rel := relB) q).mono fun v H1 ⟨x, F1, ρ1, e1, s1, ev1, r1, o1⟩ => ?_⟩
    have r1 : v = x := r1
    subst r1
    exact (o1.from ev1 fun _ _ _ _ _ h => h) _ F1 H1 s1 .refl rfl
/-- a test as a value -/
def eB (t : M Bool) : EM := fun ρ => (t ρ).bind fun b ρ1 => .ok (.d (.bl b)) ρ1
def eAnd (f g : EM) : EM := fun ρ => (f ρ).bind fun x ρ1 => match x with
  | .d (.bl true) => g ρ1
  | .d (.bl false) => .ok (.d (.bl false)) ρ1
  | _ => .bad
def eOr (f g : EM) : EM := fun ρ => (f ρ).bind fun x ρ1 => match x with
  | .d (.bl false) => g ρ1
  | .d (.bl true) => .ok (.d (.bl true)) ρ1
  | _ => .bad
def eNot (f : EM) : EM := fun ρ => (f ρ).bind fun x ρ1 => match x with
  | .d (.bl b) => .ok (.d (.bl (!b))) ρ1
  | _ => .bad
theorem vr_bl {K : PySem.W.Frag} {σ : L2.St} {Hb F H : Hp} {ρ : DEnv} {v : V} {b : Bool} (h : VR K σ Hb F H ρ v (.d (.bl b))) : v = .bl b := by
  have h : Rep K F v (.bl b) := h
  cases h; rfl
theorem vr_int {K : PySem.W.Frag} {σ : L2.St} {Hb F H : Hp} {ρ : DEnv} {v : V} {b : Int} (h : VR K σ Hb F H ρ v (.d (.int b))) : v = .int b := by
  have h : Rep K F v (.int b) := h
  cases h; rfl
theorem vr_str {K : PySem.W.Frag} {σ : L2.St} {Hb F H : Hp} {ρ : DEnv} {v : V} {b : Str} (h : VR K σ Hb F H ρ v (.d (.str b))) : v = .str b := by
  have h : Rep K F v (.str b) := h
  cases h; rfl
theorem relV_from {K : PySem.W.Frag} {σ : L2.St} {ρ ρ1 : DEnv} {F H F1 H1 : Hp} (ev : Ev σ ρ F H σ ρ1 F1 H1) : ∀ F' H' ρ' v x, relV K σ H1 F' H' ρ' v x → relV K σ H F' H' ρ' v x := fun _ _ _ _ _ h => VR.base h ev.dom
theorem de_one {o} (ha : DE X E a f) : DE X E (.BoolOp o [a] pos) f := pe_one ha
theorem de_and (ha : DE X E a f) (hb : DE X E (.BoolOp .And (b :: es) pos) g) : DE X E (.BoolOp .And (a :: b :: es) pos) (eAnd f g) :=
  pe_conseq (pe_and ha hb) fun σ H Q hq => by
    obtain ⟨F, ρ, sr, q⟩ := hq
    refine ⟨F, ρ, sr, (Out.bind (rel := relV X.K σ) q).mono fun v H1 ⟨x, F1, ρ1, e1, s1, ev1, r1, o1⟩ => ?_⟩
    have o2 := o1.from ev1 (relV_from ev1)
    split at o2
    · obtain rfl := vr_bl r1
      exact ⟨true, rfl, F1, ρ1, s1, o2⟩
    · obtain rfl := vr_bl r1
      exact ⟨false, rfl, o2 (.bl false) F1 H1 s1 .refl (Rep.bl false)⟩
    · exact o2.elim
theorem de_or (ha : DE X E a f) (hb : DE X E (.BoolOp .Or (b :: es) pos) g) : DE X E (.BoolOp .Or (a :: b :: es) pos) (eOr f g) :=
  pe_conseq (pe_or ha hb) fun σ H Q hq => by
    obtain ⟨F, ρ, sr, q⟩ := hq
    refine ⟨F, ρ, sr, (Out.bind (rel := relV X.K σ) q).mono fun v H1 ⟨x, F1, ρ1, e1, s1, ev1, r1, o1⟩ => ?_⟩
    have o2 := o1.from ev1 (relV_from ev1)
    split at o2
    · obtain rfl := vr_bl r1
      exact ⟨false, rfl, F1, ρ1, s1, o2⟩
    · obtain rfl := vr_bl r1
      exact ⟨true, rfl, o2 (.bl true) F1 H1 s1 .refl (Rep.bl true)⟩
    · exact o2.elim
theorem de_not (ha : DE X E a f) : DE X E (.UnaryOp .Not a pos) (eNot f) :=
  pe_conseq (pe_not ha) fun σ H Q hq => by
    obtain ⟨F, ρ, sr, q⟩ := hq
    refine ⟨F, ρ, sr, (Out.bind (rel := relV X.K σ) q).mono fun v H1 ⟨x, F1, ρ1, e1, s1, ev1, r1, o1⟩ => ?_⟩
    have o2 := o1.from ev1 (relV_from ev1)
    split at o2
    · rename_i b
      obtain rfl := vr_bl r1
      exact ⟨b, rfl, o2 (.bl (!b)) F1 H1 s1 .refl (Rep.bl _)⟩
    · exact o2.elim
def eIf (t : M Bool) (f g : EM) : EM := fun ρ => (t ρ).bind fun b ρ1 => if b = true then f ρ1 else g ρ1
theorem de_if {c : Expr} (hc : DT X E c t) (ha : DE X E a f) (hb : DE X E b g) : DE X E (.IfExp c a b pos) (eIf t f g) :=
  pe_conseq (pe_ifExp hc ha hb) fun σ H Q hq => by
    obtain ⟨F, ρ, sr, q⟩ := hq
    refine ⟨F, ρ, sr, (Out.bind (rel := relB) q).mono fun v H1 ⟨x, F1, ρ1, e1, s1, ev1, r1, o1⟩ => ?_⟩
    have r1 : v = x := r1
    subst r1
    have o2 := o1.from ev1 (relV_from ev1)
    cases v with
    | true => exact ⟨F1, ρ1, s1, o2⟩
    | false => exact ⟨F1, ρ1, s1, o2⟩

/-! ### None -/
def isNonV : Val → Bool
  | .d .non => true
  | _ => false
def eIsN (f : EM) : EM := fun ρ => (f ρ).bind fun x ρ1 => match x with
  | .sl _ => .bad
  | x => .ok (.d (.bl (isNonV x))) ρ1
def eNotN (f : EM) : EM := fun ρ => (f ρ).bind fun x ρ1 => match x with
  | .sl _ => .bad
  | x => .ok (.d (.bl (!isNonV x))) ρ1
theorem isNon_ok {K : PySem.W.Frag} {σ : L2.St} {Hb F H : Hp} {ρ : DEnv} {v : V} {x : Val} (h : VR K σ Hb F H ρ v x) (n : ∀ i, x ≠ .sl i) : decide (v = .non) = isNonV x := by
  cases x with
  | sl i => exact absurd rfl (n i)
  | fr c => obtain ⟨p, rfl, _⟩ := h; rfl
  | d x =>
    have h : Rep K F v x := h
    cases h <;> rfl
theorem de_isN {j pos'} (ha : DE X E a f) : DE X E (.Compare a [.Is] [.Constant .none j pos'] pos) (eIsN f) :=
  pe_conseq (pe_cmp (pc_isN ha)) fun σ H Q hq => by
    obtain ⟨F, ρ, sr, q⟩ := hq
    refine ⟨F, ρ, sr, (Out.bind (rel := relV X.K σ) q).mono fun v H1 ⟨x, F1, ρ1, e1, s1, ev1, r1, o1⟩ => ?_⟩
    have o2 := o1.from ev1 (relV_from ev1)
    split at o2
    · exact o2.elim
    · rename_i n
      rw [isNon_ok r1 n]
      exact o2 _ F1 H1 s1 .refl (Rep.bl _)
theorem de_notN {j pos'} (ha : DE X E a f) : DE X E (.Compare a [.IsNot] [.Constant .none j pos'] pos) (eNotN f) :=
  pe_conseq (pe_cmp (pc_notN ha)) fun σ H Q hq => by
    obtain ⟨F, ρ, sr, q⟩ := hq
    refine ⟨F, ρ, sr, (Out.bind (rel := relV X.K σ) q).mono fun v H1 ⟨x, F1, ρ1, e1, s1, ev1, r1, o1⟩ => ?_⟩
    have o2 := o1.from ev1 (relV_from ev1)
    split at o2
    · exact o2.elim
    · rename_i n
      rw [isNon_ok r1 n]
      exact o2 _ F1 H1 s1 .refl (Rep.bl _)

/-! ### chains -/
def eChain (op op' : D → D → Option Val) (f g h : EM) : EM := fun ρ => (f ρ).bind fun x ρ1 => (g ρ1).bind fun y ρ2 => (opV op x y ρ2).bind fun z ρ3 => match z with
  | .d (.bl true) => (h ρ3).bind fun w ρ4 => opV op' y w ρ4
  | .d (.bl false) => .ok (.d (.bl false)) ρ3
  | _ => .bad
theorem opV_ok' {K : PySem.W.Frag} {mg : Str → Option Value} {σ : L2.St} {ρ : DEnv} {F H Hb Hb' : Hp} {v w : V} {x y : Val} {γ δ : Type} {rel2 : RelT δ γ} {k : Val → DEnv → R γ} {Q2 : δ → Hp → Prop} {r : R2} {op : D → D → Option Val} (s : OpS K r op) (sr : SR K F H σ ρ) (rx : VR K σ Hb F H ρ v x) (ry : VR K σ Hb' F H ρ w y)
    (h : Out K mg xk rel2 σ ρ F H ((opV op x y ρ).bind k) Q2) :
    r v w H (fun u H1 => ∃ z F1 ρ1, SR K F1 H1 σ ρ1 ∧ Ev σ ρ F H σ ρ1 F1 H1 ∧ VR K σ H F1 H1 ρ1 u z ∧ Out K mg xk rel2 σ ρ F H (k z ρ1) Q2) := by
  refine opV_ok s sr rx ry ((Out.bind (rel := relV K σ) h).mono fun u H1 ⟨z, F1, ρ1, e1, s1, ev1, r1, o1⟩ => ⟨z, F1, ρ1, s1, ev1, r1, o1⟩)
theorem chain_ok {r r' : R2} {op op' : D → D → Option Val} (s : OpS X.K r op) (s' : OpS X.K r' op') {σ : L2.St} {H : Hp} {Q : VK} (hq : tD X.K X.mg E (eChain op op' f g h) σ H Q) : tChain r r' (tD X.K X.mg E f) (tD X.K X.mg E g) (tD X.K X.mg E h) σ H Q := by
  obtain ⟨F, ρ, sr, q⟩ := hq
  refine ⟨F, ρ, sr, (Out.bind (rel := relV X.K σ) q).mono fun v H1 ⟨x, F1, ρ1, e1, s1, ev1, r1, o1⟩ => ?_⟩
  refine ⟨F1, ρ1, s1, (Out.bind (rel := relV X.K σ) (o1.from ev1 (relV_from ev1))).mono fun w H2 ⟨y, F2, ρ2, e2, s2, ev2, r2, o2⟩ => ?_⟩
  have h3 := opV_ok' s s2 (VR.ev r1 ev2) r2 (o2.from ev2 (relV_from ev2))
  refine opV_ok s s2 (VR.ev r1 ev2) r2 ((Out.bind (rel := relV X.K σ) (o2.from ev2 (relV_from ev2))).mono fun u H3 ⟨z, F3, ρ3, e3, s3, ev3, r3, o3⟩ => ?_)
  have o4 := o3.from ev3 (relV_from ev3)
  split at o4
  · obtain rfl := vr_bl r3
    refine ⟨true, rfl, ?_⟩
    rw [if_pos rfl]
    refine ⟨F3, ρ3, s3, (Out.bind (rel := relV X.K σ) o4).mono fun w' H4 ⟨z', F4, ρ4, e4, s4, ev4, r4, o5⟩ => ?_⟩
    exact opV_ok s' s4 (VR.ev (VR.ev r2 ev3) ev4) r4 (o5.from ev4 (relV_from ev4))
  · obtain rfl := vr_bl r3
    refine ⟨false, rfl, ?_⟩
    rw [if_neg Bool.false_ne_true]
    exact o4 (.bl false) F3 H3 s3 .refl (Rep.bl false)
  · exact o4.elim
theorem de_chain {o o' : CmpOp} {r r' : R2} {op op' : D → D → Option Val} (ho : OpR X (compareOp o) r) (s : OpS X.K r op) (ho' : OpR X (compareOp o') r') (s' : OpS X.K r' op') (ha : DE X E a f) (hb : DE X E b g) (hc : DE X E c h) (hm : lastMarks [o, o'] [b, c] = false := by rfl) : DE X E (.Compare a [o, o'] [b, c] pos) (eChain op op' f g h) :=
  pe_conseq (pe_chain ho ho' ha hb hc hm) fun _ _ _ => chain_ok s s'
theorem dt_chain {o o' : CmpOp} {r r' : R2} {op op' : D → D → Option Val} (ho : OpR X (compareOp o) r) (s : OpS X.K r op) (ho' : OpR X (compareOp o') r') (s' : OpS X.K r' op') (ha : DE X E a f) (hb : DE X E b g) (hc : DE X E c h) (hm : lastMarks [o, o'] [b, c] = false := by rfl) : DT X E (.Compare a [o, o'] [b, c] pos) (tst (eChain op op' f g h)) :=
  pt_conseq (pt_chain ho ho' ha hb hc hm) fun σ H Q hq => by
    obtain ⟨F, ρ, sr, q⟩ := tst_ok hq
    exact chain_ok s s' ⟨F, ρ, sr, q⟩
theorem de_leLe (ha : DE X E a f) (hb : DE X E b g) (hc : DE X E c h) (hm : lastMarks [.LtE, .LtE] [b, c] = false := by rfl) : DE X E (.Compare a [.LtE, .LtE] [b, c] pos) (eChain leD leD f g h) := de_chain op_le os_cmp0 op_le os_cmp0 ha hb hc hm
theorem dt_leLe (ha : DE X E a f) (hb : DE X E b g) (hc : DE X E c h) (hm : lastMarks [.LtE, .LtE] [b, c] = false := by rfl) : DT X E (.Compare a [.LtE, .LtE] [b, c] pos) (tst (eChain leD leD f g h)) := dt_chain op_le os_cmp0 op_le os_cmp0 ha hb hc hm
theorem de_leLt (ha : DE X E a f) (hb : DE X E b g) (hc : DE X E c h) (hm : lastMarks [.LtE, .Lt] [b, c] = false := by rfl) : DE X E (.Compare a [.LtE, .Lt] [b, c] pos) (eChain leD ltD f g h) := de_chain op_le os_cmp0 op_lt os_cmp0 ha hb hc hm
theorem dt_leLt (ha : DE X E a f) (hb : DE X E b g) (hc : DE X E c h) (hm : lastMarks [.LtE, .Lt] [b, c] = false := by rfl) : DT X E (.Compare a [.LtE, .Lt] [b, c] pos) (tst (eChain leD ltD f g h)) := dt_chain op_le os_cmp0 op_lt os_cmp0 ha hb hc hm

/-! ### in -/
def flatD : D → Bool
  | .non => true
  | .bl _ => true
  | .int _ => true
  | .str _ => true
  | _ => false
def eqF : D → D → Bool
  | .non, .non => true
  | .bl a, .bl b => a == b
  | .bl a, .int b => (if a then 1 else 0) == b
  | .int a, .bl b => a == (if b then 1 else 0)
  | .int a, .int b => a == b
  | .str a, .str b => a == b
  | _, _ => false
def inS (x : D) (xs : List D) : Bool := xs.any fun y => eqF y x
def inSeqD (neg : Bool) : D → D → Option Val := fun x y => match y with
  | .lst xs => if flatD x = true ∧ xs.all flatD = true then some (.d (.bl (if neg then !inS x xs else inS x xs))) else none
  | .tup xs => if flatD x = true ∧ xs.all flatD = true then some (.d (.bl (if neg then !inS x xs else inS x xs))) else none
  | _ => none
section
variable {K : PySem.W.Frag} {F H : Hp}
theorem flat_ok {v : V} {x : D} (h : Rep K F v x) (e : flatD x = true) : flatV v = true := by
  cases h <;> first | rfl | cases e
theorem flatL_ok : ∀ {vs : List V} {xs : List D}, RepL K F vs xs → xs.all flatD = true → vs.all flatV = true
  | _, _, .nil, _ => rfl
  | _, _, .cons a b, e => by
    simp only [List.all_cons, Bool.and_eq_true] at e ⊢
    exact ⟨flat_ok a e.1, flatL_ok b e.2⟩
theorem eqF_ok {v w : V} {x y : D} (h : Rep K F v x) (h' : Rep K F w y) : eqV v w = eqF x y := by
  cases h <;> cases h' <;> rfl
theorem inS_ok {v : V} {x : D} (h : Rep K F v x) : ∀ {vs : List V} {xs : List D}, RepL K F vs xs → inV v vs = inS x xs
  | _, _, .nil => rfl
  | _, _, .cons a b => by
    unfold inV inS
    rw [List.any_cons, List.any_cons, eqF_ok a h]
    exact congrArg _ (inS_ok h b)
theorem RepT.flat {v : V} {x : D} (h : RepT K F H v x) (e : flatD x = true) : Rep K F v x := by
  cases x <;> first | exact h | cases e
theorem os_inSeq (neg : Bool) : OpS K (rIn K neg) (inSeqD neg) := by
  intro F H v w a b z Q s ra rb e q
  unfold inSeqD at e
  split at e
  · obtain ⟨p, xs, rfl, hl, r⟩ := rb.lst
    split at e
    · rename_i hh
      cases e
      have rx := ra.flat hh.1
      refine ⟨p, xs, rfl, .inl (.of hl), flat_ok rx hh.1, flatL_ok r hh.2, ?_⟩
      rw [inS_ok rx r]
      exact vn_bl s q
    · cases e
  · obtain ⟨p, xs, rfl, hl, r⟩ := rb.tup s
    split at e
    · rename_i hh
      cases e
      have rx := ra.flat hh.1
      refine ⟨p, xs, rfl, .inr hl, flat_ok rx hh.1, flatL_ok r hh.2, ?_⟩
      rw [inS_ok rx r]
      exact vn_bl s q
    · cases e
  · cases e
end
end
end DL
/-! DL5: in, subscripts, slices, displays, built-in functions. -/
namespace DL
open PySem PySem.Spec PyProof.Rows L2
section
variable {X : Cx} {E : WX} {xk : XK} {a b c e : Expr} {es : List Expr} {f g h : EM} {t u : M Bool} {pos : Pos}
/-! ### either of two operations, by what they are given -/
def orOp (op op' : D → D → Option Val) : D → D → Option Val := fun a b => match op a b with | some z => some z | none => op' a b
theorem eOp_or {op op' : D → D → Option Val} {σ : L2.St} {H : Hp} {Q : VK} (hq : tD X.K X.mg E (eOp (orOp op op') f g) σ H Q) : tD X.K X.mg E (eOp op f g) σ H Q ∨ tD X.K X.mg E (eOp op' f g) σ H Q := by
  obtain ⟨F, ρ, sr, q⟩ := hq
  unfold eOp at q
  cases h1 : f ρ with
  | bad => rw [h1] at q; exact q.elim
  | ex x ρ1 => rw [h1] at q; exact .inl ⟨F, ρ, sr, by unfold eOp; rw [h1]; exact q⟩
  | ok x ρ1 =>
    cases h2 : g ρ1 with
    | bad => rw [h1] at q; simp only [R.bind, h2] at q; exact q.elim
    | ex y ρ2 => rw [h1] at q; simp only [R.bind, h2] at q; exact .inl ⟨F, ρ, sr, by unfold eOp; rw [h1]; simp only [R.bind, h2]; exact q⟩
    | ok y ρ2 =>
      rw [h1] at q
      simp only [R.bind, h2] at q
      cases hx : x.peek ρ2 with
      | none => simp only [opV, hx] at q; exact q.elim
      | some p =>
        cases hy : y.peek ρ2 with
        | none => simp only [opV, hx, hy] at q; exact q.elim
        | some r =>
          cases hz : op p r with
          | some z => exact .inl ⟨F, ρ, sr, by unfold eOp; rw [h1]; simp only [R.bind, h2, opV, hx, hy, hz]; simpa only [opV, hx, hy, orOp, hz] using q⟩
          | none => exact .inr ⟨F, ρ, sr, by unfold eOp; rw [h1]; simp only [R.bind, h2, opV, hx, hy]; simpa only [opV, hx, hy, orOp, hz] using q⟩
theorem de_opOr {r r' : R2} {op op' : D → D → Option Val} (h : PE X e (tOp r (tD X.K X.mg E f) (tD X.K X.mg E g))) (s : OpS X.K r op) (h' : PE X e (tOp r' (tD X.K X.mg E f) (tD X.K X.mg E g))) (s' : OpS X.K r' op') : DE X E e (eOp (orOp op op') f g) :=
  pe_conseq (pe_or2 h h') fun _ _ _ hq => (eOp_or hq).imp (two s) (two s')

/-! ### dicts, looked up -/
def keyD : D → Option Key
  | .int i => some (.inl i)
  | .str x => some (.inr x)
  | _ => none
def dLook : List Key → List D → Key → Option D
  | k :: ks, v :: vs, j => if k = j then some v else dLook ks vs j
  | _, _, _ => none
section
variable {K : PySem.W.Frag} {F H : Hp}
theorem keyD_ok {v : V} {x : D} {k : Key} (h : Rep K F v x) (e : keyD x = some k) : v = kV k := by
  cases h <;> cases e <;> rfl
theorem RepT.key {v : V} {x : D} {k : Key} (h : RepT K F H v x) (e : keyD x = some k) : v = kV k := by
  cases x with
  | int i => exact keyD_ok (show Rep K F v _ from h) e
  | str i => exact keyD_ok (show Rep K F v _ from h) e
  | _ => cases e
theorem valV_zip_cons {k j : Key} {v : V} {ks : List Key} {vs : List V} : valV ((k, v) :: ks.zip vs) j = if k = j then some v else valV (ks.zip vs) j := by
  unfold valV
  rw [List.find?_cons]
  by_cases h : k = j
  · rw [if_pos h]; simp [h]
  · rw [if_neg h]; simp [h]
theorem dLook_ok : ∀ {ks : List Key} {vs : List V} {ds : List D} {j : Key}, ks.length = vs.length → RepL K F vs ds →
    (∃ v d, valV (ks.zip vs) j = some v ∧ dLook ks ds j = some d ∧ Rep K F v d) ∨ (valV (ks.zip vs) j = none ∧ dLook ks ds j = none)
  | [], _, _, j, _, _ => .inr ⟨rfl, by cases ‹List D› <;> rfl⟩
  | k :: ks, [], _, j, l, _ => by simp at l
  | k :: ks, v :: vs, _, j, l, .cons (d := d) (ds := ds) a b => by
    rw [List.zip_cons_cons, valV_zip_cons]
    unfold dLook
    by_cases h : k = j
    · rw [if_pos h, if_pos h]; exact .inl ⟨v, d, rfl, rfl, a⟩
    · rw [if_neg h, if_neg h]; exact dLook_ok (by simpa using l) b
theorem RepT.dic {v : V} {ks : List Key} {ds : List D} (h : RepT K F H v (.dic ks ds)) : ∃ a xs, v = .ref a ∧ Rd H a (.dK (ks.zip xs)) ∧ ks.length = xs.length ∧ RepL K F xs ds := h
end
def idxD1 : D → D → Option Val
  | .lst xs, .int i => (atI xs i).map .d
  | .tup xs, .int i => (atI xs i).map .d
  | .scr ns, .int i => (atI ns i).map fun k => .d (.int k)
  | _, _ => none
def idxD2 : D → D → Option Val
  | .dic ks vs, y => match keyD y with
    | some k => (dLook ks vs k).map .d
    | none => none
  | _, _ => none
def idxD3 : D → D → Option Val
  | .str z, .int i => if z.length ≤ 16777216 then (atI z.cps.toList i).map fun c => .d (.str ⟨#[c]⟩) else none
  | _, _ => none
section
variable {K : PySem.W.Frag} {F H : Hp}
theorem atI_rep {vs : List V} {ds : List D} {i : Int} {d : D} (r : RepL K F vs ds) (e : atI ds i = some d) : ∃ v, atI vs i = some v ∧ Rep K F v d := by
  unfold atI at e ⊢
  rw [r.length]
  cases h : ixN ds.length i with
  | none => rw [h] at e; cases e
  | some j => rw [h] at e; exact r.get e
theorem atI_map {α β : Type} {f : α → β} {xs : List α} {i : Int} {x : α} (e : atI xs i = some x) : atI (xs.map f) i = some (f x) := by
  unfold atI at e ⊢
  rw [List.length_map]
  cases h : ixN xs.length i with
  | none => rw [h] at e; cases e
  | some j =>
    rw [h] at e
    show (xs.map f)[j]? = _
    rw [List.getElem?_map, show xs[j]? = some x from e]
    rfl
theorem os_idx1 : OpS K (rIx K) idxD1 := by
  intro F H v w a b z Q s ra rb e q
  unfold idxD1 at e
  split at e
  · obtain ⟨p, xs, rfl, hl, r⟩ := ra.lst
    obtain rfl := rb.int
    rename_i xs' i
    cases h : atI xs' i with
    | none => rw [h] at e; cases e
    | some d =>
      rw [h] at e; cases e
      obtain ⟨v, h1, h2⟩ := atI_rep r h
      exact .inl ⟨p, xs, i, v, rfl, rfl, .of hl, h1, vn_d s q h2⟩
  · obtain ⟨p, xs, rfl, hl, r⟩ := ra.tup s
    obtain rfl := rb.int
    rename_i xs' i
    cases h : atI xs' i with
    | none => rw [h] at e; cases e
    | some d =>
      rw [h] at e; cases e
      obtain ⟨v, h1, h2⟩ := atI_rep r h
      exact .inr (.inl ⟨p, xs, i, v, rfl, rfl, hl, h1, vn_d s q h2⟩)
  · obtain ⟨p, rfl, hl⟩ := ra.scr s
    obtain rfl := rb.int
    rename_i ns i
    cases h : atI ns i with
    | none => rw [h] at e; cases e
    | some d =>
      rw [h] at e; cases e
      exact .inl ⟨p, _, i, _, rfl, rfl, hl, atI_map h, vn_int s q⟩
  · cases e
theorem os_idx3 : OpS K (rIx K) idxD3 := by
  intro F H v w a b z Q s ra rb e q
  unfold idxD3 at e
  split at e
  · obtain rfl := ra.str
    obtain rfl := rb.int
    split at e
    · rename_i z' i hz
      cases h : atI z'.cps.toList i with
      | none => rw [h] at e; cases e
      | some d =>
        rw [h] at e; cases e
        exact .inr (.inr ⟨_, _, d, rfl, rfl, by rw [sizeLine_eq]; exact hz, h, vn_str s q⟩)
    · cases e
  · cases e
def rDG : R2 := fun x y H Q => ∃ a v, x = .ref a ∧ DGet H a y (some v) ∧ Q v H
theorem os_idx2 : OpS K rDG idxD2 := by
  intro F H v w a b z Q s ra rb e q
  unfold idxD2 at e
  split at e
  · obtain ⟨p, xs, rfl, hl, ln, r⟩ := ra.dic
    split at e
    · rename_i k hk
      obtain rfl := rb.key hk
      rcases dLook_ok (j := k) ln r with ⟨v, d, h1, h2, h3⟩ | ⟨h1, h2⟩
      · rw [h2] at e; cases e
        exact ⟨p, v, rfl, .inl ⟨_, k, hl, rfl, h1.symm⟩, vn_d s q h3⟩
      · rw [h2] at e; cases e
    · cases e
  · cases e
/-- one reading, two operations -/
theorem os_or' {r : R2} {op op' : D → D → Option Val} (h : OpS K r op) (h' : OpS K r op') : OpS K r (orOp op op') := by
  intro F H v w a b z Q s ra rb e q
  unfold orOp at e
  cases hz : op a b with
  | some y => rw [hz] at e; cases e; exact h F H v w a b _ Q s ra rb hz q
  | none => rw [hz] at e; exact h' F H v w a b _ Q s ra rb e q
end
def idxD : D → D → Option Val := orOp (orOp idxD1 idxD3) idxD2
theorem de_idx (hu : X.A.units + 1 < cLine) (ha : DE X E a f) (hb : DE X E b g) (hs : PlainIx b := by exact fun _ _ => rfl) (hn : NoSl b := by exact fun _ _ => rfl) : DE X E (.Subscript a b pos) (eOp idxD f g) :=
  de_opOr (pe_ix ix_seq ha hb hs) (os_or' os_idx1 os_idx3) (pe_dget hu ha hb hn) os_idx2
/-! ### in -/
def inDicD (neg : Bool) : D → D → Option Val := fun x y => match y with
  | .dic ks vs => match keyD x with
    | some k => some (.d (.bl (if neg then !(dLook ks vs k).isSome else (dLook ks vs k).isSome)))
    | none => none
  | _ => none
def rDI (neg : Bool) : R2 := fun y x H Q => ∃ a o, x = .ref a ∧ DGet H a y o ∧ Q (.bl (if neg then !o.isSome else o.isSome)) H
theorem os_inDic {K : PySem.W.Frag} (neg : Bool) : OpS K (rDI neg) (inDicD neg) := by
  intro F H v w a b z Q s ra rb e q
  unfold inDicD at e
  split at e
  · obtain ⟨p, xs, rfl, hl, ln, r⟩ := rb.dic
    split at e
    · rename_i k hk
      cases e
      obtain rfl := ra.key hk
      rcases dLook_ok (j := k) ln r with ⟨v, d, h1, h2, h3⟩ | ⟨h1, h2⟩
      · refine ⟨p, some v, rfl, .inl ⟨_, k, hl, rfl, h1.symm⟩, ?_⟩
        rw [h2] at q
        exact vn_bl s q
      · refine ⟨p, none, rfl, .inl ⟨_, k, hl, rfl, h1.symm⟩, ?_⟩
        rw [h2] at q
        exact vn_bl s q
    · cases e
  · cases e
def inD : D → D → Option Val := orOp (inSeqD false) (inDicD false)
def ninD : D → D → Option Val := orOp (inSeqD true) (inDicD true)
theorem de_in (hu : X.A.units + 1 < cLine) (ha : DE X E a f) (hb : DE X E b g) (hm : behindInMarks .In b = false := by rfl) : DE X E (.Compare a [.In] [b] pos) (eOp inD f g) :=
  de_opOr (pe_cmpR op_in_seq ha hb hm) (os_inSeq false) (pe_cmp (pc_din hu ha hb) hm) (os_inDic false)
theorem de_nin (hu : X.A.units + 1 < cLine) (ha : DE X E a f) (hb : DE X E b g) (hm : behindInMarks .NotIn b = false := by rfl) : DE X E (.Compare a [.NotIn] [b] pos) (eOp ninD f g) :=
  de_opOr (pe_cmpR op_notIn_seq ha hb hm) (os_inSeq true) (pe_cmp (pc_dnotin hu ha hb) hm) (os_inDic true)
/-- an in as a test, by its value -/
theorem dt_in (hu : X.A.units + 1 < cLine) (ha : DE X E a f) (hb : DE X E b g) (hm : behindInMarks .In b = false := by rfl) : DT X E (.Compare a [.In] [b] pos) (tst (eOp inD f g)) :=
  pt_conseq (⟨fun pins s σ H Q I q => q.elim ((pt_cmpR op_in_seq ha hb hm).run pins s σ H Q I) ((pt_cmp (pc_din hu ha hb) hm).run pins s σ H Q I)⟩ : PT X _ (fun σ H Q => _ ∨ _)) fun σ H Q hq => by
    obtain ⟨F, ρ, sr, q⟩ := tst_ok hq
    exact (eOp_or ⟨F, ρ, sr, q⟩).imp (two (os_inSeq false)) (two (os_inDic false))
theorem dt_nin (hu : X.A.units + 1 < cLine) (ha : DE X E a f) (hb : DE X E b g) (hm : behindInMarks .NotIn b = false := by rfl) : DT X E (.Compare a [.NotIn] [b] pos) (tst (eOp ninD f g)) :=
  pt_conseq (⟨fun pins s σ H Q I q => q.elim ((pt_cmpR op_notIn_seq ha hb hm).run pins s σ H Q I) ((pt_cmp (pc_dnotin hu ha hb) hm).run pins s σ H Q I)⟩ : PT X _ (fun σ H Q => _ ∨ _)) fun σ H Q hq => by
    obtain ⟨F, ρ, sr, q⟩ := tst_ok hq
    exact (eOp_or ⟨F, ρ, sr, q⟩).imp (two (os_inSeq true)) (two (os_inDic true))

/-! ### arguments, displays -/
def aNil : M (List Val) := fun ρ => .ok [] ρ
def aCons (f : EM) (g : M (List Val)) : M (List Val) := fun ρ => (f ρ).bind fun x ρ1 => (g ρ1).bind fun xs ρ2 => .ok (x :: xs) ρ2
theorem da_nil : DA X E [] aNil := pa_conseq pa_nil fun σ H Q hq => by
  obtain ⟨F, ρ, sr, q⟩ := hq
  exact q [] F H sr .refl ⟨.nil, fun i j c c' p h => by simp at h⟩
theorem relL_base {K : PySem.W.Frag} {σ : L2.St} {ρ ρ1 : DEnv} {F H F1 H1 : Hp} (ev : Ev σ ρ F H σ ρ1 F1 H1) : ∀ F' H' ρ' v x, relL K σ H1 F' H' ρ' v x → relL K σ H F' H' ρ' v x := fun F' H' ρ' v x h => by
  refine ⟨?_, h.frs⟩
  have := h.all
  clear h
  induction this with
  | nil => exact .nil
  | cons a b ih => exact .cons (VR.base a ev.dom) ih
theorem paired_get {α β : Type} {G : α → β → Prop} : ∀ {l : List α} {m : List β} {i : Nat} {x : α} {y : β}, Paired G l m → l[i]? = some x → m[i]? = some y → G x y
  | _, _, _, _, _, .nil, e, _ => by simp at e
  | _, _, 0, _, _, .cons a b, e, e' => by simp at e e'; subst e; subst e'; exact a
  | _, _, i + 1, _, _, .cons a b, e, e' => paired_get (i := i) b (by simpa using e) (by simpa using e')
theorem aCons_read {g : M (List Val)} {σ : L2.St} {H : Hp} {Q : List V → Hp → Prop} (hq : tA X.K X.mg E (aCons f g) σ H Q) : tCons (tD X.K X.mg E f) (tA X.K X.mg E g) σ H Q := by
  obtain ⟨F, ρ, sr, q⟩ := hq
  refine ⟨F, ρ, sr, (Out.bind (rel := relV X.K σ) q).mono fun v H1 ⟨x, F1, ρ1, e1, s1, ev1, r1, o1⟩ => ?_⟩
  refine ⟨F1, ρ1, s1, (Out.bind (rel := relL X.K σ) (o1.from ev1 (relL_base ev1))).mono fun vs H2 ⟨xs, F2, ρ2, e2, s2, ev2, r2, o2⟩ => ?_⟩
  rw [e2] at o1
  have nn : ∀ c, x = .fr c → ∀ p, v = .ref p → ¬ H1 p = none := fun c e p e' z => by
    subst e
    obtain ⟨p', e2, _, _, cr, _⟩ := r1
    rw [e'] at e2; cases e2
    obtain ⟨o, ho⟩ := cr.some
    rw [z] at ho; cases ho
  have nw : ∀ (i : Nat) (c : Cont) (p : Addr), xs[i]? = some (.fr c) → vs[i]? = some (.ref p) → H1 p = none := fun i c p e e' => by
    obtain ⟨p', e3, n, _⟩ := paired_get r2.all e' e
    cases e3
    exact n
  refine o1 (v :: vs) F2 H2 s2 (ev1.trans ev2) ⟨.cons (VR.ev r1 ev2) (relL_base ev1 _ _ _ _ _ r2).all, fun i j c c' p h1 h2 h3 h4 => ?_⟩
  cases i with
  | zero =>
    cases j with
    | zero => rfl
    | succ j => exact absurd (nw j c' p (by simpa using h2) (by simpa using h4)) (nn c (by simpa using h1) p (by simpa using h3))
  | succ i =>
    cases j with
    | zero => exact absurd (nw i c p (by simpa using h1) (by simpa using h3)) (nn c' (by simpa using h2) p (by simpa using h4))
    | succ j => exact congrArg (· + 1) (r2.frs i j c c' p (by simpa using h1) (by simpa using h2) (by simpa using h3) (by simpa using h4))
theorem da_cons {g : M (List Val)} (ha : DE X E e f) (hb : DA X E es g) (hs : starEach (e :: es) X.env = (false, eval e X.env) :: starEach es X.env := by rfl) : DA X E (e :: es) (aCons f g) := pa_conseq (pa_cons ha hb hs) fun σ H Q hq => aCons_read hq
/-- frozen values -/
def dsL : List Val → Option (List D)
  | [] => some []
  | .d x :: xs => (dsL xs).map (x :: ·)
  | _ :: _ => none
theorem dsL_ok {K : PySem.W.Frag} {σ : L2.St} {Hb F H : Hp} {ρ : DEnv} : ∀ {vs : List V} {xs : List Val} {ds : List D}, Paired (VR K σ Hb F H ρ) vs xs → dsL xs = some ds → RepL K F vs ds
  | _, _, _, .nil, e => by cases e; exact .nil
  | _, _, _, .cons (b := x) (l₂ := xs) r t, e => by
    cases x with
    | fr c => cases e
    | sl i => cases e
    | d x =>
      unfold dsL at e
      cases h : dsL xs with
      | none => rw [h] at e; cases e
      | some ds => rw [h] at e; cases e; exact .cons r (dsL_ok t h)
def mkTup (xs : List Val) : EM := fun ρ => match dsL xs with
  | some ds => if ds.length ≤ 16777216 then .ok (.d (.tup ds)) ρ else .bad
  | none => .bad
def mkLst (xs : List Val) : EM := fun ρ => match dsL xs with
  | some ds => if ds.length ≤ 16777216 then .ok (.fr (.lst ds)) ρ else .bad
  | none => .bad
def eTup (g : M (List Val)) : EM := fun ρ => (g ρ).bind mkTup
def eLst (g : M (List Val)) : EM := fun ρ => (g ρ).bind mkLst
section
variable {K : PySem.W.Frag} {F H : Hp}
theorem Gr.vtup {σ : L2.St} {ρ : DEnv} {xs : List V} {ds : List D} {p : Addr} (s : SR K F H σ ρ) (r : RepL K F xs ds) (n : H p = none) : Rep K (upd F p (.tup xs)) (.ref p) (.tup ds) :=
  .tup (.of upd_same) (r.mono (.of (froz_ext (Same.free s.sub n))))
end
theorem de_tup {g : M (List Val)} {x1} (h : DA X E es g) : DE X E (.Tuple es x1 pos) (eTup g) := pe_conseq (pe_tup h) fun σ H Q hq => by
  obtain ⟨F, ρ, sr, q⟩ := hq
  refine ⟨F, ρ, sr, (Out.bind (rel := relL X.K σ) q).mono fun vs H1 ⟨xs, F1, ρ1, e1, s1, ev1, r1, o1⟩ => ?_⟩
  have o2 := o1.from ev1 (relV_from ev1)
  unfold mkTup at o2
  split at o2
  · rename_i ds hd
    split at o2
    · rename_i hl
      have r := dsL_ok r1.all hd
      refine ⟨by rw [r.length, sizeLine_eq]; exact hl, fun p n => ?_⟩
      have g := Gr.froz (o := .tup vs) s1.sub n
      exact o2 _ _ _ (g.sr s1) g.ev (Gr.vtup s1 r n)
    · exact o2.elim
  · exact o2.elim
theorem fr_vr {K : PySem.W.Frag} {σ : L2.St} {ρ : DEnv} {F H H' : Hp} {p : Addr} {c : Cont} (sr : SR K F H σ ρ) (n : H p = none) (nF : F p = none) (cr : CRep K F H' p c) : VR K σ H F H' ρ (.ref p) (.fr c) := by
  refine ⟨p, rfl, n, nF, cr, fun ⟨i, c', m, q1, q2⟩ => ?_⟩
  obtain ⟨ov, h1, a, h2, _, cr'⟩ := sr.slot i _ q1
  rw [q2] at h1; cases h1
  cases h2
  obtain ⟨o, ho⟩ := cr'.some
  rw [n] at ho; cases ho
theorem de_lst {g : M (List Val)} (h : DA X E es g) : DE X E (.List es pos) (eLst g) := pe_conseq (pe_lst h) fun σ H Q hq => by
  obtain ⟨F, ρ, sr, q⟩ := hq
  refine ⟨F, ρ, sr, (Out.bind (rel := relL X.K σ) q).mono fun vs H1 ⟨xs, F1, ρ1, e1, s1, ev1, r1, o1⟩ => ?_⟩
  have o2 := o1.from ev1 (relV_from ev1)
  unfold mkLst at o2
  split at o2
  · rename_i ds hd
    split at o2
    · rename_i hl
      have r := dsL_ok r1.all hd
      refine ⟨by rw [r.length, sizeLine_eq]; exact hl, fun p n => ?_⟩
      have g := Gr.fresh (o := .lst vs) s1.sub n
      exact o2 _ _ _ (g.sr s1) g.ev (fr_vr s1 n (Same.free s1.sub n) ⟨vs, upd_same, r⟩)
    · exact o2.elim
  · exact o2.elim

/-! ### slices -/
def cutD {α : Type} (xs : List α) (lo hi : Option Int) : List α := (xs.drop (HT.sIx xs.length 0 lo)).take (HT.sIx xs.length xs.length hi - HT.sIx xs.length 0 lo)
def sliceD (x : D) (lo hi : Option Int) : Option Val := match x with
  | .lst xs => some (.fr (.lst (cutD xs lo hi)))
  | .tup xs => some (.d (.tup (cutD xs lo hi)))
  | .str z => if z.length ≤ 16777216 then some (.d (.str (Txt.slice z lo hi))) else none
  | _ => none
abbrev OM := M (Option Int)
def oNone : OM := fun ρ => .ok none ρ
def oSome (f : EM) : OM := fun ρ => (f ρ).bind fun x ρ1 => match x with
  | .d (.int i) => .ok (some i) ρ1
  | _ => .bad
def relO : RelT (Option Int) (Option Int) := fun _ _ _ _ v x => v = x
def DO (X : Cx) (E : WX) (e : Option Expr) (f : OM) : Prop := PO X e (fun σ H Q => ∃ F ρ, SR X.K F H σ ρ ∧ Out X.K X.mg (fun c d H => E c d σ H) relO σ ρ F H (f ρ) Q)
theorem po_conseq {e : Option Expr} {t t' : TO} (h : PO X e t) (c : ∀ σ H Q, t' σ H Q → t σ H Q) : PO X e t' := ⟨fun pins s σ H Q I q => h.run pins s σ H Q I (c _ _ _ q)⟩
theorem do_none : DO X E none oNone := po_conseq po_none fun σ H Q hq => by
  obtain ⟨F, ρ, sr, q⟩ := hq
  exact q none F H sr .refl rfl
theorem do_some (h : DE X E e f) : DO X E (some e) (oSome f) := po_conseq (po_some h) fun σ H Q hq => by
  obtain ⟨F, ρ, sr, q⟩ := hq
  refine ⟨F, ρ, sr, (Out.bind (rel := relV X.K σ) q).mono fun v H1 ⟨x, F1, ρ1, e1, s1, ev1, r1, o1⟩ => ?_⟩
  have o2 := o1.from ev1 fun _ _ _ _ _ h => h
  split at o2
  · rename_i i
    obtain rfl := vr_int r1
    exact ⟨i, rfl, o2 (some i) F1 H1 s1 .refl rfl⟩
  · exact o2.elim
def eSl (f : EM) (l u : OM) : EM := fun ρ => (f ρ).bind fun x ρ1 => (l ρ1).bind fun lo ρ2 => (u ρ2).bind fun hi ρ3 => unV (fun d => sliceD d lo hi) x ρ3
def rSlAll (K : PySem.W.Frag) : V → Option Int → Option Int → Hp → VK → Prop := fun x lo hi H Q => rSlL K x lo hi H Q ∨ (rSlA K x lo hi H Q ∨ C8.rSlX x lo hi H Q)
theorem cut_rep {K : PySem.W.Frag} {F : Hp} {vs : List V} {ds : List D} (r : RepL K F vs ds) (lo hi : Option Int) : RepL K F (cutV vs lo hi) (cutD ds lo hi) := by
  unfold cutV cutD
  rw [r.length]
  exact (r.drop _).take _
theorem us_slice {K : PySem.W.Frag} (lo hi : Option Int) : UnS K (fun x H Q => rSlAll K x lo hi H Q) (fun d => sliceD d lo hi) := by
  intro F H v a z Q s ra e q
  dsimp only at e
  unfold sliceD at e
  split at e
  · cases e
    obtain ⟨p, xs, rfl, hl, r⟩ := ra.lst
    exact .inl ⟨p, xs, rfl, .of hl, fun p' n => vn_lst s q (cut_rep r lo hi) n⟩
  · cases e
    have ra' : Rep K F v (.tup _) := ra
    obtain ⟨p, xs, rfl, hl, r⟩ := ra.tup s
    refine .inr (.inl ⟨p, xs, rfl, hl, fun hh => ?_, fun _ p' n => vn_tup s q (cut_rep r lo hi) n⟩)
    refine vn_d s q ?_
    have e2 : ∀ {α : Type} (l : List α), HT.sIx l.length 0 lo = 0 ∧ HT.sIx l.length l.length hi = l.length → cutD l lo hi = l := fun l h => by
      unfold cutD
      rw [h.1, h.2, List.drop_zero, Nat.sub_zero, List.take_length]
    rw [e2 _ (by rw [← r.length]; exact hh)]
    exact ra'
  · split at e
    · rename_i hz
      cases e
      obtain rfl := ra.str
      exact .inr (.inr ⟨_, rfl, by rw [sizeLine_eq]; exact hz, vn_str s q⟩)
    · cases e
  · cases e
theorem de_slice {lo hi : Option Expr} {l u : OM} {p2 : Pos} (ha : DE X E a f) (hl : DO X E lo l) (hh : DO X E hi u) : DE X E (.Subscript a (.Slice lo hi none p2) pos) (eSl f l u) :=
  pe_conseq (pe_slice (SlR.or sl_list (SlR.or sl_tupA C8.sl_txt)) ha hl hh) fun σ H Q hq => by
    obtain ⟨F, ρ, sr, q⟩ := hq
    refine ⟨F, ρ, sr, (Out.bind (rel := relV X.K σ) q).mono fun v H1 ⟨x, F1, ρ1, e1, s1, ev1, r1, o1⟩ => ?_⟩
    refine ⟨F1, ρ1, s1, (Out.bind (rel := relO) (o1.from ev1 (relV_from ev1))).mono fun lo' H2 ⟨y, F2, ρ2, e2, s2, ev2, r2, o2⟩ => ?_⟩
    have r2 : lo' = y := r2
    subst r2
    refine ⟨F2, ρ2, s2, (Out.bind (rel := relO) (o2.from ev2 (relV_from ev2))).mono fun hi' H3 ⟨z, F3, ρ3, e3, s3, ev3, r3, o3⟩ => ?_⟩
    have r3 : hi' = z := r3
    subst r3
    exact unV_ok (us_slice lo' hi') s3 (VR.ev (VR.ev r1 ev2) ev3) (o3.from ev3 (relV_from ev3))
end
end DL
/-! DL6: built-in functions. -/
namespace DL
open PySem PySem.Spec PyProof.Rows L2
section
variable {X : Cx} {E : WX} {xk : XK} {a b c e : Expr} {es : List Expr} {f g h : EM} {pos p : Pos}
theorem callr_or {fv : Value} {r r' : List V → Hp → VK → Prop} (h : CallR X fv r) (h' : CallR X fv r') : CallR X fv (fun xs H Q => r xs H Q ∨ r' xs H Q) :=
  fun pins s σ H xs us Q I rv q => q.elim (h pins s σ H xs us Q I rv) (h' pins s σ H xs us Q I rv)
theorem calls_ok {r : List V → Hp → VK → Prop} {op : List D → Option Val} {g : M (List Val)} (s : CallS X.K r op) {σ : L2.St} {H : Hp} {Q : VK} (hq : tD X.K X.mg E (eCallB op g) σ H Q) : tCB r (tA X.K X.mg E g) σ H Q := by
  obtain ⟨F, ρ, sr, q⟩ := hq
  refine ⟨F, ρ, sr, (Out.bind (rel := relL X.K σ) q).mono fun vs H1 ⟨xs, F1, ρ1, e1, s1, ev1, r1, o1⟩ => ?_⟩
  exact callV_ok s s1 r1 (o1.from ev1 (relV_from ev1))
theorem de_callB {x : Str} {id : String} {r : List V → Hp → VK → Prop} {op : List D → Option Val} {g : M (List Val)} (hc : CallR X (.builtin id) r) (s : CallS X.K r op) (hg : Gl X x) (hm : X.mg x = none) (hv : bootBuiltins x = some (.builtin id)) (ha : DA X E (e :: es) g) (hn : x ≠ "__name__" := by decide) (hdb : (x == ("__debug__" : Str)) = false := by decide)
    (he : starEach (e :: es) X.env = (false, eval e X.env) :: starEach es X.env := by rfl) (hpl : (backTo pos (starEach es X.env)).any (·.1) = false := by rfl) : DE X E (.Call (.Name x p) (e :: es) [] pos) (eCallB op g) :=
  pe_conseq (pe_callB hc hg hm hv ha hn hdb he hpl) fun _ _ _ => calls_ok s
theorem de_callTy {x : Str} {T : String} {r : List V → Hp → VK → Prop} {op : List D → Option Val} {g : M (List Val)} (hc : CallR X (.type T) r) (s : CallS X.K r op) (hg : Gl X x) (hm : X.mg x = none) (hv : bootBuiltins x = some (.type T)) (ha : DA X E (e :: es) g) (hn : x ≠ "__name__" := by decide) (hdb : (x == ("__debug__" : Str)) = false := by decide)
    (he : starEach (e :: es) X.env = (false, eval e X.env) :: starEach es X.env := by rfl) (hpl : (backTo pos (starEach es X.env)).any (·.1) = false := by rfl) : DE X E (.Call (.Name x p) (e :: es) [] pos) (eCallB op g) :=
  pe_conseq (pe_callTy hc hg hm hv ha hn hdb he hpl) fun _ _ _ => calls_ok s
section
variable {K : PySem.W.Frag} {F H : Hp}
theorem rep1 {vs : List V} {a : D} (h : RepTL K F H vs [a]) : ∃ v, vs = [v] ∧ RepT K F H v a := by
  cases h with
  | cons a t => cases t; exact ⟨_, rfl, a⟩
theorem rep2 {vs : List V} {a b : D} (h : RepTL K F H vs [a, b]) : ∃ v w, vs = [v, w] ∧ RepT K F H v a ∧ RepT K F H w b := by
  cases h with
  | cons a t =>
    obtain ⟨w, rfl, r⟩ := rep1 t
    exact ⟨_, w, rfl, a, r⟩
theorem intsV_of {vs : List V} {ns : List Int} (r : RepL K F vs (ns.map D.int)) : vs = ns.map V.int := r.intsV
def intsD : List D → Option (List Int)
  | [] => some []
  | .int i :: ds => (intsD ds).map (i :: ·)
  | _ :: _ => none
theorem intsD_ok : ∀ {ds : List D} {ns : List Int}, intsD ds = some ns → ds = ns.map D.int
  | [], ns, e => by cases e; rfl
  | .int i :: ds, ns, e => by
    unfold intsD at e
    cases h : intsD ds with
    | none => rw [h] at e; cases e
    | some ms => rw [h] at e; cases e; rw [intsD_ok h]; rfl
  | .non :: _, _, e => by cases e
  | .bl _ :: _, _, e => by cases e
  | .str _ :: _, _, e => by cases e
  | .tup _ :: _, _, e => by cases e
  | .lst _ :: _, _, e => by cases e
  | .dic _ _ :: _, _, e => by cases e
  | .set _ :: _, _, e => by cases e
  | .scr _ :: _, _, e => by cases e
  | .ty _ :: _, _, e => by cases e
  | .obj _ _ _ :: _, _, e => by cases e
theorem intsD_map : ∀ (ns : List Int), intsD (ns.map D.int) = some ns
  | [] => rfl
  | n :: ns => by
    show (intsD (ns.map D.int)).map (n :: ·) = _
    rw [intsD_map ns]; rfl
def blsD : List D → Option (List Bool)
  | [] => some []
  | .bl i :: ds => (blsD ds).map (i :: ·)
  | _ :: _ => none
theorem blsD_ok : ∀ {ds : List D} {ns : List Bool}, blsD ds = some ns → ds = ns.map D.bl
  | [], ns, e => by cases e; rfl
  | .bl i :: ds, ns, e => by
    unfold blsD at e
    cases h : blsD ds with
    | none => rw [h] at e; cases e
    | some ms => rw [h] at e; cases e; rw [blsD_ok h]; rfl
  | .non :: _, _, e => by cases e
  | .int _ :: _, _, e => by cases e
  | .str _ :: _, _, e => by cases e
  | .tup _ :: _, _, e => by cases e
  | .lst _ :: _, _, e => by cases e
  | .dic _ _ :: _, _, e => by cases e
  | .set _ :: _, _, e => by cases e
  | .scr _ :: _, _, e => by cases e
  | .ty _ :: _, _, e => by cases e
  | .obj _ _ _ :: _, _, e => by cases e
theorem blsD_map : ∀ (ns : List Bool), blsD (ns.map D.bl) = some ns
  | [] => rfl
  | n :: ns => by
    show (blsD (ns.map D.bl)).map (n :: ·) = _
    rw [blsD_map ns]; rfl
theorem RepL.blsV : ∀ {vs : List V} {ns : List Bool}, RepL K F vs (ns.map D.bl) → vs = ns.map V.bl
  | _, [], .nil => rfl
  | _, n :: ns, .cons a b => by
    cases a
    rw [RepL.blsV b]
    rfl

/-! ### len -/
def lenD : List D → Option Val
  | [.lst xs] => some (.d (.int xs.length))
  | [.tup xs] => some (.d (.int xs.length))
  | [.scr xs] => some (.d (.int xs.length))
  | [.str z] => if z.length ≤ 16777216 then some (.d (.int z.length)) else none
  | _ => none
theorem cs_len : CallS K (fun xs H Q => (∃ p ys, xs = [.ref p] ∧ (SqL K H p ys ∨ SqT K H p ys) ∧ Q (.int ys.length) H) ∨ ∃ x n, xs = [x] ∧ LenV K x H n ∧ Q (.int n) H) lenD := by
  intro F H vs as z Q s ra e q
  unfold lenD at e
  split at e
  · cases e
    obtain ⟨v, rfl, r⟩ := rep1 ra
    obtain ⟨p, xs, rfl, hl, r⟩ := r.lst
    refine .inl ⟨p, xs, rfl, .inl (.of hl), ?_⟩
    rw [r.length]
    exact vn_int s q
  · cases e
    obtain ⟨v, rfl, r⟩ := rep1 ra
    obtain ⟨p, xs, rfl, hl, r⟩ := r.tup s
    refine .inl ⟨p, xs, rfl, .inr hl, ?_⟩
    rw [r.length]
    exact vn_int s q
  · cases e
    obtain ⟨v, rfl, r⟩ := rep1 ra
    obtain ⟨p, rfl, hl⟩ := r.scr s
    refine .inl ⟨p, _, rfl, .inl hl, ?_⟩
    rw [List.length_map]
    exact vn_int s q
  · split at e
    · rename_i hz
      cases e
      obtain ⟨v, rfl, r⟩ := rep1 ra
      obtain rfl := r.str
      exact .inr ⟨_, _, rfl, ⟨by rw [sizeLine_eq]; exact hz, rfl⟩, vn_int s q⟩
    · cases e
  · cases e
/-! ### numbers -/
def absD : List D → Option Val
  | [.int i] => some (.d (.int (if i < 0 then -i else i)))
  | _ => none
theorem cs_abs : CallS K (fun xs H Q => ∃ i, xs = [.int i] ∧ Q (.int (if i < 0 then -i else i)) H) absD := by
  intro F H vs as z Q s ra e q
  unfold absD at e
  split at e
  · cases e
    obtain ⟨v, rfl, r⟩ := rep1 ra
    obtain rfl := r.int
    exact ⟨_, rfl, vn_int s q⟩
  · cases e
def maxL : List Int → Int
  | [] => 0
  | x :: xs => xs.foldl max x
def minL : List Int → Int
  | [] => 0
  | x :: xs => xs.foldl min x
theorem foldl_max : ∀ (xs : List Int) (x : Int), (xs.foldl max x = x ∨ xs.foldl max x ∈ xs) ∧ x ≤ xs.foldl max x ∧ ∀ y ∈ xs, y ≤ xs.foldl max x
  | [], x => ⟨.inl rfl, Int.le_refl _, fun y h => nomatch h⟩
  | z :: xs, x => by
    obtain ⟨h1, h2, h3⟩ := foldl_max xs (max x z)
    rw [List.foldl_cons]
    refine ⟨?_, by omega, fun y hy => ?_⟩
    · rcases h1 with h1 | h1
      · rw [h1]
        by_cases q : x ≤ z
        · right; rw [Int.max_eq_right q]; exact List.mem_cons_self ..
        · left; omega
      · right; exact List.mem_cons_of_mem _ h1
    · rcases List.mem_cons.mp hy with rfl | hy
      · omega
      · exact h3 y hy
theorem foldl_min : ∀ (xs : List Int) (x : Int), (xs.foldl min x = x ∨ xs.foldl min x ∈ xs) ∧ xs.foldl min x ≤ x ∧ ∀ y ∈ xs, xs.foldl min x ≤ y
  | [], x => ⟨.inl rfl, Int.le_refl _, fun y h => nomatch h⟩
  | z :: xs, x => by
    obtain ⟨h1, h2, h3⟩ := foldl_min xs (min x z)
    rw [List.foldl_cons]
    refine ⟨?_, by omega, fun y hy => ?_⟩
    · rcases h1 with h1 | h1
      · rw [h1]
        by_cases q : x ≤ z
        · left; omega
        · right; rw [Int.min_eq_right (by omega)]; exact List.mem_cons_self ..
      · right; exact List.mem_cons_of_mem _ h1
    · rcases List.mem_cons.mp hy with rfl | hy
      · omega
      · exact h3 y hy
theorem maxL_mem {ns : List Int} (h : ns ≠ []) : maxL ns ∈ ns := by
  cases ns with
  | nil => exact absurd rfl h
  | cons x xs =>
    rcases (foldl_max xs x).1 with e | e
    · show xs.foldl max x ∈ _
      rw [e]; exact List.mem_cons_self ..
    · exact List.mem_cons_of_mem _ e
theorem maxL_le {ns : List Int} {y : Int} (h : y ∈ ns) : y ≤ maxL ns := by
  cases ns with
  | nil => exact nomatch h
  | cons x xs =>
    rcases List.mem_cons.mp h with rfl | h
    · exact (foldl_max xs y).2.1
    · exact (foldl_max xs x).2.2 y h
theorem minL_mem {ns : List Int} (h : ns ≠ []) : minL ns ∈ ns := by
  cases ns with
  | nil => exact absurd rfl h
  | cons x xs =>
    rcases (foldl_min xs x).1 with e | e
    · show xs.foldl min x ∈ _
      rw [e]; exact List.mem_cons_self ..
    · exact List.mem_cons_of_mem _ e
theorem minL_le {ns : List Int} {y : Int} (h : y ∈ ns) : minL ns ≤ y := by
  cases ns with
  | nil => exact nomatch h
  | cons x xs =>
    rcases List.mem_cons.mp h with rfl | h
    · exact (foldl_min xs y).2.1
    · exact (foldl_min xs x).2.2 y h
def maxD : List D → Option Val
  | [.int i, .int j] => some (.d (.int (max i j)))
  | [.lst ds] => match intsD ds with
    | some (n :: ns) => some (.d (.int (maxL (n :: ns))))
    | _ => none
  | _ => none
def minD : List D → Option Val
  | [.int i, .int j] => some (.d (.int (min i j)))
  | [.lst ds] => match intsD ds with
    | some (n :: ns) => some (.d (.int (minL (n :: ns))))
    | _ => none
  | _ => none
theorem cs_max : CallS K (fun xs H Q => (∃ i j, xs = [.int i, .int j] ∧ Q (.int (if j > i then j else i)) H) ∨ rMax K xs H Q) maxD := by
  intro F H vs as z Q s ra e q
  unfold maxD at e
  split at e
  · rename_i i j
    cases e
    obtain ⟨v, w, rfl, r, r'⟩ := rep2 ra
    obtain rfl := r.int
    obtain rfl := r'.int
    refine .inl ⟨i, j, rfl, ?_⟩
    rw [show (if j > i then j else i) = max i j by split <;> omega]
    exact vn_int s q
  · rename_i ds
    split at e
    · rename_i n ns hn
      cases e
      obtain ⟨v, rfl, r⟩ := rep1 ra
      obtain ⟨p, xs, rfl, hl, r⟩ := r.lst
      rw [intsD_ok hn] at r
      obtain rfl := r.intsV
      refine .inr ⟨p, _, rfl, .of hl, by simp, fun m h1 h2 => ?_⟩
      have e1 : m = maxL (n :: ns) := Int.le_antisymm (maxL_le h1) (h2 _ (maxL_mem (by simp)))
      rw [e1]
      exact vn_int s q
    · cases e
  · cases e
theorem cs_min : CallS K (fun xs H Q => (∃ i j, xs = [.int i, .int j] ∧ Q (.int (if j < i then j else i)) H) ∨ rMin K xs H Q) minD := by
  intro F H vs as z Q s ra e q
  unfold minD at e
  split at e
  · rename_i i j
    cases e
    obtain ⟨v, w, rfl, r, r'⟩ := rep2 ra
    obtain rfl := r.int
    obtain rfl := r'.int
    refine .inl ⟨i, j, rfl, ?_⟩
    rw [show (if j < i then j else i) = min i j by split <;> omega]
    exact vn_int s q
  · rename_i ds
    split at e
    · rename_i n ns hn
      cases e
      obtain ⟨v, rfl, r⟩ := rep1 ra
      obtain ⟨p, xs, rfl, hl, r⟩ := r.lst
      rw [intsD_ok hn] at r
      obtain rfl := r.intsV
      refine .inr ⟨p, _, rfl, .of hl, by simp, fun m h1 h2 => ?_⟩
      have e1 : m = minL (n :: ns) := Int.le_antisymm (h2 _ (minL_mem (by simp))) (minL_le h1)
      rw [e1]
      exact vn_int s q
    · cases e
  · cases e
def sumD : List D → Option Val
  | [.lst ds] => (intsD ds).map fun ns => .d (.int ns.sum)
  | _ => none
theorem cs_sum : CallS K (rSum K) sumD := by
  intro F H vs as z Q s ra e q
  unfold sumD at e
  split at e
  · rename_i ds
    cases hn : intsD ds with
    | none => rw [hn] at e; cases e
    | some ns =>
      rw [hn] at e
      cases e
      obtain ⟨v, rfl, r⟩ := rep1 ra
      obtain ⟨p, xs, rfl, hl, r⟩ := r.lst
      rw [intsD_ok hn] at r
      obtain rfl := r.intsV
      exact ⟨p, ns, rfl, .of hl, vn_int s q⟩
  · cases e
def allD : List D → Option Val
  | [.lst ds] => (blsD ds).map fun ns => .d (.bl (ns.all id))
  | _ => none
def anyD : List D → Option Val
  | [.lst ds] => (blsD ds).map fun ns => .d (.bl (ns.any id))
  | _ => none
theorem cs_all : CallS K (rAll K) allD := by
  intro F H vs as z Q s ra e q
  unfold allD at e
  split at e
  · rename_i ds
    cases hn : blsD ds with
    | none => rw [hn] at e; cases e
    | some ns =>
      rw [hn] at e
      cases e
      obtain ⟨v, rfl, r⟩ := rep1 ra
      obtain ⟨p, xs, rfl, hl, r⟩ := r.lst
      rw [blsD_ok hn] at r
      obtain rfl := r.blsV
      exact ⟨p, ns, rfl, .of hl, vn_bl s q⟩
  · cases e
theorem cs_any : CallS K (rAny K) anyD := by
  intro F H vs as z Q s ra e q
  unfold anyD at e
  split at e
  · rename_i ds
    cases hn : blsD ds with
    | none => rw [hn] at e; cases e
    | some ns =>
      rw [hn] at e
      cases e
      obtain ⟨v, rfl, r⟩ := rep1 ra
      obtain ⟨p, xs, rfl, hl, r⟩ := r.lst
      rw [blsD_ok hn] at r
      obtain rfl := r.blsV
      exact ⟨p, ns, rfl, .of hl, vn_bl s q⟩
  · cases e
def intD : List D → Option Val
  | [.int i] => some (.d (.int i))
  | [.bl b] => some (.d (.int (if b then 1 else 0)))
  | _ => none
theorem cs_int : CallS K (fun xs H Q => (∃ i, xs = [.int i] ∧ Q (.int i) H) ∨ ∃ k, xs = [.bl k] ∧ Q (.int (if k then 1 else 0)) H) intD := by
  intro F H vs as z Q s ra e q
  unfold intD at e
  split at e
  · cases e
    obtain ⟨v, rfl, r⟩ := rep1 ra
    obtain rfl := r.int
    exact .inl ⟨_, rfl, vn_int s q⟩
  · cases e
    obtain ⟨v, rfl, r⟩ := rep1 ra
    obtain rfl := r.bl
    exact .inr ⟨_, rfl, vn_int s q⟩
  · cases e
/-! ### sequences -/
def tupleD : List D → Option Val
  | [.lst xs] => some (.d (.tup xs))
  | [.tup xs] => some (.d (.tup xs))
  | _ => none
theorem cs_tuple : CallS K (fun xs H Q => ∃ p ys, xs = [.ref p] ∧ ((SqL K H p ys ∧ ∀ l, H l = none → Q (.ref l) (upd H l (.tup ys))) ∨ (SqT K H p ys ∧ Q (.ref p) H))) tupleD := by
  intro F H vs as z Q s ra e q
  unfold tupleD at e
  split at e
  · cases e
    obtain ⟨v, rfl, r⟩ := rep1 ra
    obtain ⟨p, xs, rfl, hl, r⟩ := r.lst
    exact ⟨p, xs, rfl, .inl ⟨.of hl, fun l n => vn_tup s q r n⟩⟩
  · cases e
    obtain ⟨v, rfl, r⟩ := rep1 ra
    have r' : Rep K F v (.tup _) := r
    obtain ⟨p, xs, rfl, hl, r⟩ := r.tup s
    exact ⟨p, xs, rfl, .inr ⟨hl, vn_d s q r'⟩⟩
  · cases e
def listD : List D → Option Val
  | [.lst xs] => some (.fr (.lst xs))
  | [.tup xs] => some (.fr (.lst xs))
  | _ => none
theorem cs_list : CallS K (fun xs H Q => ∃ p ys, xs = [.ref p] ∧ (SqL K H p ys ∨ SqT K H p ys) ∧ ∀ l, H l = none → Q (.ref l) (upd H l (.lst ys))) listD := by
  intro F H vs as z Q s ra e q
  unfold listD at e
  split at e
  · cases e
    obtain ⟨v, rfl, r⟩ := rep1 ra
    obtain ⟨p, xs, rfl, hl, r⟩ := r.lst
    exact ⟨p, xs, rfl, .inl (.of hl), fun l n => vn_lst s q r n⟩
  · cases e
    obtain ⟨v, rfl, r⟩ := rep1 ra
    obtain ⟨p, xs, rfl, hl, r⟩ := r.tup s
    exact ⟨p, xs, rfl, .inr hl, fun l n => vn_lst s q r n⟩
  · cases e
def sortI (ns : List Int) : List Int := ns.mergeSort (fun a b => decide (a ≤ b))
theorem sortI_perm (ns : List Int) : (sortI ns).Perm ns := List.mergeSort_perm ..
theorem sortI_sorted (ns : List Int) : (sortI ns).Pairwise (· ≤ ·) := by
  have h := List.pairwise_mergeSort (le := fun a b : Int => decide (a ≤ b)) (fun a b c h1 h2 => by simp at *; omega) (fun a b => by simp; omega) ns
  exact h.imp fun h => by simpa using h
def sortedD : List D → Option Val
  | [.lst ds] => (intsD ds).map fun ns => .fr (.lst ((sortI ns).map D.int))
  | _ => none
theorem cs_sorted : CallS K (rSortedI K) sortedD := by
  intro F H vs as z Q s ra e q
  unfold sortedD at e
  split at e
  · rename_i ds
    cases hn : intsD ds with
    | none => rw [hn] at e; cases e
    | some ns =>
      rw [hn] at e
      cases e
      obtain ⟨v, rfl, r⟩ := rep1 ra
      obtain ⟨p, xs, rfl, hl, r⟩ := r.lst
      rw [intsD_ok hn] at r
      obtain rfl := r.intsV
      refine ⟨p, ns, rfl, .of hl, fun ns' p' h1 h2 n => ?_⟩
      have e1 : ns' = sortI ns := (h1.trans (sortI_perm ns).symm).eq_of_pairwise (fun x y _ _ u w => Int.le_antisymm u w) h2 (sortI_sorted ns)
      rw [e1]
      exact vn_lst s q RepL.ints n
  · cases e
end
end
end DL
/-! DL7: statements. -/
namespace DL
open PySem PySem.Spec PyProof.Rows L2

inductive RS where
  | nx (ρ : DEnv) | rt (x : Val) (ρ : DEnv) | bk (ρ : DEnv) | ct (ρ : DEnv) | ex (x : Ex) (ρ : DEnv) | bad
abbrev SM := DEnv → RS
def R.bindS {α : Type} (r : R α) (g : α → DEnv → RS) : RS := match r with
  | .ok a ρ => g a ρ
  | .ex x ρ => .ex x ρ
  | .bad => .bad
def OutS (K : PySem.W.Frag) (mg : Str → Option Value) (W : WX) (σ : L2.St) (ρ : DEnv) (F H : Hp) (r : RS) (D : Ends) : Prop :=
  match r with
  | .nx ρ' => ∀ σ' F' H', SR K F' H' σ' ρ' → Ev σ ρ F H σ' ρ' F' H' → D.nx σ' H'
  | .bk ρ' => ∀ σ' F' H', SR K F' H' σ' ρ' → Ev σ ρ F H σ' ρ' F' H' → D.bk σ' H'
  | .ct ρ' => ∀ σ' F' H', SR K F' H' σ' ρ' → Ev σ ρ F H σ' ρ' F' H' → D.ct σ' H'
  | .rt x ρ' => ∀ v σ' F' H', SR K F' H' σ' ρ' → Ev σ ρ F H σ' ρ' F' H' → VR K σ' H F' H' ρ' v x → D.rt v H'
  | .ex x ρ' => ∀ cls dd σ' F' H', SR K F' H' σ' ρ' → Ev σ ρ F H σ' ρ' F' H' → XR K mg F' x cls dd → W cls dd σ' H'
  | .bad => False
def tS (K : PySem.W.Frag) (mg : Str → Option Value) (W : WX) (g : SM) : TS := fun D σ H => ∃ F ρ, SR K F H σ ρ ∧ OutS K mg W σ ρ F H (g ρ) D
def DS (X : Cx) (W : WX) (st : Stmt) (g : SM) : Prop := PS X st (tS X.K X.mg W g)
def DSs (X : Cx) (W : WX) (st : List Stmt) (g : SM) : Prop := PSs X st (tS X.K X.mg W g)
theorem ps_conseq {X : Cx} {st : Stmt} {t t' : TS} (h : PS X st t) (c : ∀ D σ H, t' D σ H → t D σ H) : PS X st t' := ⟨fun pins s σ H D I q => h.run pins s σ H D I (c _ _ _ q)⟩
theorem pss_conseq {X : Cx} {st : List Stmt} {t t' : TS} (h : PSs X st t) (c : ∀ D σ H, t' D σ H → t D σ H) : PSs X st t' := ⟨fun pins s σ H D I q => h.run pins s σ H D I (c _ _ _ q)⟩
section
variable {K : PySem.W.Frag} {mg : Str → Option Value} {W : WX} {σ σ1 : L2.St} {ρ ρ1 : DEnv} {F H F1 H1 : Hp}
theorem OutS.from {r : RS} {D : Ends} (h : OutS K mg W σ ρ F H r D) (ev : Ev σ ρ F H σ1 ρ1 F1 H1) : OutS K mg W σ1 ρ1 F1 H1 r D := by
  cases r with
  | nx ρ' => exact fun σ' F' H' s e => h σ' F' H' s (ev.trans e)
  | bk ρ' => exact fun σ' F' H' s e => h σ' F' H' s (ev.trans e)
  | ct ρ' => exact fun σ' F' H' s e => h σ' F' H' s (ev.trans e)
  | rt x ρ' => exact fun v σ' F' H' s e r => h v σ' F' H' s (ev.trans e) (r.base ev.dom)
  | ex x ρ' => exact fun c d σ' F' H' s e r => h c d σ' F' H' s (ev.trans e) r
  | bad => exact h
/-- an expression's outcome, then a statement's -/
theorem Out.bindS {α β : Type} {rel : RelT β α} {r : R α} {g : α → DEnv → RS} {D : Ends} (h : OutS K mg W σ ρ F H (r.bindS g) D) :
    Out K mg (fun c d H => W c d σ H) rel σ ρ F H r (fun v H1 => ∃ x F1 ρ1, r = .ok x ρ1 ∧ SR K F1 H1 σ ρ1 ∧ Ev σ ρ F H σ ρ1 F1 H1 ∧ rel H F1 H1 ρ1 v x ∧ OutS K mg W σ ρ F H (g x ρ1) D) := by
  cases r with
  | ok x ρ' => exact fun v F' H' s e r => ⟨x, F', ρ', rfl, s, e, r, h⟩
  | ex x ρ' => exact fun c d F' H' s e r => h c d σ F' H' s e r
  | bad => exact h
end
section
variable {X : Cx} {W : WX} {e c : Expr} {f : EM} {t : M Bool} {st : Stmt} {sts sts' : List Stmt} {g h : SM} {pos : Pos}
def sSkip : SM := .nx
def sSeq (g h : SM) : SM := fun ρ => match g ρ with
  | .nx ρ' => h ρ'
  | r => r
theorem ds_nil : DSs X W [] sSkip := pss_conseq pss_nil fun D σ H ⟨F, ρ, sr, q⟩ => q σ F H sr .refl
theorem ds_cons (h1 : DS X W st g) (h2 : DSs X W sts h) : DSs X W (st :: sts) (sSeq g h) := pss_conseq (pss_cons h1 h2) fun D σ H hq => by
  obtain ⟨F, ρ, sr, q⟩ := hq
  refine ⟨F, ρ, sr, ?_⟩
  unfold sSeq at q
  cases hg : g ρ with
  | nx ρ' => rw [hg] at q; exact fun σ' F' H' s ev => ⟨F', ρ', s, q.from ev⟩
  | rt x ρ' => rw [hg] at q; exact q
  | bk ρ' => rw [hg] at q; exact q
  | ct ρ' => rw [hg] at q; exact q
  | ex x ρ' => rw [hg] at q; exact q
  | bad => rw [hg] at q; exact q
theorem ds_one (h1 : DS X W st g) : DSs X W [st] g := pss_conseq (pss_one h1) fun D σ H hq => hq
theorem ds_pass : DS X W (.Pass pos) sSkip := ps_conseq ps_pass fun D σ H ⟨F, ρ, sr, q⟩ => q σ F H sr .refl
def sBreak : SM := .bk
def sCont : SM := .ct
theorem ds_break : DS X W (.Break pos) sBreak := ps_conseq ps_break fun D σ H ⟨F, ρ, sr, q⟩ => q σ F H sr .refl
theorem ds_cont : DS X W (.Continue pos) sCont := ps_conseq ps_continue fun D σ H ⟨F, ρ, sr, q⟩ => q σ F H sr .refl
theorem ds_doc {x j pos'} : DS X W (.Expr (.Constant (.str x) j pos) pos') sSkip := ps_conseq ps_doc fun D σ H ⟨F, ρ, sr, q⟩ => q σ F H sr .refl
def sDrop (f : EM) : SM := fun ρ => (f ρ).bindS fun _ ρ1 => .nx ρ1
theorem ds_expr (he : DE X W e f) (hs : swapsWith e none pos.line X.env = pure false := by rfl) : DS X W (.Expr e pos) (sDrop f) := ps_conseq (ps_expr he hs) fun D σ H hq => by
  obtain ⟨F, ρ, sr, q⟩ := hq
  refine ⟨F, ρ, sr, (Out.bindS (rel := relV X.K σ) q).mono fun v H1 ⟨x, F1, ρ1, e1, s1, ev1, r1, o1⟩ => o1 σ F1 H1 s1 ev1⟩
def sRet (f : EM) : SM := fun ρ => (f ρ).bindS fun x ρ1 => .rt x ρ1
theorem ds_ret (he : DE X W e f) : DS X W (.Return (some e) pos) (sRet f) := ps_conseq (ps_ret he) fun D σ H hq => by
  obtain ⟨F, ρ, sr, q⟩ := hq
  exact ⟨F, ρ, sr, (Out.bindS (rel := relV X.K σ) q).mono fun v H1 ⟨x, F1, ρ1, e1, s1, ev1, r1, o1⟩ => o1 v σ F1 H1 s1 ev1 r1⟩
def sRetN : SM := fun ρ => .rt (.d .non) ρ
theorem ds_retN : DS X W (.Return none pos) sRetN := ps_conseq ps_retN fun D σ H ⟨F, ρ, sr, q⟩ => q .non σ F H sr .refl Rep.non
def sIf (t : M Bool) (g h : SM) : SM := fun ρ => (t ρ).bindS fun b ρ1 => if b = true then g ρ1 else h ρ1
theorem ds_if (hc : DT X W c t) (h1 : DSs X W sts g) (h2 : DSs X W sts' h) : DS X W (.If c sts sts' pos) (sIf t g h) := ps_conseq (ps_if hc h1 h2) fun D σ H hq => by
  obtain ⟨F, ρ, sr, q⟩ := hq
  refine ⟨F, ρ, sr, (Out.bindS (rel := relB) q).mono fun v H1 ⟨x, F1, ρ1, e1, s1, ev1, r1, o1⟩ => ?_⟩
  have r1 : v = x := r1
  subst r1
  have o2 := o1.from ev1
  cases v with
  | true => exact ⟨F1, ρ1, s1, o2⟩
  | false => exact ⟨F1, ρ1, s1, o2⟩

/-! ### names stored -/
def put (i : Nat) (s : Slot) (ρ : DEnv) : RS := match ρ[i]? with
  | some .un => .nx (ρ.set i s)
  | some (.d _) => .nx (ρ.set i s)
  | some (.ow _ .own) => .nx (ρ.set i s)
  | _ => .bad
def asgV (i : Nat) (x : Val) : SM := fun ρ => match x with
  | .fr c => put i (.ow c .own) ρ
  | x => (x.fz ρ).bindS fun y ρ1 => match y with
    | .d d => put i (.d d) ρ1
    | _ => .bad
section
variable {K : PySem.W.Frag} {mg : Str → Option Value} {σ σb : L2.St} {ρ ρb ρ' : DEnv} {Fb Hb F H : Hp} {v : V} {i : Nat}
theorem put_nx {s : Slot} (h : put i s ρ = .nx ρ') : i < ρ.length ∧ ρ' = ρ.set i s ∧ ∀ c m, ρ[i]? = some (.ow c m) → m = .own := by
  unfold put at h
  cases q : ρ[i]? with
  | none => rw [q] at h; cases h
  | some t =>
    have hl : i < ρ.length := by
      rcases Nat.lt_or_ge i ρ.length with z | z
      · exact z
      · rw [List.getElem?_eq_none z] at q; cases q
    rw [q] at h
    cases t with
    | un => cases h; exact ⟨hl, rfl, fun c m e => by cases e⟩
    | d x => cases h; exact ⟨hl, rfl, fun c m e => by cases e⟩
    | ow c m =>
      cases m with
      | own => cases h; exact ⟨hl, rfl, fun c m e => by cases e; rfl⟩
      | bor => cases h
      | lck => cases h
theorem put_cases (s : Slot) (ρ : DEnv) (i : Nat) : put i s ρ = .bad ∨ ∃ ρ', put i s ρ = .nx ρ' := by
  unfold put
  split <;> first | exact .inl rfl | exact .inr ⟨_, rfl⟩
/-- what the store brings: data, or a new object of ours -/
def PutOk (K : PySem.W.Frag) (σ : L2.St) (ρ : DEnv) (Hb F H : Hp) (v : V) : Slot → Prop
  | .un => True
  | .d x => Rep K F v x
  | .ow c m => m = .own ∧ ∃ p, v = .ref p ∧ Hb p = none ∧ F p = none ∧ CRep K F H p c ∧ ¬ Ow σ ρ p
theorem put_ok {s : Slot} (sr : SR K F H σ ρ) (ev : Ev σb ρb Fb Hb σ ρ F H) (ok : PutOk K σ ρ Hb F H v s) (h : put i s ρ = .nx ρ') :
    SR K F H (σ.set i (some v)) ρ' ∧ Ev σb ρb Fb Hb (σ.set i (some v)) ρ' F H := by
  obtain ⟨hl, rfl, hm⟩ := put_nx h
  have hlσ : i < σ.length := by rw [sr.len]; exact hl
  have at_i : (ρ.set i s)[i]? = some s := List.getElem?_set_self hl
  have at_σ : (σ.set i (some v))[i]? = some (some v) := List.getElem?_set_self hlσ
  have ow_of : ∀ {j : Nat} {c : Cont} {m : Md} {a : Addr}, (ρ.set i s)[j]? = some (.ow c m) → (σ.set i (some v))[j]? = some (some (.ref a)) → (j = i ∧ s = .ow c m ∧ v = .ref a) ∨ (j ≠ i ∧ ρ[j]? = some (.ow c m) ∧ σ[j]? = some (some (.ref a))) := fun {j c m a} e1 e2 => by
    by_cases hj : i = j
    · subst hj
      rw [at_i] at e1
      rw [at_σ] at e2
      cases e1; cases e2
      exact .inl ⟨rfl, rfl, rfl⟩
    · rw [List.getElem?_set_ne hj] at e1 e2
      exact .inr ⟨fun z => hj z.symm, e1, e2⟩
  refine ⟨⟨by rw [List.length_set, List.length_set]; exact sr.len, sr.sub, fun j t e => ?_, fun j k c1 m1 c2 m2 a e1 e2 e3 e4 => ?_⟩, ⟨ev.ext, ev.keep, ev.newF, ev.dom, fun j c m e n => ?_, fun a z => ?_, fun a z => ?_⟩⟩
  · by_cases hj : i = j
    · subst hj
      rw [at_i] at e
      cases e
      refine ⟨some v, at_σ, ?_⟩
      cases s with
      | un => trivial
      | d x => exact ⟨v, rfl, ok⟩
      | ow c m =>
        obtain ⟨_, p, rfl, _, nF, cr, _⟩ := ok
        exact ⟨p, rfl, nF, cr⟩
    · rw [List.getElem?_set_ne hj] at e ⊢
      exact sr.slot j t e
  · rcases ow_of e1 e3 with ⟨rfl, e5, rfl⟩ | ⟨n1, f1, f3⟩
    · rcases ow_of e2 e4 with ⟨rfl, _, _⟩ | ⟨n2, f2, f4⟩
      · rfl
      · subst e5
        obtain ⟨_, p, e6, _, _, _, no⟩ := ok
        cases e6
        exact absurd ⟨k, c2, m2, f2, f4⟩ no
    · rcases ow_of e2 e4 with ⟨rfl, e5, rfl⟩ | ⟨n2, f2, f4⟩
      · subst e5
        obtain ⟨_, p, e6, _, _, _, no⟩ := ok
        cases e6
        exact absurd ⟨j, c1, m1, f1, f3⟩ no
      · exact sr.dist j k c1 m1 c2 m2 a f1 f2 f3 f4
  · obtain ⟨z1, c', z2, z3⟩ := ev.bor j c m e n
    have hj : i ≠ j := fun hj => by subst hj; exact n (hm c' m z2)
    rw [List.getElem?_set_ne hj, List.getElem?_set_ne hj]
    exact ⟨z1, c', z2, z3⟩
  · obtain ⟨j, c, m, e1, e2⟩ := z
    rcases ow_of e1 e2 with ⟨rfl, e5, rfl⟩ | ⟨n1, f1, f3⟩
    · subst e5
      obtain ⟨_, p, e6, nb, _⟩ := ok
      cases e6
      exact .inl nb
    · exact ev.own' a ⟨j, c, m, f1, f3⟩
  · obtain ⟨j, c, m, e1, hm', e2⟩ := z
    rcases ow_of e1 e2 with ⟨rfl, e5, rfl⟩ | ⟨n1, f1, f3⟩
    · subst e5
      obtain ⟨_, p, e6, nb, _⟩ := ok
      cases e6
      exact .inl nb
    · exact ev.mt' a ⟨j, c, m, f1, hm', f3⟩
/-- a store of a value: the outcome at the new slots -/
theorem asg_ok {W : WX} {x : Val} {D : Ends} (sr : SR K F H σ ρ) (ev : Ev σb ρb Fb Hb σ ρ F H) (r : VR K σ Hb F H ρ v x) (h : OutS K mg W σb ρb Fb Hb (asgV i x ρ) D) : ∃ ρ', asgV i x ρ = .nx ρ' ∧ ∃ F', SR K F' H (σ.set i (some v)) ρ' ∧ Ev σb ρb Fb Hb (σ.set i (some v)) ρ' F' H := by
  have frz : ∀ {y : Val} {ρ1 : DEnv}, x.fz ρ = .ok y ρ1 → OutS K mg W σb ρb Fb Hb (match y with | .d d => put i (.d d) ρ1 | _ => .bad) D → ∃ ρ', (match y with | .d d => put i (.d d) ρ1 | _ => RS.bad) = .nx ρ' ∧ ∃ F', SR K F' H (σ.set i (some v)) ρ' ∧ Ev σb ρb Fb Hb (σ.set i (some v)) ρ' F' H := fun {y ρ1} e o => by
    obtain ⟨F2, d, rfl, s2, ev2, r2⟩ := fz_ok sr ev r e
    dsimp only at o ⊢
    rcases put_cases (.d d) ρ1 i with q | ⟨ρ', q⟩
    · rw [q] at o; exact o.elim
    · refine ⟨ρ', q, F2, ?_⟩
      exact put_ok s2 ev2 (s := .d d) r2 q
  cases x with
  | fr c =>
    unfold asgV at h ⊢
    dsimp only at h ⊢
    obtain ⟨p, e, nb, nF, cr, no⟩ := r
    rcases put_cases (.ow c .own) ρ i with q | ⟨ρ', q⟩
    · rw [q] at h; exact h.elim
    · exact ⟨ρ', q, F, put_ok sr ev (s := .ow c .own) ⟨rfl, p, e, nb, nF, cr, no⟩ q⟩
  | d d =>
    unfold asgV at h ⊢
    exact frz (y := .d d) rfl h
  | sl j =>
    unfold asgV at h ⊢
    dsimp only at h ⊢
    cases hz : (Val.sl j).fz ρ with
    | bad => rw [hz] at h; exact h.elim
    | ex z ρ2 =>
      exfalso
      unfold Val.fz at hz
      dsimp only at hz
      split at hz <;> cases hz
    | ok y ρ1 =>
      rw [hz] at h
      exact frz hz h
end
def sAsg (i : Nat) (f : EM) : SM := fun ρ => (f ρ).bindS fun x ρ1 => asgV i x ρ1
theorem ds_asg (i : Nat) {x : Str} {pos' : Pos} (hN : X.N.Nodup) (he : DE X W e f) (hi : X.N[i]? = some x := by rfl) (hx : Loc X.env.scope x := by first | exact .inl rfl | exact .inr rfl) (hs : swapsWith e (some (.Name x pos')) pos.line X.env = pure false := by rfl) (hf : X.fn x = true ∨ X.env.scope.names.lookup x = some .local := by first | exact .inl rfl | exact .inr rfl) :
    DS X W (.Assign [.Name x pos'] e pos) (sAsg i f) := ps_conseq (ps_set hN hi hx he hs hf) fun D σ H hq => by
  obtain ⟨F, ρ, sr, q⟩ := hq
  refine ⟨F, ρ, sr, (Out.bindS (rel := relV X.K σ) q).mono fun v H1 ⟨x, F1, ρ1, e1, s1, ev1, r1, o1⟩ => ?_⟩
  obtain ⟨ρ', e2, F2, s2, ev2⟩ := asg_ok s1 ev1 r1 o1
  rw [e2] at o1
  exact o1 _ F2 H1 s2 ev2
/-! ### targets -/
/-- σ' is as σ but for the slots of S -/
def Off (S : List Nat) (σ σ' : L2.St) : Prop := σ'.length = σ.length ∧ ∀ j, j ∉ S → σ'[j]? = σ[j]?
theorem Off.refl {S : List Nat} {σ : L2.St} : Off S σ σ := ⟨rfl, fun _ _ => rfl⟩
theorem Off.trans {S T : List Nat} {σ σ1 σ2 : L2.St} (a : Off S σ σ1) (b : Off T σ1 σ2) : Off (S ++ T) σ σ2 := ⟨b.1.trans a.1, fun j h => by
  rw [List.mem_append, not_or] at h
  exact (b.2 j h.2).trans (a.2 j h.1)⟩
def OutN (K : PySem.W.Frag) (S : List Nat) (σ σb : L2.St) (ρb : DEnv) (Fb Hb : Hp) (r : RS) (Q : L2.St → Hp → Prop) : Prop := match r with
  | .nx ρ' => ∀ σ' F' H', SR K F' H' σ' ρ' → Ev σb ρb Fb Hb σ' ρ' F' H' → Off S σ σ' → Q σ' H'
  | _ => False
def tG (K : PySem.W.Frag) (S : List Nat) (g : Val → SM) : TG := fun v σ H Q => ∃ σb ρb Fb Hb F ρ x, SR K F H σ ρ ∧ Ev σb ρb Fb Hb σ ρ F H ∧ VR K σ Hb F H ρ v x ∧ OutN K S σ σb ρb Fb Hb (g x ρ) Q
def DG (X : Cx) (tg : Expr) (S : List Nat) (g : Val → SM) : Prop := PG X tg (tG X.K S g)
theorem pg_conseq {tg : Expr} {t t' : TG} (h : PG X tg t) (c : ∀ v σ H Q, t' v σ H Q → t v σ H Q) : PG X tg t' := ⟨fun pins s σ H v u Q I r q => h.run pins s σ H v u Q I r (c _ _ _ _ q)⟩
theorem OutN.outS {K : PySem.W.Frag} {mg : Str → Option Value} {S : List Nat} {σ σb : L2.St} {ρb : DEnv} {Fb Hb : Hp} {r : RS} {Q : L2.St → Hp → Prop} (h : OutN K S σ σb ρb Fb Hb r Q) :
    ∃ ρ', r = .nx ρ' ∧ ∀ σ' F' H', SR K F' H' σ' ρ' → Ev σb ρb Fb Hb σ' ρ' F' H' → Off S σ σ' → Q σ' H' := by
  cases r <;> first | exact ⟨_, rfl, h⟩ | exact h.elim
theorem dg_name (i : Nat) {x : Str} (hN : X.N.Nodup) (hi : X.N[i]? = some x := by rfl) (hx : Loc X.env.scope x := by first | exact .inl rfl | exact .inr rfl) (hf : X.fn x = true ∨ X.env.scope.names.lookup x = some .local := by first | exact .inl rfl | exact .inr rfl) : DG X (.Name x pos) [i] (fun x => asgV i x) :=
  pg_conseq (pg_name hN hi hx hf) fun v σ H Q ⟨σb, ρb, Fb, Hb, F, ρ, x, sr, ev, r, q⟩ => by
    dsimp only at q
    obtain ⟨ρ', e1, q1⟩ := q.outS (mg := X.mg)
    obtain ⟨ρ2, e2, F2, s2, ev2⟩ := asg_ok (mg := X.mg) (W := fun _ _ _ _ => True) (D := { nx := fun _ _ => True, rt := fun _ _ => True }) sr ev r (by rw [e1]; exact fun _ _ _ _ _ => trivial)
    rw [e1] at e2
    cases e2
    refine q1 _ F2 H s2 ev2 ⟨List.length_set, fun j h => ?_⟩
    rw [List.getElem?_set_ne]
    exact fun z => h (by simp [z])
end
end DL
/-! DL8: tuple targets, parallel stores, op= at a name. -/
namespace DL
open PySem PySem.Spec PyProof.Rows L2
section
variable {X : Cx} {W : WX} {e c : Expr} {es : List Expr} {f : EM} {g : M (List Val)} {st : Stmt} {sts : List Stmt} {pos : Pos}
/-! ### (a, b, ..) as a target -/
def RS.thenS (r : RS) (h : SM) : RS := match r with
  | .nx ρ' => h ρ'
  | r => r
def tGs (K : PySem.W.Frag) (S : List Nat) (g : List D → SM) : TGs := fun vs σ H Q => ∃ σb ρb Fb Hb F ρ ds, SR K F H σ ρ ∧ Ev σb ρb Fb Hb σ ρ F H ∧ RepL K F vs ds ∧ OutN K S σ σb ρb Fb Hb (g ds ρ) Q
def DGs (X : Cx) (tgs : List Expr) (S : List Nat) (g : List D → SM) : Prop := PGs X tgs (tGs X.K S g)
theorem pgs_conseq {tgs : List Expr} {t t' : TGs} (h : PGs X tgs t) (c : ∀ v σ H Q, t' v σ H Q → t v σ H Q) : PGs X tgs t' := ⟨fun pins s σ H v u Q I r q => h.run pins s σ H v u Q I r (c _ _ _ _ q)⟩
def gsNil : List D → SM := fun ds ρ => match ds with
  | [] => .nx ρ
  | _ => .bad
def gsCons (g : Val → SM) (h : List D → SM) : List D → SM := fun ds ρ => match ds with
  | d :: ds => (g (.d d) ρ).thenS (h ds)
  | [] => .bad
theorem dgs_nil : DGs X [] [] gsNil := pgs_conseq pgs_nil fun vs σ H Q hq => by
  obtain ⟨σb, ρb, Fb, Hb, F, ρ, ds, sr, ev, r, q⟩ := hq
  cases r with
  | nil => exact ⟨rfl, q σ F H sr ev .refl⟩
  | cons a b => exact q.elim
theorem dgs_cons {S T : List Nat} {h : List D → SM} {g : Val → SM} {tg : Expr} {tgs : List Expr} (h1 : DG X tg S g) (h2 : DGs X tgs T h) (hs : (assignEach (tg :: tgs) X.env).map (·.2) = assign tg X.env :: (assignEach tgs X.env).map (·.2) := by rfl) : DGs X (tg :: tgs) (S ++ T) (gsCons g h) :=
  pgs_conseq (pgs_cons h1 h2 hs) fun vs σ H Q hq => by
    obtain ⟨σb, ρb, Fb, Hb, F, ρ, ds, sr, ev, r, q⟩ := hq
    cases r with
    | nil => exact q.elim
    | cons a b =>
      rename_i v vs d ds
      refine ⟨v, vs, rfl, σ, ρ, F, H, F, ρ, .d d, sr, .refl, a, ?_⟩
      dsimp only [gsCons] at q
      cases hg : g (.d d) ρ with
      | nx ρ1 =>
        rw [hg] at q
        refine fun σ' F' H' s1 ev1 of1 => ⟨σb, ρb, Fb, Hb, F', ρ1, ds, s1, ev.trans ev1, b.mono (.of ev1.ext), ?_⟩
        obtain ⟨ρ2, e2, q2⟩ := OutN.outS (mg := X.mg) q
        have e3 : h ds ρ1 = .nx ρ2 := e2
        rw [e3]
        exact fun σ2 F2 H2 s2 ev2 of2 => q2 σ2 F2 H2 s2 ev2 (of1.trans of2)
      | rt x ρ' => rw [hg] at q; exact q.elim
      | bk ρ' => rw [hg] at q; exact q.elim
      | ct ρ' => rw [hg] at q; exact q.elim
      | ex x ρ' => rw [hg] at q; exact q.elim
      | bad => rw [hg] at q; exact q.elim
def tupG (n : Nat) (h : List D → SM) : Val → SM := fun x ρ => match x.peek ρ with
  | some (.tup ds) => if ds.length = n then h ds ρ else .bad
  | _ => .bad
theorem dg_tup (n : Nat) {S : List Nat} {h : List D → SM} {tgs : List Expr} {k : Nat} (hc : X.calm = true) (hh : DGs X tgs S h) (hn : (assignEach tgs X.env).length = n := by rfl) (hst : (assignEach tgs X.env).findIdx? (·.1) = none := by rfl) : DG X (.Tuple tgs k pos) S (tupG n h) :=
  pg_conseq (pg_tup hc hh hn hst) fun v σ H Q hq => by
    obtain ⟨σb, ρb, Fb, Hb, F, ρ, x, sr, ev, r, q⟩ := hq
    unfold tupG at q
    cases hx : x.peek ρ with
    | none => rw [hx] at q; exact q.elim
    | some d =>
      rw [hx] at q
      cases d with
      | tup ds =>
        dsimp only at q
        split at q
        · rename_i hl
          have rt := r.peek sr hx
          obtain ⟨a, xs, rfl, hs, rl⟩ := rt.tup sr.sub
          exact ⟨a, xs, rfl, hs, by rw [rl.length]; exact hl, σb, ρb, Fb, Hb, F, ρ, ds, sr, ev, rl, q⟩
        · exact q.elim
      | _ => exact q.elim
/-- target = e, any target -/
def sTgt (f : EM) (g : Val → SM) : SM := fun ρ => (f ρ).bindS g
theorem ds_tgt {tg : Expr} {S : List Nat} {g : Val → SM} (he : DE X W e f) (hg : DG X tg S g) (hg2 : ∀ x ρ, (∃ ρ', g x ρ = .nx ρ') ∨ g x ρ = .bad) (hs : swapsWithSole [tg] e pos.line X.env = pure false := by rfl) (hw : swappedStores [tg] e X.env = pure none := by rfl)
    (h1 : (assignEach [tg] X.env).map (·.2) = [assign tg X.env] := by rfl) : DS X W (.Assign [tg] e pos) (sTgt f g) := ps_conseq (ps_asg he hg hs hw h1) fun D σ H hq => by
  obtain ⟨F, ρ, sr, q⟩ := hq
  refine ⟨F, ρ, sr, (Out.bindS (rel := relV X.K σ) q).mono fun v H1 ⟨x, F1, ρ1, e1, s1, ev1, r1, o1⟩ => ?_⟩
  refine ⟨σ, ρ, F, H, F1, ρ1, x, s1, ev1, r1, ?_⟩
  rcases hg2 x ρ1 with ⟨ρ', h⟩ | h
  · rw [h] at o1 ⊢
    exact fun σ' F' H' s e _ => o1 σ' F' H' s e
  · rw [h] at o1; exact o1.elim
/-- only .nx or .bad -/
def NxG (g : Val → SM) : Prop := ∀ x ρ, (∃ ρ', g x ρ = .nx ρ') ∨ g x ρ = .bad
def NxGs (g : List D → SM) : Prop := ∀ x ρ, (∃ ρ', g x ρ = .nx ρ') ∨ g x ρ = .bad
theorem nx_asgV (i : Nat) : NxG (fun x => asgV i x) := fun x ρ => by
  dsimp only
  unfold asgV
  cases x with
  | fr c => exact (put_cases _ _ _).symm
  | d d => exact (put_cases _ _ _).symm
  | sl j =>
    dsimp only
    cases hz : (Val.sl j).fz ρ with
    | bad => exact .inr rfl
    | ex z ρ2 =>
      exfalso
      unfold Val.fz at hz
      dsimp only at hz
      split at hz <;> cases hz
    | ok y ρ1 =>
      cases y with
      | d d => exact (put_cases _ _ _).symm
      | fr c => exact .inr rfl
      | sl j => exact .inr rfl
theorem nx_gsNil : NxGs gsNil := fun ds ρ => by
  cases ds with
  | nil => exact .inl ⟨ρ, rfl⟩
  | cons d ds => exact .inr rfl
theorem nx_gsCons {g : Val → SM} {h : List D → SM} (hg : NxG g) (hh : NxGs h) : NxGs (gsCons g h) := fun ds ρ => by
  cases ds with
  | nil => exact .inr rfl
  | cons d ds =>
    show (∃ ρ', (g (.d d) ρ).thenS (h ds) = .nx ρ') ∨ (g (.d d) ρ).thenS (h ds) = .bad
    rcases hg (.d d) ρ with ⟨ρ', e⟩ | e
    · rw [e]; exact hh ds ρ'
    · rw [e]; exact .inr rfl
theorem nx_tupG {n : Nat} {h : List D → SM} (hh : NxGs h) : NxG (tupG n h) := fun x ρ => by
  unfold tupG
  split
  · split
    · exact hh _ ρ
    · exact .inr rfl
  · exact .inr rfl

/-! ### a, b = e1, e2 -/
/-- a slot's object is frozen, a fresh one stays fresh -/
def nsl (f : EM) : EM := fun ρ => (f ρ).bind fun x ρ1 => match x with
  | .sl i => Val.fz (.sl i) ρ1
  | x => .ok x ρ1
theorem de_nsl (H : DE X W e f) : DE X W e (nsl f) := by
  refine pe_conseq H fun σ H Q hq => ?_
  obtain ⟨F, ρ, sr, q⟩ := hq
  refine ⟨F, ρ, sr, (Out.bind (rel := relV X.K σ) q).mono fun v H1 h1 => ?_⟩
  obtain ⟨x, F1, ρ1, e1, s1, ev1, r1, o1⟩ := h1
  cases x with
  | d x => exact o1 v F1 H1 s1 ev1 r1
  | fr c => exact o1 v F1 H1 s1 ev1 r1
  | sl i =>
    dsimp only at o1
    cases hx : (Val.sl i).fz ρ1 with
    | bad => rw [hx] at o1; exact o1.elim
    | ex z ρ2 =>
      exfalso
      unfold Val.fz at hx
      dsimp only at hx
      split at hx <;> cases hx
    | ok y ρ2 =>
      rw [hx] at o1
      obtain ⟨F2, d, rfl, s2, ev2, r2⟩ := fz_ok s1 ev1 r1 hx
      exact o1 v F2 H1 s2 ev2 r2
def asgs : List Nat → List Val → SM
  | [], [] => .nx
  | i :: is, .d d :: xs => fun ρ => (put i (.d d) ρ).thenS (asgs is xs)
  | i :: is, .fr c :: xs => fun ρ => (put i (.ow c .own) ρ).thenS (asgs is xs)
  | _, _ => fun _ => .bad
def setAll (σ : L2.St) : List Nat → List V → L2.St
  | i :: is, v :: vs => setAll (σ.set i (some v)) is vs
  | _, _ => σ
theorem ow_set {σ : L2.St} {ρ : DEnv} {i : Nat} {v : V} {s : Slot} {a : Addr} (h : Ow (σ.set i (some v)) (ρ.set i s) a) : Ow σ ρ a ∨ ((∃ c m, s = .ow c m) ∧ v = .ref a) := by
  obtain ⟨j, c, m, e1, e2⟩ := h
  by_cases hj : i = j
  · subst hj
    have l1 : i < ρ.length := by
      rcases Nat.lt_or_ge i (ρ.set i s).length with z | z
      · simpa using z
      · rw [List.getElem?_eq_none z] at e1; cases e1
    have l2 : i < σ.length := by
      rcases Nat.lt_or_ge i (σ.set i (some v)).length with z | z
      · simpa using z
      · rw [List.getElem?_eq_none z] at e2; cases e2
    rw [List.getElem?_set_self l1] at e1
    rw [List.getElem?_set_self l2] at e2
    cases e1; cases e2
    exact .inr ⟨⟨c, m, rfl⟩, rfl⟩
  · rw [List.getElem?_set_ne hj] at e1 e2
    exact .inl ⟨j, c, m, e1, e2⟩
theorem asgs_ok {K : PySem.W.Frag} {mg : Str → Option Value} {σb : L2.St} {ρb : DEnv} {Fb Hb F H : Hp} {D : Ends} : ∀ {is : List Nat} {xs : List Val} {vs : List V} {σ : L2.St} {ρ : DEnv}, SR K F H σ ρ → Ev σb ρb Fb Hb σ ρ F H → VRL K σ Hb F H ρ vs xs →
    OutS K mg W σb ρb Fb Hb (asgs is xs ρ) D → ∃ ρ', asgs is xs ρ = .nx ρ' ∧ SR K F H (setAll σ is vs) ρ' ∧ Ev σb ρb Fb Hb (setAll σ is vs) ρ' F H
  | [], [], [], σ, ρ, sr, ev, r, o => ⟨ρ, rfl, sr, ev⟩
  | [], _ :: _, _, σ, ρ, sr, ev, r, o => o.elim
  | _ :: _, [], _, σ, ρ, sr, ev, r, o => o.elim
  | i :: is, x :: xs, v :: vs, σ, ρ, sr, ev, r, o => by
    have rx : VR K σ Hb F H ρ v x := paired_get (i := 0) r.all rfl rfl
    have rest : ∀ {s : Slot} {ρ1 : DEnv}, put i s ρ = .nx ρ1 → (∀ c m, s = .ow c m → x = .fr c) → VRL K (σ.set i (some v)) Hb F H ρ1 vs xs ∨ ∃ j, .sl j ∈ xs := fun {s ρ1} hp hs => by
      obtain ⟨hl, rfl, hm⟩ := put_nx hp
      by_cases hj : ∃ j, Val.sl j ∈ xs
      · exact .inr hj
      · left
        have all : Paired (VR K σ Hb F H ρ) vs xs := by cases r.all; assumption
        have key : ∀ (k : Nat) (c : Cont) (p : Addr), xs[k]? = some (.fr c) → vs[k]? = some (.ref p) → Ow (σ.set i (some v)) (ρ.set i s) p → Ow σ ρ p := fun k c p e1 e2 z => by
          rcases ow_set z with z | ⟨⟨c', m, e3⟩, e4⟩
          · exact z
          · exact absurd (r.frs 0 (k + 1) c' c p (by simp [hs c' m e3]) (by simpa using e1) (by simp [e4]) (by simpa using e2)) (by omega)
        refine ⟨?_, fun j k c c' p h1 h2 h3 h4 => by have := r.frs (j + 1) (k + 1) c c' p (by simpa using h1) (by simpa using h2) (by simpa using h3) (by simpa using h4); omega⟩
        have go : ∀ {vs' : List V} {xs' : List Val}, Paired (VR K σ Hb F H ρ) vs' xs' → (¬ ∃ j, Val.sl j ∈ xs') → (∀ (k : Nat) (c : Cont) (p : Addr), xs'[k]? = some (.fr c) → vs'[k]? = some (.ref p) → Ow (σ.set i (some v)) (ρ.set i s) p → Ow σ ρ p) → Paired (VR K (σ.set i (some v)) Hb F H (ρ.set i s)) vs' xs' := by
          intro vs' xs' h
          induction h with
          | nil => intro _ _; exact .nil
          | @cons a b l m hab t ih =>
            intro nj k
            refine .cons ?_ (ih (fun ⟨j, hj⟩ => nj ⟨j, List.mem_cons_of_mem _ hj⟩) fun n c p e1 e2 => k (n + 1) c p (by simpa using e1) (by simpa using e2))
            cases b with
            | d x => exact hab
            | sl j => exact absurd ⟨j, List.mem_cons_self ..⟩ nj
            | fr c =>
              obtain ⟨p, e, nb, nF, cr, no⟩ := hab
              exact ⟨p, e, nb, nF, cr, fun z => no (k 0 c p rfl (by simp [e]) z)⟩
        exact go all hj key
    have nosl : ∀ {is : List Nat} {xs : List Val} {ρ : DEnv} {D : Ends}, (∃ j, Val.sl j ∈ xs) → ¬ OutS K mg W σb ρb Fb Hb (asgs is xs ρ) D := by
      intro is
      induction is with
      | nil => intro xs ρ D ⟨j, hj⟩ o; cases xs with
        | nil => exact nomatch hj
        | cons x xs => exact o
      | cons i is ih =>
        intro xs ρ D ⟨j, hj⟩ o
        cases xs with
        | nil => exact nomatch hj
        | cons x xs =>
          cases x with
          | sl k => exact o
          | d d =>
            have hj : Val.sl j ∈ xs := by rcases List.mem_cons.mp hj with e | e; cases e; exact e
            dsimp only [asgs] at o
            rcases put_cases (.d d) ρ i with q | ⟨ρ', q⟩
            · rw [q] at o; exact o
            · rw [q] at o; exact ih ⟨j, hj⟩ o
          | fr c =>
            have hj : Val.sl j ∈ xs := by rcases List.mem_cons.mp hj with e | e; cases e; exact e
            dsimp only [asgs] at o
            rcases put_cases (.ow c .own) ρ i with q | ⟨ρ', q⟩
            · rw [q] at o; exact o
            · rw [q] at o; exact ih ⟨j, hj⟩ o
    cases x with
    | sl j => exact o.elim
    | d d =>
      dsimp only [asgs] at o ⊢
      rcases put_cases (.d d) ρ i with q | ⟨ρ1, q⟩
      · rw [q] at o; exact o.elim
      · rw [q] at o ⊢
        obtain ⟨s1, ev1⟩ := put_ok sr ev (s := .d d) rx q
        rcases rest q (fun c m e => by cases e) with r1 | hj
        · exact asgs_ok s1 ev1 r1 o
        · exact absurd o (nosl hj)
    | fr c =>
      dsimp only [asgs] at o ⊢
      rcases put_cases (.ow c .own) ρ i with q | ⟨ρ1, q⟩
      · rw [q] at o; exact o.elim
      · rw [q] at o ⊢
        obtain ⟨p, e, nb, nF, cr, no⟩ := rx
        obtain ⟨s1, ev1⟩ := put_ok sr ev (s := .ow c .own) ⟨rfl, p, e, nb, nF, cr, no⟩ q
        rcases rest q (fun c m e => by cases e; rfl) with r1 | hj
        · exact asgs_ok s1 ev1 r1 o
        · exact absurd o (nosl hj)
def sPar (is : List Nat) (g : M (List Val)) : SM := fun ρ => (g ρ).bindS fun xs ρ1 => asgs is xs ρ1
theorem par_ok {is : List Nat} {D : Ends} {σ : L2.St} {H : Hp} (hq : tS X.K X.mg W (sPar is g) D σ H) : tA X.K X.mg W g σ H fun vs H1 => vs.length = is.length ∧ D.nx (setAll σ is vs) H1 ∧ ∀ p, H1 p = none → ∀ o, D.nx (setAll σ is vs) (upd H1 p o) := by
  obtain ⟨F, ρ, sr, q⟩ := hq
  refine ⟨F, ρ, sr, (Out.bindS (rel := relL X.K σ) q).mono fun vs H1 ⟨xs, F1, ρ1, e1, s1, ev1, r1, o1⟩ => ?_⟩
  obtain ⟨ρ', e2, s2, ev2⟩ := asgs_ok s1 ev1 r1 o1
  have hl : ∀ {is : List Nat} {xs : List Val} {ρ ρ' : DEnv}, asgs is xs ρ = .nx ρ' → is.length = xs.length := by
    intro is
    induction is with
    | nil => intro xs ρ ρ' h; cases xs with
      | nil => rfl
      | cons x xs => cases h
    | cons i is ih =>
      intro xs ρ ρ' h
      cases xs with
      | nil => cases h
      | cons x xs =>
        cases x with
        | sl k => cases h
        | d d =>
          dsimp only [asgs] at h
          rcases put_cases (.d d) ρ i with q | ⟨ρ2, q⟩
          · rw [q] at h; cases h
          · rw [q] at h; exact congrArg (· + 1) (ih h)
        | fr c =>
          dsimp only [asgs] at h
          rcases put_cases (.ow c .own) ρ i with q | ⟨ρ2, q⟩
          · rw [q] at h; cases h
          · rw [q] at h; exact congrArg (· + 1) (ih h)
  rw [e2] at o1
  refine ⟨by rw [hl e2]; exact r1.all.length, o1 _ F1 H1 s2 ev2, fun p n o => ?_⟩
  have g := Gr.fresh (o := o) s2.sub n
  exact o1 _ F1 _ (g.sr s2) (ev2.trans g.ev)
/-- plain local names: stored from the right -/
theorem ds_par2 (i j : Nat) {x y : Str} {a b : Expr} {px py pt : Pos} {kt k2 pt2} (hc : X.calm = true) (hN : X.N.Nodup) (ha : DA X W [a, b] g) (hi : X.N[i]? = some x := by rfl) (hj : X.N[j]? = some y := by rfl) (hij : i ≠ j := by decide)
    (hx : X.env.scope.names.lookup x = some .local := by rfl) (hy : X.env.scope.names.lookup y = some .local := by rfl)
    (hw : swappedStores [.Tuple [.Name x px, .Name y py] kt pt] (.Tuple [a, b] k2 pt2) X.env = pure (some [x, y]) := by rfl)
    (hs : swapsWithSole [.Tuple [.Name x px, .Name y py] kt pt] (.Tuple [a, b] k2 pt2) pos.line X.env = pure false := by rfl) :
    DS X W (.Assign [.Tuple [.Name x px, .Name y py] kt pt] (.Tuple [a, b] k2 pt2) pos) (sPar [i, j] g) :=
  ps_conseq (ps_par hc hN hi hj hij hx hy ha hw hs) fun D σ H hq => by
    obtain ⟨F, ρ, sr, q⟩ := par_ok hq
    refine ⟨F, ρ, sr, q.mono fun vs H1 ⟨hl, n1, n2⟩ => ?_⟩
    match vs, hl, n1 with
    | [v, w], _, n1 => exact ⟨v, w, rfl, n1⟩
theorem ds_par3 (i j l : Nat) {x y z : Str} {a b c : Expr} {px py pz pt : Pos} {kt k2 pt2} (hc : X.calm = true) (hN : X.N.Nodup) (ha : DA X W [a, b, c] g) (hi : X.N[i]? = some x := by rfl) (hj : X.N[j]? = some y := by rfl) (hl : X.N[l]? = some z := by rfl) (hij : i ≠ j := by decide) (hil : i ≠ l := by decide) (hjl : j ≠ l := by decide)
    (hx : X.env.scope.names.lookup x = some .local := by rfl) (hy : X.env.scope.names.lookup y = some .local := by rfl) (hz : X.env.scope.names.lookup z = some .local := by rfl)
    (hw : swappedStores [.Tuple [.Name x px, .Name y py, .Name z pz] kt pt] (.Tuple [a, b, c] k2 pt2) X.env = pure (some [x, y, z]) := by rfl)
    (hs : swapsWithSole [.Tuple [.Name x px, .Name y py, .Name z pz] kt pt] (.Tuple [a, b, c] k2 pt2) pos.line X.env = pure false := by rfl) :
    DS X W (.Assign [.Tuple [.Name x px, .Name y py, .Name z pz] kt pt] (.Tuple [a, b, c] k2 pt2) pos) (sPar [i, j, l] g) :=
  ps_conseq (ps_par3 hc hN hi hj hl hij hil hjl hx hy hz ha hw hs) fun D σ H hq => by
    obtain ⟨F, ρ, sr, q⟩ := par_ok hq
    refine ⟨F, ρ, sr, q.mono fun vs H1 ⟨hl, n1, n2⟩ => ?_⟩
    match vs, hl, n1 with
    | [v, w, u], _, n1 => exact ⟨v, w, u, rfl, n1⟩
/-- through a tuple: some name is a cell, or the values are written constants -/
theorem ds_parT2 (i j : Nat) {x y : Str} {px py pt : Pos} {kt k2 pt2} (hc : X.calm = true) (hN : X.N.Nodup) (ha : DA X W es g) (hi : X.N[i]? = some x := by rfl) (hj : X.N[j]? = some y := by rfl)
    (hx : Loc X.env.scope x := by first | exact .inl rfl | exact .inr rfl) (hy : Loc X.env.scope y := by first | exact .inl rfl | exact .inr rfl) (hf : X.fn x = true ∨ X.env.scope.names.lookup x = some .local := by first | exact .inl rfl | exact .inr rfl) (hf2 : X.fn y = true ∨ X.env.scope.names.lookup y = some .local := by first | exact .inl rfl | exact .inr rfl)
    (hs : swapsWithSole [.Tuple [.Name x px, .Name y py] kt pt] (.Tuple es k2 pt2) pos.line X.env = pure false := by rfl) (hw : swappedStores [.Tuple [.Name x px, .Name y py] kt pt] (.Tuple es k2 pt2) X.env = pure none := by rfl) :
    DS X W (.Assign [.Tuple [.Name x px, .Name y py] kt pt] (.Tuple es k2 pt2) pos) (sPar [i, j] g) :=
  ps_conseq (ps_asg (pe_tup ha) (pg_tup hc (pgs_cons (pg_name hN hi hx hf) (pgs_cons (pg_name hN hj hy hf2) pgs_nil))) hs hw) fun D σ H hq => by
    obtain ⟨F, ρ, sr, q⟩ := par_ok hq
    refine ⟨F, ρ, sr, q.mono fun vs H1 ⟨hl, n1, n2⟩ => ?_⟩
    match vs, hl, n1, n2 with
    | [v, w], _, n1, n2 => exact ⟨by show 2 ≤ sizeLine; decide, fun p n => ⟨p, [v, w], rfl, .of upd_same, rfl, v, [w], rfl, w, [], rfl, rfl, n2 p n _⟩⟩
theorem ds_parT3 (i j l : Nat) {x y z : Str} {px py pz pt : Pos} {kt k2 pt2} (hc : X.calm = true) (hN : X.N.Nodup) (ha : DA X W es g) (hi : X.N[i]? = some x := by rfl) (hj : X.N[j]? = some y := by rfl) (hl : X.N[l]? = some z := by rfl)
    (hx : Loc X.env.scope x := by first | exact .inl rfl | exact .inr rfl) (hy : Loc X.env.scope y := by first | exact .inl rfl | exact .inr rfl) (hz : Loc X.env.scope z := by first | exact .inl rfl | exact .inr rfl) (hf : X.fn x = true ∨ X.env.scope.names.lookup x = some .local := by first | exact .inl rfl | exact .inr rfl) (hf2 : X.fn y = true ∨ X.env.scope.names.lookup y = some .local := by first | exact .inl rfl | exact .inr rfl) (hf3 : X.fn z = true ∨ X.env.scope.names.lookup z = some .local := by first | exact .inl rfl | exact .inr rfl)
    (hs : swapsWithSole [.Tuple [.Name x px, .Name y py, .Name z pz] kt pt] (.Tuple es k2 pt2) pos.line X.env = pure false := by rfl) (hw : swappedStores [.Tuple [.Name x px, .Name y py, .Name z pz] kt pt] (.Tuple es k2 pt2) X.env = pure none := by rfl) :
    DS X W (.Assign [.Tuple [.Name x px, .Name y py, .Name z pz] kt pt] (.Tuple es k2 pt2) pos) (sPar [i, j, l] g) :=
  ps_conseq (ps_asg (pe_tup ha) (pg_tup hc (pgs_cons (pg_name hN hi hx hf) (pgs_cons (pg_name hN hj hy hf2) (pgs_cons (pg_name hN hl hz hf3) pgs_nil)))) hs hw) fun D σ H hq => by
    obtain ⟨F, ρ, sr, q⟩ := par_ok hq
    refine ⟨F, ρ, sr, q.mono fun vs H1 ⟨hl, n1, n2⟩ => ?_⟩
    match vs, hl, n1, n2 with
    | [v, w, u], _, n1, n2 => exact ⟨by show 3 ≤ sizeLine; decide, fun p n => ⟨p, [v, w, u], rfl, .of upd_same, rfl, v, [w, u], rfl, w, [u], rfl, u, [], rfl, rfl, n2 p n _⟩⟩
end
end DL
/-! DL9: what is walked; for, while. -/
namespace DL
open PySem PySem.Spec PyProof.Rows L2

/-- what is walked: its items; the slot whose object is walked -/
abbrev Src := List D × Option Nat
structure ItS (K : PySem.W.Frag) (J : It) (ds : List D) (Pre : Hp → Hp → Prop) : Prop where
  go : ∀ i F H, i < ds.length → Same F H → Pre F H → J.go i H
  yld : ∀ i x F H H', i < ds.length → Same F H → Pre F H → J.yld i H x H' → ∃ d F', ds[i]? = some d ∧ Gr F H F' H' ∧ Rep K F' x d
  stop : ∀ i F H, ds.length ≤ i → Same F H → Pre F H → J.stop i H
/-- what was there stays: the frozen part, the locked object -/
def PreI (σ : L2.St) (lk : Option Nat) (F1 H1 F H : Hp) : Prop := Same F1 F ∧ ∀ i, lk = some i → ∀ a o, σ[i]? = some (some (.ref a)) → H1 a = some o → H a = some o
def relI (K : PySem.W.Frag) (σ : L2.St) : RelT It Src := fun _ F H ρ J src => ItS K J src.1 (PreI σ src.2 F H) ∧ ∀ i, src.2 = some i → ∃ c m, ρ[i]? = some (.ow c m)
abbrev IM := M Src
def tI (K : PySem.W.Frag) (mg : Str → Option Value) (W : WX) (f : IM) : TI := fun σ H R => ∃ F ρ, SR K F H σ ρ ∧ Out K mg (fun c d H => W c d σ H) (relI K σ) σ ρ F H (f ρ) R
def DI (X : Cx) (W : WX) (tg iter : Expr) (f : IM) : Prop := PI X tg iter (tI X.K X.mg W f)
theorem pi_conseq {X : Cx} {tg iter : Expr} {t t' : TI} (h : PI X tg iter t) (c : ∀ σ H R, t' σ H R → t σ H R) : PI X tg iter t' := ⟨fun pins s σ H R I q => h.run pins s σ H R I (c _ _ _ q)⟩
theorem pi_or {X : Cx} {tg iter : Expr} {t t' : TI} (h : PI X tg iter t) (h' : PI X tg iter t') : PI X tg iter (fun σ H R => t σ H R ∨ t' σ H R) := ⟨fun pins s σ H R I q => q.elim (h.run pins s σ H R I) (h'.run pins s σ H R I)⟩
section
variable {K : PySem.W.Frag} {F H : Hp}
theorem its_list {σ : L2.St} {lk : Option Nat} {a : Addr} {xs : List V} {ds : List D} {F1 H1 : Hp} (r : RepL K F1 xs ds) (h : ∀ F H, Same F H → PreI σ lk F1 H1 F H → SqL K H a xs) (uq : ∀ F H ys, Same F H → PreI σ lk F1 H1 F H → SqL K H a ys → ys = xs) : ItS K (Itl K a) ds (PreI σ lk F1 H1) where
  go := fun i F H hi s p => by
    have hl : i < xs.length := by rw [r.length]; exact hi
    exact ⟨xs, xs[i], h F H s p, List.getElem?_eq_getElem hl⟩
  yld := fun i x F H H' hi s p ⟨e, hy⟩ => by
    subst e
    have q := hy xs (h F _ s p)
    obtain ⟨d, h1, h2⟩ := r.getV q
    exact ⟨d, F, h1, .refl s, h2.mono (.of p.1)⟩
  stop := fun i F H hi s p => ⟨xs, h F H s p, by rw [r.length]; exact hi⟩
theorem its_tup {σ : L2.St} {lk : Option Nat} {a : Addr} {xs : List V} {ds : List D} {F1 H1 : Hp} (r : RepL K F1 xs ds) (h : ∀ F H, Same F H → PreI σ lk F1 H1 F H → SqT K H a xs) : ItS K (Itt K a) ds (PreI σ lk F1 H1) where
  go := fun i F H hi s p => by
    have hl : i < xs.length := by rw [r.length]; exact hi
    exact ⟨xs, xs[i], h F H s p, List.getElem?_eq_getElem hl⟩
  yld := fun i x F H H' hi s p ⟨e, hy⟩ => by
    subst e
    have q := hy xs (h F _ s p)
    obtain ⟨d, h1, h2⟩ := r.getV q
    exact ⟨d, F, h1, .refl s, h2.mono (.of p.1)⟩
  stop := fun i F H hi s p => ⟨xs, h F H s p, by rw [r.length]; exact hi⟩
theorem its_range {σ : L2.St} {lk : Option Nat} {lo : Int} {n : Nat} {F1 H1 : Hp} : ItS K (Itr lo n) ((List.range n).map fun i : Nat => D.int (lo + (i : Int))) (PreI σ lk F1 H1) where
  go := fun i F H hi s p => by
    show i < n
    simpa using hi
  yld := fun i x F H H' hi s p ⟨e, hx⟩ => by
    subst e; subst hx
    have hi : i < n := by simpa using hi
    exact ⟨_, F, by rw [List.getElem?_map, List.getElem?_range hi]; rfl, .refl s, .int _⟩
  stop := fun i F H hi s p => by
    show n ≤ i
    simpa using hi
end
/-! ### sources -/
def seqSrc (x : Val) (ρ : DEnv) : R Src := match x with
  | .d (.lst ds) => .ok (ds, none) ρ
  | .d (.tup ds) => .ok (ds, none) ρ
  | .fr (.lst ds) => .ok (ds, none) ρ
  | .sl i => match ρ[i]? with
    | some (.d (.lst ds)) => .ok (ds, none) ρ
    | some (.d (.tup ds)) => .ok (ds, none) ρ
    | some (.ow (.lst ds) _) => .ok (ds, some i) ρ
    | _ => .bad
  | _ => .bad
def iSeq (f : EM) : IM := fun ρ => (f ρ).bind seqSrc
section
variable {X : Cx} {W : WX} {tg e : Expr} {f : EM} {es : List Expr} {g : M (List Val)} {p pos : Pos}
theorem sqL_ref {K : PySem.W.Frag} {H : Hp} {a : Addr} {xs ys : List V} (h : H a = some (.lst xs)) (hk : SqL K H a ys) (no : K.lookup a = none) : ys = xs := by
  rcases hk with (hk | ⟨o, hk⟩) | ⟨o, its, n, hk, _⟩
  · rw [h] at hk; cases hk; rfl
  · rw [h] at hk; cases hk
  · rw [no] at hk; cases hk
/-- as its_list, whatever else may be read at a: the loop's own look is at the list that stands -/
theorem its_list' {K : PySem.W.Frag} {σ : L2.St} {lk : Option Nat} {a : Addr} {xs : List V} {ds : List D} {F1 H1 : Hp} (r : RepL K F1 xs ds) (h : ∀ F H, Same F H → PreI σ lk F1 H1 F H → SqL K H a xs) : ItS K (Itl K a) ds (PreI σ lk F1 H1) where
  go := fun i F H hi s p => by
    have hl : i < xs.length := by rw [r.length]; exact hi
    exact ⟨xs, xs[i], h F H s p, List.getElem?_eq_getElem hl⟩
  yld := fun i x F H H' hi s p ⟨e, hy⟩ => by
    subst e
    have q := hy xs (h F _ s p)
    obtain ⟨d, h1, h2⟩ := r.getV q
    exact ⟨d, F, h1, .refl s, h2.mono (.of p.1)⟩
  stop := fun i F H hi s p => ⟨xs, h F H s p, by rw [r.length]; exact hi⟩
theorem di_seq (he : DE X W e f) : DI X W tg e (iSeq f) := pi_conseq (pi_or (pi_list he) (pi_tup he)) fun σ H R hq => by
  obtain ⟨F, ρ, sr, q⟩ := hq
  -- a frozen sequence
  have lstD : ∀ {ds : List D} {v : V} {F1 H1 : Hp} {ρ1 : DEnv}, SR X.K F1 H1 σ ρ1 → Rep X.K F1 v (.lst ds) → ∃ a, v = .ref a ∧ (∃ xs, SqL X.K H1 a xs) ∧ relI X.K σ H F1 H1 ρ1 (Itl X.K a) (ds, none) := fun {ds v F1 H1 ρ1} s1 r => by
    cases r with
    | lst e r => exact ⟨_, rfl, ⟨_, .of (s1.sub _ _ e)⟩, its_list' r (fun F' H' s p => .of (s _ _ (p.1 _ _ e))), fun i h => by cases h⟩
  have tupD : ∀ {ds : List D} {v : V} {F1 H1 : Hp} {ρ1 : DEnv}, SR X.K F1 H1 σ ρ1 → Rep X.K F1 v (.tup ds) → ∃ a, v = .ref a ∧ (∃ xs, SqT X.K H1 a xs) ∧ relI X.K σ H F1 H1 ρ1 (Itt X.K a) (ds, none) := fun {ds v F1 H1 ρ1} s1 r => by
    cases r with
    | tup e r => exact ⟨_, rfl, ⟨_, (RdLe.of s1.sub).sqT e⟩, its_tup r (fun F' H' s p => (RdLe.of s).sqT ((RdLe.of p.1).sqT e)), fun i h => by cases h⟩
  unfold iSeq at q
  cases h1 : f ρ with
  | bad => rw [h1] at q; exact q.elim
  | ex x ρ1 => rw [h1] at q; exact .inl ⟨F, ρ, sr, by rw [h1]; exact q⟩
  | ok x ρ1 =>
    rw [h1] at q
    have q : Out X.K X.mg (fun c d H => W c d σ H) (relI X.K σ) σ ρ F H (seqSrc x ρ1) R := q
    cases x with
    | d x =>
      cases x with
      | lst ds =>
        refine .inl ⟨F, ρ, sr, ?_⟩
        rw [h1]
        intro v F1 H1 s1 ev1 r1
        obtain ⟨a, rfl, hx, rel⟩ := lstD s1 r1
        exact ⟨a, rfl, hx, q _ F1 H1 s1 ev1 rel⟩
      | tup ds =>
        refine .inr ⟨F, ρ, sr, ?_⟩
        rw [h1]
        intro v F1 H1 s1 ev1 r1
        obtain ⟨a, rfl, hx, rel⟩ := tupD s1 r1
        exact ⟨a, rfl, hx, q _ F1 H1 s1 ev1 rel⟩
      | _ => exact q.elim
    | fr c =>
      cases c with
      | dic ks vs => exact q.elim
      | lst ds =>
        refine .inl ⟨F, ρ, sr, ?_⟩
        rw [h1]
        intro v F1 H1 s1 ev1 r1
        obtain ⟨F2, d, e2, s2, ev2, r2⟩ := fz_ok s1 ev1 r1 rfl
        cases e2
        obtain ⟨a, rfl, hx, rel⟩ := lstD s2 r2
        exact ⟨a, rfl, hx, q _ F2 H1 s2 ev2 rel⟩
    | sl i =>
      unfold seqSrc at q
      dsimp only at q
      cases hs : ρ1[i]? with
      | none => rw [hs] at q; exact q.elim
      | some sl =>
        rw [hs] at q
        cases sl with
        | un => exact q.elim
        | d x =>
          cases x with
          | lst ds =>
            refine .inl ⟨F, ρ, sr, ?_⟩
            rw [h1]
            intro v F1 H1 s1 ev1 r1
            obtain ⟨ov, g1, u, g2, g3⟩ := s1.slot i _ hs
            have r1 : σ[i]? = some (some v) := r1
            rw [r1] at g1; cases g1; cases g2
            obtain ⟨a, rfl, hx, rel⟩ := lstD s1 g3
            exact ⟨a, rfl, hx, q _ F1 H1 s1 ev1 rel⟩
          | tup ds =>
            refine .inr ⟨F, ρ, sr, ?_⟩
            rw [h1]
            intro v F1 H1 s1 ev1 r1
            obtain ⟨ov, g1, u, g2, g3⟩ := s1.slot i _ hs
            have r1 : σ[i]? = some (some v) := r1
            rw [r1] at g1; cases g1; cases g2
            obtain ⟨a, rfl, hx, rel⟩ := tupD s1 g3
            exact ⟨a, rfl, hx, q _ F1 H1 s1 ev1 rel⟩
          | _ => exact q.elim
        | ow c m =>
          cases c with
          | dic ks vs => exact q.elim
          | lst ds =>
            refine .inl ⟨F, ρ, sr, ?_⟩
            rw [h1]
            intro v F1 H1 s1 ev1 r1
            obtain ⟨ov, g1, a, g2, g3, xs, g4, g5⟩ := s1.slot i _ hs
            have r1 : σ[i]? = some (some v) := r1
            rw [r1] at g1; cases g1; cases g2
            refine ⟨a, rfl, ⟨xs, .of g4⟩, q _ F1 H1 s1 ev1 ⟨its_list' g5 fun F' H' s p => .of (p.2 i rfl a _ r1 g4), fun j h => by cases h; exact ⟨_, _, hs⟩⟩⟩
def iRng (g : M (List Val)) : IM := fun ρ => (g ρ).bind fun xs ρ1 => match xs with
  | [.d (.int j)] => if -(2 ^ 62) ≤ j ∧ j < 2 ^ 62 then .ok ((List.range j.toNat).map fun k : Nat => D.int (0 + (k : Int)), none) ρ1 else .bad
  | [.d (.int i), .d (.int j)] => if -(2 ^ 62) ≤ i ∧ i < 2 ^ 62 ∧ -(2 ^ 62) ≤ j ∧ j < 2 ^ 62 then .ok ((List.range (j - i).toNat).map fun k : Nat => D.int (i + (k : Int)), none) ρ1 else .bad
  | _ => .bad
theorem di_range1 {a : Expr} (hg : Gl X "range") (hm : X.mg "range" = none) (ha : DA X W [a] g) (hs : starEach [a] X.env = [(false, eval a X.env)] := by rfl) (one : ∀ ρ xs ρ', g ρ = .ok xs ρ' → xs.length = 1) : DI X W tg (.Call (.Name "range" p) [a] [] pos) (iRng g) := pi_conseq (pi_range1 hg hm ha hs) fun σ H R hq => by
  obtain ⟨F, ρ, sr, q⟩ := hq
  refine ⟨F, ρ, sr, (Out.bind (rel := relL X.K σ) q).mono fun vs H1 ⟨xs, F1, ρ1, e1, s1, ev1, r1, o1⟩ => ?_⟩
  have hl := one _ _ _ e1
  split at o1
  · rename_i j
    split at o1
    · rename_i hj
      obtain ⟨v, rfl, rv⟩ : ∃ v, vs = [v] ∧ VR X.K σ H F1 H1 ρ1 v (.d (.int j)) := by
        cases r1.all with
        | cons a t => cases t; exact ⟨_, rfl, a⟩
      obtain rfl := vr_int rv
      exact ⟨j, rfl, hj.1, hj.2, o1 _ F1 H1 s1 ev1 ⟨its_range, fun i h => by cases h⟩⟩
    · exact o1.elim
  · simp at hl
  · exact o1.elim
theorem di_range2 {a b : Expr} (hg : Gl X "range") (hm : X.mg "range" = none) (ha : DA X W [a, b] g) (two : ∀ ρ xs ρ', g ρ = .ok xs ρ' → xs.length = 2) (hs : starEach [a, b] X.env = [(false, eval a X.env), (false, eval b X.env)] := by rfl) (hs2 : starEach [b] X.env = [(false, eval b X.env)] := by rfl) : DI X W tg (.Call (.Name "range" p) [a, b] [] pos) (iRng g) := pi_conseq (pi_range2 hg hm ha hs hs2) fun σ H R hq => by
  obtain ⟨F, ρ, sr, q⟩ := hq
  refine ⟨F, ρ, sr, (Out.bind (rel := relL X.K σ) q).mono fun vs H1 ⟨xs, F1, ρ1, e1, s1, ev1, r1, o1⟩ => ?_⟩
  have hl := two _ _ _ e1
  split at o1
  · simp at hl
  · rename_i i j
    split at o1
    · rename_i hj
      obtain ⟨v, w, rfl, rv, rw⟩ : ∃ v w, vs = [v, w] ∧ VR X.K σ H F1 H1 ρ1 v (.d (.int i)) ∧ VR X.K σ H F1 H1 ρ1 w (.d (.int j)) := by
        cases r1.all with
        | cons a t =>
          cases t with
          | cons b t => cases t; exact ⟨_, _, rfl, a, b⟩
      obtain rfl := vr_int rv
      obtain rfl := vr_int rw
      exact ⟨i, j, rfl, hj, o1 _ F1 H1 s1 ev1 ⟨its_range, fun i h => by cases h⟩⟩
    · exact o1.elim
  · exact o1.elim
theorem aNil_len {ρ : DEnv} {xs : List Val} {ρ' : DEnv} (h : aNil ρ = .ok xs ρ') : xs.length = 0 := by cases h; rfl
theorem aCons_len {n : Nat} (hg : ∀ ρ xs ρ', g ρ = .ok xs ρ' → xs.length = n) : ∀ ρ xs ρ', aCons f g ρ = .ok xs ρ' → xs.length = n + 1 := fun ρ xs ρ' h => by
  unfold aCons at h
  cases h1 : f ρ with
  | bad => rw [h1] at h; cases h
  | ex x ρ1 => rw [h1] at h; cases h
  | ok x ρ1 =>
    rw [h1] at h
    simp only [R.bind] at h
    cases h2 : g ρ1 with
    | bad => rw [h2] at h; cases h
    | ex x ρ1 => rw [h2] at h; cases h
    | ok ys ρ2 => rw [h2] at h; cases h; rw [List.length_cons, hg _ _ _ h2]

/-! ### locks -/
def lockS (lk : Option Nat) (ρ : DEnv) : DEnv := match lk with
  | none => ρ
  | some i => match ρ[i]? with
    | some (.ow c _) => ρ.set i (.ow c .lck)
    | _ => ρ
def unlk (lk : Option Nat) (ρ0 ρ : DEnv) : DEnv := match lk with
  | none => ρ
  | some i => match ρ0[i]? with
    | some (.ow c m) => ρ.set i (.ow c m)
    | _ => ρ
def unlkS (lk : Option Nat) (ρ0 : DEnv) : RS → RS
  | .nx ρ => .nx (unlk lk ρ0 ρ)
  | .bk ρ => .bk (unlk lk ρ0 ρ)
  | .ct ρ => .ct (unlk lk ρ0 ρ)
  | .rt x ρ => .rt x (unlk lk ρ0 ρ)
  | .ex x ρ => .ex x (unlk lk ρ0 ρ)
  | .bad => .bad
section
variable {K : PySem.W.Frag} {mg : Str → Option Value} {σ σ' : L2.St} {ρ ρ' : DEnv} {F H F' H' : Hp} {lk : Option Nat}
theorem ow_mode {ρ ρ2 : DEnv} {σ : L2.St} (h : ∀ (i : Nat) (c : Cont) (m : Md), ρ[i]? = some (.ow c m) → ∃ m', ρ2[i]? = some (.ow c m')) {a : Addr} (z : Ow σ ρ a) : Ow σ ρ2 a := by
  obtain ⟨i, c, m, e, q⟩ := z
  obtain ⟨m', e'⟩ := h i c m e
  exact ⟨i, c, m', e', q⟩
/-- one slot's mode is another one -/
theorem sr_mode {i : Nat} {c : Cont} {m m' : Md} (sr : SR K F H σ ρ) (e : ρ[i]? = some (.ow c m)) : SR K F H σ (ρ.set i (.ow c m')) := by
  have hl : i < ρ.length := (List.getElem?_eq_some_iff.mp e).1
  have at' : ∀ {j : Nat} {s : Slot}, (ρ.set i (.ow c m'))[j]? = some s → (j = i ∧ s = .ow c m') ∨ (j ≠ i ∧ ρ[j]? = some s) := fun {j s} q => by
    by_cases hj : i = j
    · subst hj
      rw [List.getElem?_set_self hl] at q
      cases q
      exact .inl ⟨rfl, rfl⟩
    · rw [List.getElem?_set_ne hj] at q
      exact .inr ⟨fun z => hj z.symm, q⟩
  refine ⟨by rw [List.length_set]; exact sr.len, sr.sub, fun j s q => ?_, fun j k c1 m1 c2 m2 a q1 q2 q3 q4 => ?_⟩
  · rcases at' q with ⟨rfl, rfl⟩ | ⟨_, q⟩
    · obtain ⟨ov, z1, z2⟩ := sr.slot j _ e
      exact ⟨ov, z1, z2⟩
    · exact sr.slot j s q
  · rcases at' q1 with ⟨h1, z1⟩ | ⟨_, w1⟩ <;> rcases at' q2 with ⟨h2, z2⟩ | ⟨_, w2⟩
    · rw [h1, h2]
    · subst h1; exact sr.dist _ _ _ _ _ _ a e w2 q3 q4
    · subst h2; exact sr.dist _ _ _ _ _ _ a w1 e q3 q4
    · exact sr.dist _ _ _ _ _ _ a w1 w2 q3 q4
theorem lock_sr (sr : SR K F H σ ρ) : SR K F H σ (lockS lk ρ) := by
  unfold lockS
  split
  · exact sr
  · split
    · rename_i e; exact sr_mode sr e
    · exact sr
/-- back from the locked state -/
theorem unlk_ok (sr : SR K F H σ ρ) (s' : SR K F' H' σ' ρ') (ev : Ev σ (lockS lk ρ) F H σ' ρ' F' H') : SR K F' H' σ' (unlk lk ρ ρ') ∧ Ev σ ρ F H σ' (unlk lk ρ ρ') F' H' := by
  cases lk with
  | none => exact ⟨s', ev⟩
  | some i =>
    unfold lockS unlk at *
    dsimp only at *
    split
    · rename_i c m e
      rw [e] at ev
      dsimp only at ev
      have hl : i < ρ.length := (List.getElem?_eq_some_iff.mp e).1
      have eL : (ρ.set i (.ow c .lck))[i]? = some (.ow c .lck) := List.getElem?_set_self hl
      obtain ⟨b1, c', b2, b3⟩ := ev.bor i c .lck eL (by decide)
      obtain rfl := b3 rfl
      have hl' : i < ρ'.length := (List.getElem?_eq_some_iff.mp b2).1
      have owL : ∀ {a : Addr}, Ow σ (ρ.set i (.ow c' .lck)) a → Ow σ ρ a := fun {a} z => ow_mode (fun j c1 m1 q => by
        by_cases hj : i = j
        · subst hj; rw [eL] at q; cases q; exact ⟨m, e⟩
        · rw [List.getElem?_set_ne hj] at q; exact ⟨m1, q⟩) z
      have mtL : ∀ {a : Addr}, Mt σ (ρ.set i (.ow c' .lck)) a → Mt σ ρ a := fun {a} z => by
        obtain ⟨j, c1, m1, q, n, q2⟩ := z
        by_cases hj : i = j
        · subst hj; rw [eL] at q; cases q; exact absurd rfl n
        · rw [List.getElem?_set_ne hj] at q; exact ⟨j, c1, m1, q, n, q2⟩
      have owU : ∀ {a : Addr}, Ow σ' (ρ'.set i (.ow c' m)) a → Ow σ' ρ' a := fun {a} z => ow_mode (fun j c1 m1 q => by
        by_cases hj : i = j
        · subst hj; rw [List.getElem?_set_self hl'] at q; cases q; exact ⟨_, b2⟩
        · rw [List.getElem?_set_ne hj] at q; exact ⟨m1, q⟩) z
      refine ⟨sr_mode s' b2, ⟨ev.ext, fun a o q n => ev.keep a o q fun z => n (mtL z), fun a q n => (ev.newF a q n).imp id owL, ev.dom, fun j c1 m1 q n => ?_, fun a z => (ev.own' a (owU z)).imp id owL, fun a z => ?_⟩⟩
      · by_cases hj : i = j
        · subst hj
          rw [e] at q; cases q
          exact ⟨b1, c', List.getElem?_set_self hl', fun _ => rfl⟩
        · obtain ⟨z1, c2, z2, z3⟩ := ev.bor j c1 m1 (by rw [List.getElem?_set_ne hj]; exact q) n
          exact ⟨z1, c2, by rw [List.getElem?_set_ne hj]; exact z2, z3⟩
      · obtain ⟨j, c1, m1, q, n, q2⟩ := z
        by_cases hj : i = j
        · subst hj
          rw [List.getElem?_set_self hl'] at q
          cases q
          right
          exact ⟨i, c', m, e, n, by rw [← b1]; exact q2⟩
        · rw [List.getElem?_set_ne hj] at q
          exact (ev.mt' a ⟨j, c1, m1, q, n, q2⟩).imp id mtL
    · rename_i hn
      have : (match ρ[i]? with | some (.ow c m) => ρ.set i (.ow c .lck) | x => ρ) = ρ := by
        split
        · rename_i c m e; exact absurd e (hn c m)
        · rfl
      rw [this] at ev
      exact ⟨s', ev⟩
theorem OutS.lock {W : WX} {r : RS} {D : Ends} (sr : SR K F H σ ρ) (h : OutS K mg W σ ρ F H (unlkS lk ρ r) D) : OutS K mg W σ (lockS lk ρ) F H r D := by
  cases r with
  | nx ρ' => exact fun σ' F' H' s e => let ⟨s2, e2⟩ := unlk_ok sr s e; h σ' F' H' s2 e2
  | bk ρ' => exact fun σ' F' H' s e => let ⟨s2, e2⟩ := unlk_ok sr s e; h σ' F' H' s2 e2
  | ct ρ' => exact fun σ' F' H' s e => let ⟨s2, e2⟩ := unlk_ok sr s e; h σ' F' H' s2 e2
  | ex x ρ' => exact fun c d σ' F' H' s e r => let ⟨s2, e2⟩ := unlk_ok sr s e; h c d σ' F' H' s2 e2 r
  | bad => exact h
  | rt x ρ' =>
    refine fun v σ' F' H' s e r => let ⟨s2, e2⟩ := unlk_ok sr s e; h v σ' F' H' s2 e2 ?_
    cases x with
    | d x => exact r
    | sl i => exact r
    | fr c =>
      obtain ⟨p, e1, nb, nF, cr, no⟩ := r
      refine ⟨p, e1, nb, nF, cr, fun z => no ?_⟩
      unfold unlk at z
      split at z
      · exact z
      · rename_i i
        split at z
        · rename_i c' m q
          have hl : i < ρ.length := (List.getElem?_eq_some_iff.mp q).1
          obtain ⟨b1, c2, b2, b3⟩ := e.bor i c' .lck (by unfold lockS; dsimp only; rw [q]; exact List.getElem?_set_self hl) (by decide)
          obtain rfl := b3 rfl
          exact ow_mode (fun j c1 m1 q' => by
            by_cases hj : i = j
            · subst hj; rw [List.getElem?_set_self (List.getElem?_eq_some_iff.mp b2).1] at q'; cases q'; exact ⟨_, b2⟩
            · rw [List.getElem?_set_ne hj] at q'; exact ⟨m1, q'⟩) z
        · exact z
/-- what is walked stays while it is locked -/
theorem pre_lock {σ1 : L2.St} {F1 H1 F2 H2 : Hp} {ρ1 : DEnv} (sr : SR K F H σ ρ) (hk : ∀ i, lk = some i → ∃ c m, ρ[i]? = some (.ow c m)) (ev : Ev σ (lockS lk ρ) F H σ1 ρ1 F1 H1) : PreI σ lk F H F1 H1 := by
  refine ⟨ev.ext, fun i e a o q1 q2 => ev.keep a o q2 fun ⟨j, c1, m1, z1, z2, z3⟩ => ?_⟩
  subst e
  obtain ⟨c, m, q⟩ := hk i rfl
  have hl : i < ρ.length := (List.getElem?_eq_some_iff.mp q).1
  unfold lockS at z1
  dsimp only at z1
  rw [q] at z1
  dsimp only at z1
  by_cases hj : i = j
  · subst hj; rw [List.getElem?_set_self hl] at z1; cases z1; exact z2 rfl
  · rw [List.getElem?_set_ne hj] at z1
    exact hj (sr.dist i j _ _ _ _ a q z1 q1 z3)
end

/-! ### for -/
def loopD (tg : Val → SM) (body : SM) : List D → SM
  | [], ρ => .nx ρ
  | d :: ds, ρ => match tg (.d d) ρ with
    | .nx ρ1 => match body ρ1 with
      | .nx ρ2 => loopD tg body ds ρ2
      | .ct ρ2 => loopD tg body ds ρ2
      | .bk ρ2 => .nx ρ2
      | r => r
    | _ => .bad
def sFor (f : IM) (tg : Val → SM) (body : SM) : SM := fun ρ => (f ρ).bindS fun src ρ1 => unlkS src.2 ρ1 (loopD tg body src.1 (lockS src.2 ρ1))
theorem ds_for {S : List Nat} {h : Val → SM} {b : SM} {iter : Expr} {body : List Stmt} {fi : IM} (hp : PassesOwn (model X.prog X.w) X.A X.env X.xe) (hc : X.calm = true) (hi : DI X W tg iter fi) (hg : DG X tg S h) (hb : DSs X W body b)
    (hs : ∀ x, foldedSetIterable iter X.env x = pure x := by intro _; rfl) : DS X W (.For tg iter body [] pos) (sFor fi h b) := ps_conseq (ps_for hp hc hi hg hb hs) fun D σ H hq => by
  obtain ⟨F, ρ, sr, q⟩ := hq
  refine ⟨F, ρ, sr, (Out.bindS (rel := relI X.K σ) q).mono fun J H1 ⟨src, F1, ρ1, e1, s1, ev1, ⟨its, hk⟩, o1⟩ => ?_⟩
  obtain ⟨ds, lk⟩ := src
  have o2 := OutS.lock (lk := lk) s1 (o1.from ev1)
  have sL := lock_sr (lk := lk) s1
  refine ⟨fun i m σ' H' => m = ds.length - i ∧ i ≤ ds.length ∧ ∃ F' ρ', SR X.K F' H' σ' ρ' ∧ Ev σ (lockS lk ρ1) F1 H1 σ' ρ' F' H' ∧ OutS X.K X.mg W σ (lockS lk ρ1) F1 H1 (loopD h b (ds.drop i) ρ') D, ⟨ds.length, rfl, Nat.zero_le _, F1, lockS lk ρ1, sL, .refl, o2⟩, ?_⟩
  rintro i m σ' H' ⟨rfl, hi', F', ρ', s', ev', o'⟩
  have pre : PreI σ lk F1 H1 F' H' := pre_lock (F2 := F1) (H2 := H1) s1 hk ev'
  by_cases hlt : i < ds.length
  · refine .inr ⟨its.go i F' H' hlt s'.sub pre, fun σ2 H2 => ∃ F2 ρ2, SR X.K F2 H2 σ2 ρ2 ∧ Ev σ (lockS lk ρ1) F1 H1 σ2 ρ2 F2 H2 ∧ OutS X.K X.mg W σ (lockS lk ρ1) F1 H1 (loopD h b (ds.drop (i + 1)) ρ2) D, fun σ2 H2 hN => ⟨ds.length - (i + 1), by omega, rfl, hlt, hN⟩, fun x H3 hy => ?_⟩
    obtain ⟨d, F3, hd, gr, rx⟩ := its.yld i x F' H' H3 hlt s'.sub pre hy
    have s3 := gr.sr s'
    have ev3 := ev'.trans gr.ev
    have e3 : ds.drop i = d :: ds.drop (i + 1) := by
      have e4 : ds[i] = d := by rw [List.getElem?_eq_getElem hlt] at hd; exact Option.some.inj hd
      rw [List.drop_eq_getElem_cons hlt, e4]
    rw [e3] at o'
    refine ⟨σ', ρ', F3, H3, F3, ρ', .d d, s3, .refl, rx, ?_⟩
    dsimp only [loopD] at o'
    cases ht : h (.d d) ρ' with
    | nx ρ4 =>
      rw [ht] at o'
      dsimp only at o'
      refine fun σ4 F4 H4 s4 ev4 _ => ⟨F4, ρ4, s4, ?_⟩
      have ev5 := ev3.trans ev4
      cases hbody : b ρ4 with
      | nx ρ5 => rw [hbody] at o'; exact fun σ5 F5 H5 s5 ev6 => ⟨F5, ρ5, s5, ev5.trans ev6, o'⟩
      | ct ρ5 => rw [hbody] at o'; exact fun σ5 F5 H5 s5 ev6 => ⟨F5, ρ5, s5, ev5.trans ev6, o'⟩
      | bk ρ5 => rw [hbody] at o'; exact fun σ5 F5 H5 s5 ev6 => o' σ5 F5 H5 s5 (ev5.trans ev6)
      | rt x ρ5 => rw [hbody] at o'; exact OutS.from (r := .rt x ρ5) o' ev5
      | ex x ρ5 => rw [hbody] at o'; exact OutS.from (r := .ex x ρ5) o' ev5
      | bad => rw [hbody] at o'; exact o'.elim
    | rt x ρ4 => rw [ht] at o'; exact o'.elim
    | bk ρ4 => rw [ht] at o'; exact o'.elim
    | ct ρ4 => rw [ht] at o'; exact o'.elim
    | ex x ρ4 => rw [ht] at o'; exact o'.elim
    | bad => rw [ht] at o'; exact o'.elim
  · have e : i = ds.length := by omega
    subst e
    refine .inl ⟨its.stop _ F' H' (Nat.le_refl _) s'.sub pre, ?_⟩
    rw [List.drop_length] at o'
    exact o' σ' F' H' s' ev'

/-! ### while: n turns at most -/
def whileD (t : M Bool) (body : SM) : Nat → SM
  | 0, _ => .bad
  | n + 1, ρ => (t ρ).bindS fun b ρ1 => if b = true then (match body ρ1 with
      | .nx ρ2 => whileD t body n ρ2
      | .ct ρ2 => whileD t body n ρ2
      | .bk ρ2 => .nx ρ2
      | r => r) else .nx ρ1
theorem ds_while (n : Nat) {c : Expr} {body : List Stmt} {t : M Bool} {b : SM} (hp : PassesOwn (model X.prog X.w) X.A X.env X.xe) (hc : DT X W c t) (hb : DSs X W body b) : DS X W (.While c body [] pos) (whileD t b n) := ps_conseq (ps_while hp hc hb) fun D σ H hq => by
  obtain ⟨F, ρ, sr, q⟩ := hq
  refine ⟨fun m σ' H' => ∃ F' ρ', SR X.K F' H' σ' ρ' ∧ Ev σ ρ F H σ' ρ' F' H' ∧ OutS X.K X.mg W σ ρ F H (whileD t b m ρ') D, ⟨n, F, ρ, sr, .refl, q⟩, ?_⟩
  rintro m σ' H' ⟨F', ρ', s', ev', o'⟩
  cases m with
  | zero => exact o'.elim
  | succ m =>
    refine ⟨F', ρ', s', (Out.bindS (rel := relB) (o'.from ev')).mono fun v H1 ⟨x, F1, ρ1, e1, s1, ev1, r1, o1⟩ => ?_⟩
    have r1 : v = x := r1
    subst r1
    cases v with
    | false => exact o1 σ' F1 H1 s1 ev1
    | true =>
      rw [if_pos rfl]
      refine ⟨fun σ2 H2 => ∃ F2 ρ2, SR X.K F2 H2 σ2 ρ2 ∧ Ev σ ρ F H σ2 ρ2 F2 H2 ∧ OutS X.K X.mg W σ ρ F H (whileD t b m ρ2) D, fun σ2 H2 h => ⟨m, Nat.lt_succ_self _, h⟩, F1, ρ1, s1, ?_⟩
      have ev2 := ev'.trans ev1
      dsimp only [whileD] at o'
      rw [e1] at o'
      dsimp only [R.bindS] at o'
      rw [if_pos rfl] at o'
      cases hbody : b ρ1 with
      | nx ρ5 => rw [hbody] at o'; exact fun σ5 F5 H5 s5 ev6 => ⟨F5, ρ5, s5, ev2.trans ev6, o'⟩
      | ct ρ5 => rw [hbody] at o'; exact fun σ5 F5 H5 s5 ev6 => ⟨F5, ρ5, s5, ev2.trans ev6, o'⟩
      | bk ρ5 => rw [hbody] at o'; exact fun σ5 F5 H5 s5 ev6 => o' σ5 F5 H5 s5 (ev2.trans ev6)
      | rt x ρ5 => rw [hbody] at o'; exact OutS.from (r := .rt x ρ5) o' ev2
      | ex x ρ5 => rw [hbody] at o'; exact OutS.from (r := .ex x ρ5) o' ev2
      | bad => rw [hbody] at o'; exact o'.elim
end
end DL
/-! DL10: list comprehensions. -/
namespace DL
open PySem PySem.Spec PyProof.Rows L2

def wipeD (ρ : DEnv) : List Nat → DEnv
  | [] => ρ
  | v :: vs => (wipeD ρ vs).set v .un
/-- the block's own slots as they were -/
def backD (ρ0 ρ : DEnv) : List Nat → DEnv
  | [] => ρ
  | v :: vs => match ρ0[v]? with
    | some s => (backD ρ0 ρ vs).set v s
    | none => backD ρ0 ρ vs
theorem wipeD_len (ρ : DEnv) : ∀ vs : List Nat, (wipeD ρ vs).length = ρ.length
  | [] => rfl
  | v :: vs => by unfold wipeD; rw [List.length_set, wipeD_len ρ vs]
theorem backD_len (ρ0 ρ : DEnv) : ∀ vs : List Nat, (backD ρ0 ρ vs).length = ρ.length
  | [] => rfl
  | v :: vs => by
    unfold backD
    split
    · rw [List.length_set, backD_len ρ0 ρ vs]
    · exact backD_len ρ0 ρ vs
theorem wipeD_get {ρ : DEnv} {i : Nat} {s : Slot} : ∀ {vs : List Nat}, (wipeD ρ vs)[i]? = some s → (s = .un ∧ i ∈ vs) ∨ (ρ[i]? = some s ∧ i ∉ vs)
  | [], h => .inr ⟨h, by simp⟩
  | v :: vs, h => by
    unfold wipeD at h
    by_cases hv : v = i
    · subst hv
      by_cases hl : v < (wipeD ρ vs).length
      · rw [List.getElem?_set_self hl] at h; cases h; exact .inl ⟨rfl, List.mem_cons_self ..⟩
      · rw [List.getElem?_eq_none (by simpa using hl)] at h; cases h
    · rw [List.getElem?_set_ne hv] at h
      rcases wipeD_get h with ⟨h1, h2⟩ | ⟨h1, h2⟩
      · exact .inl ⟨h1, List.mem_cons_of_mem _ h2⟩
      · exact .inr ⟨h1, by simp only [List.mem_cons, not_or]; exact ⟨fun z => hv z.symm, h2⟩⟩
theorem wipeD_keep {ρ : DEnv} {i : Nat} : ∀ {vs : List Nat}, i ∉ vs → (wipeD ρ vs)[i]? = ρ[i]?
  | [], h => rfl
  | v :: vs, h => by
    simp only [List.mem_cons, not_or] at h
    unfold wipeD
    rw [List.getElem?_set_ne (fun z => h.1 z.symm)]
    exact wipeD_keep h.2
theorem wipeS_get {σ : L2.St} {i : Nat} : ∀ {vs : List Nat}, i ∈ vs → i < σ.length → (wipe σ vs)[i]? = some none
  | v :: vs, h, hl => by
    unfold wipe
    by_cases hv : v = i
    · subst hv
      exact List.getElem?_set_self (by rw [wipe_length]; exact hl)
    · rw [List.getElem?_set_ne hv]
      rcases List.mem_cons.mp h with e | h
      · exact absurd e.symm hv
      · exact wipeS_get h hl
theorem wipeS_keep {σ : L2.St} {i : Nat} : ∀ {vs : List Nat}, i ∉ vs → (wipe σ vs)[i]? = σ[i]?
  | [], h => rfl
  | v :: vs, h => by
    simp only [List.mem_cons, not_or] at h
    unfold wipe
    rw [List.getElem?_set_ne (fun z => h.1 z.symm)]
    exact wipeS_keep h.2
theorem wipe_off {S vs : List Nat} {σ σ' : L2.St} (h : Off S (wipe σ vs) σ') (hS : ∀ i ∈ S, i ∈ vs) : wipe σ' vs = wipe σ vs := by
  obtain ⟨hl, ho⟩ := h
  rw [wipe_length] at hl
  refine List.ext_getElem? fun i => ?_
  by_cases hi : i ∈ vs
  · by_cases hlt : i < σ.length
    · rw [wipeS_get hi hlt, wipeS_get hi (by rw [hl]; exact hlt)]
    · rw [List.getElem?_eq_none (by rw [wipe_length]; omega), List.getElem?_eq_none (by rw [wipe_length]; omega)]
  · rw [wipeS_keep hi, wipeS_keep hi]
    have := ho i fun z => hi (hS i z)
    rw [wipeS_keep hi] at this
    exact this
section
variable {K : PySem.W.Frag} {mg : Str → Option Value} {σ σ' : L2.St} {ρ ρ' : DEnv} {F H F' H' : Hp} {vs : List Nat}
theorem ow_wipe {a : Addr} (h : Ow (wipe σ vs) (wipeD ρ vs) a) : Ow σ ρ a := by
  obtain ⟨i, c, m, e1, e2⟩ := h
  rcases wipeD_get e1 with ⟨z, _⟩ | ⟨z, n⟩
  · cases z
  · rw [wipeS_keep n] at e2
    exact ⟨i, c, m, z, e2⟩
theorem mt_wipe {a : Addr} (h : Mt (wipe σ vs) (wipeD ρ vs) a) : Mt σ ρ a := by
  obtain ⟨i, c, m, e1, n1, e2⟩ := h
  rcases wipeD_get e1 with ⟨z, _⟩ | ⟨z, n⟩
  · cases z
  · rw [wipeS_keep n] at e2
    exact ⟨i, c, m, z, n1, e2⟩
theorem sr_wipe (sr : SR K F H σ ρ) : SR K F H (wipe σ vs) (wipeD ρ vs) := by
  refine ⟨by rw [wipe_length, wipeD_len]; exact sr.len, sr.sub, fun i s e => ?_, fun i j c m c' m' a e1 e2 e3 e4 => ?_⟩
  · rcases wipeD_get e with ⟨rfl, hi⟩ | ⟨z, n⟩
    · have hl : i < σ.length := by
        have := (List.getElem?_eq_some_iff.mp e).1
        rw [wipeD_len] at this
        rw [sr.len]; exact this
      exact ⟨none, wipeS_get hi hl, trivial⟩
    · rw [wipeS_keep n]
      exact sr.slot i s z
  · rcases wipeD_get e1 with ⟨z, _⟩ | ⟨z1, n1⟩
    · cases z
    · rcases wipeD_get e2 with ⟨z, _⟩ | ⟨z2, n2⟩
      · cases z
      · rw [wipeS_keep n1] at e3
        rw [wipeS_keep n2] at e4
        exact sr.dist i j c m c' m' a z1 z2 e3 e4
/-- within the block: the own slots wiped again -/
theorem in_wipe {ρ2 : DEnv} {σ2 : L2.St} {F2 H2 : Hp} (e : wipe σ2 vs = wipe σ vs) (s2 : SR K F2 H2 σ2 ρ2) (ev : Ev (wipe σ vs) ρ F H σ2 ρ2 F2 H2) (hb : ∀ i c m, ρ[i]? = some (.ow c m) → i ∉ vs) : SR K F2 H2 (wipe σ vs) (wipeD ρ2 vs) ∧ Ev (wipe σ vs) ρ F H (wipe σ vs) (wipeD ρ2 vs) F2 H2 := by
  have s3 : SR K F2 H2 (wipe σ vs) (wipeD ρ2 vs) := e ▸ sr_wipe (vs := vs) s2
  refine ⟨s3, ⟨ev.ext, ev.keep, ev.newF, ev.dom, fun i c m q n => ?_, fun a z => ev.own' a (ow_wipe (vs := vs) (σ := σ2) (by rw [e]; exact z)), fun a z => ev.mt' a (mt_wipe (vs := vs) (σ := σ2) (by rw [e]; exact z))⟩⟩
  obtain ⟨b1, c', b2, b3⟩ := ev.bor i c m q n
  have hi := hb i c m q
  exact ⟨rfl, c', by rw [wipeD_keep hi]; exact b2, b3⟩
theorem backD_get {ρ0 ρ : DEnv} {i : Nat} {s : Slot} : ∀ {vs : List Nat}, (backD ρ0 ρ vs)[i]? = some s → (∀ v ∈ vs, v < ρ0.length) → (ρ0[i]? = some s ∧ i ∈ vs) ∨ (ρ[i]? = some s ∧ i ∉ vs)
  | [], h, _ => .inr ⟨h, by simp⟩
  | v :: vs, h, hv => by
    have hv' : v < ρ0.length := hv v (List.mem_cons_self ..)
    have hvs : ∀ u ∈ vs, u < ρ0.length := fun u hu => hv u (List.mem_cons_of_mem _ hu)
    unfold backD at h
    rw [List.getElem?_eq_getElem hv'] at h
    dsimp only at h
    by_cases e : v = i
    · subst e
      by_cases hl : v < (backD ρ0 ρ vs).length
      · rw [List.getElem?_set_self hl] at h; cases h
        exact .inl ⟨List.getElem?_eq_getElem hv', List.mem_cons_self ..⟩
      · rw [List.getElem?_eq_none (by simpa using hl)] at h; cases h
    · rw [List.getElem?_set_ne e] at h
      rcases backD_get h hvs with ⟨h1, h2⟩ | ⟨h1, h2⟩
      · exact .inl ⟨h1, List.mem_cons_of_mem _ h2⟩
      · exact .inr ⟨h1, by simp only [List.mem_cons, not_or]; exact ⟨fun z => e z.symm, h2⟩⟩
theorem backD_keep {ρ0 ρ : DEnv} {i : Nat} : ∀ {vs : List Nat}, i ∉ vs → (backD ρ0 ρ vs)[i]? = ρ[i]?
  | [], h => rfl
  | v :: vs, h => by
    simp only [List.mem_cons, not_or] at h
    unfold backD
    split
    · rw [List.getElem?_set_ne (fun z => h.1 z.symm)]
      exact backD_keep h.2
    · exact backD_keep h.2
theorem backD_at {ρ0 ρ : DEnv} {i : Nat} {s : Slot} (e : ρ0[i]? = some s) (hl : i < ρ.length) : ∀ {vs : List Nat}, i ∈ vs → (backD ρ0 ρ vs)[i]? = some s
  | v :: vs, h => by
    unfold backD
    by_cases hv : v = i
    · subst hv
      rw [e]
      exact List.getElem?_set_self (by rw [backD_len]; exact hl)
    · have h' : i ∈ vs := by
        rcases List.mem_cons.mp h with z | z
        · exact absurd z.symm hv
        · exact z
      split
      · rw [List.getElem?_set_ne hv]; exact backD_at e hl h'
      · exact backD_at e hl h'
/-- out of the block: the own slots as they were ahead of it -/
theorem out_wipe {ρ2 : DEnv} {F2 H2 : Hp} (sr : SR K F H σ ρ) (hvs : ∀ v ∈ vs, v < ρ.length) (s2 : SR K F2 H2 (wipe σ vs) ρ2) (ev : Ev (wipe σ vs) (wipeD ρ vs) F H (wipe σ vs) ρ2 F2 H2) (hu : ∀ i ∈ vs, ∀ c m, ρ2[i]? ≠ some (.ow c m)) :
    SR K F2 H2 σ (backD ρ ρ2 vs) ∧ Ev σ ρ F H σ (backD ρ ρ2 vs) F2 H2 := by
  have l2 : ρ2.length = ρ.length := by rw [← s2.len, wipe_length, sr.len]
  -- what an own slot owned ahead of the block is untouched within
  have keepO : ∀ {i : Nat} {c : Cont} {m : Md} {a : Addr}, i ∈ vs → ρ[i]? = some (.ow c m) → σ[i]? = some (some (.ref a)) → ¬ Ow (wipe σ vs) (wipeD ρ vs) a := fun {i c m a} hi e1 e2 ⟨j, c', m', z1, z2⟩ => by
    rcases wipeD_get z1 with ⟨z, _⟩ | ⟨z, n⟩
    · cases z
    · rw [wipeS_keep n] at z2
      have := sr.dist i j c m c' m' a e1 z e2 z2
      subst this
      exact n hi
  have owned : ∀ {i : Nat} {c : Cont} {m : Md}, i ∈ vs → ρ[i]? = some (.ow c m) → ∃ a, σ[i]? = some (some (.ref a)) ∧ F2 a = none ∧ CRep K F2 H2 a c ∧ ∃ o, H a = some o := fun {i c m} hi e => by
    obtain ⟨ov, g1, a, g2, g3, g4⟩ := sr.slot i _ e
    subst g2
    have no := keepO hi e g1
    obtain ⟨o, ho⟩ := g4.some
    refine ⟨a, g1, ?_, g4.mono (.of ev.ext) ((ev.keep a o ho fun m => no m.ow).trans ho.symm), o, ho⟩
    cases hF : F2 a with
    | none => rfl
    | some u =>
      rcases ev.newF a g3 (by rw [hF]; simp) with z | z
      · rw [ho] at z; cases z
      · exact absurd z no
  have low : ∀ {a : Addr}, Ow σ (backD ρ ρ2 vs) a → H a = none ∨ Ow σ ρ a := fun {a} ⟨i, c, m, e1, e2⟩ => by
    rcases backD_get e1 hvs with ⟨z, _⟩ | ⟨z, n⟩
    · exact .inr ⟨i, c, m, z, e2⟩
    · exact (ev.own' a ⟨i, c, m, z, by rw [wipeS_keep n]; exact e2⟩).imp id ow_wipe
  refine ⟨⟨by rw [backD_len, l2]; exact sr.len, s2.sub, fun i s e => ?_, fun i j c m c' m' a e1 e2 e3 e4 => ?_⟩, ⟨ev.ext, fun a o q n => ev.keep a o q fun z => n (mt_wipe z), fun a q n => (ev.newF a q n).imp id ow_wipe, ev.dom, fun i c m q n => ?_, fun a z => low z, fun a ⟨i, c, m, e1, n1, e2⟩ => ?_⟩⟩
  · rcases backD_get e hvs with ⟨z, hi⟩ | ⟨z, n⟩
    · obtain ⟨ov, g1, g2⟩ := sr.slot i s z
      refine ⟨ov, g1, ?_⟩
      cases s with
      | un => trivial
      | d x => obtain ⟨v, q, r⟩ := g2; exact ⟨v, q, r.mono (.of ev.ext)⟩
      | ow c m =>
        obtain ⟨a, q1, q2, q3, _⟩ := owned hi z
        rw [q1] at g1; cases g1
        exact ⟨a, rfl, q2, q3⟩
    · obtain ⟨ov, g1, g2⟩ := s2.slot i s z
      rw [wipeS_keep n] at g1
      exact ⟨ov, g1, g2⟩
  · have mixed : ∀ {i j : Nat} {c c' : Cont} {m m' : Md}, i ∈ vs → ρ[i]? = some (.ow c m) → ρ2[j]? = some (.ow c' m') → j ∉ vs → σ[i]? = some (some (.ref a)) → σ[j]? = some (some (.ref a)) → False := fun {i j c c' m m'} hi q1 q2 nj q3 q4 => by
      obtain ⟨a', z1, _, _, o, ho⟩ := owned hi q1
      rw [q3] at z1; cases z1
      rcases ev.own' a ⟨j, c', m', q2, by rw [wipeS_keep nj]; exact q4⟩ with z | z
      · rw [ho] at z; cases z
      · exact keepO hi q1 q3 z
    rcases backD_get e1 hvs with ⟨z1, i1⟩ | ⟨z1, n1⟩ <;> rcases backD_get e2 hvs with ⟨z2, i2⟩ | ⟨z2, n2⟩
    · exact sr.dist i j c m c' m' a z1 z2 e3 e4
    · exact (mixed i1 z1 z2 n2 e3 e4).elim
    · exact (mixed i2 z2 z1 n1 e4 e3).elim
    · exact s2.dist i j c m c' m' a z1 z2 (by rw [wipeS_keep n1]; exact e3) (by rw [wipeS_keep n2]; exact e4)
  · by_cases hi : i ∈ vs
    · have hl : i < ρ2.length := by rw [l2]; exact hvs i hi
      exact ⟨rfl, c, backD_at q hl hi, fun _ => rfl⟩
    · obtain ⟨b1, c', b2, b3⟩ := ev.bor i c m (by rw [wipeD_keep hi]; exact q) n
      exact ⟨rfl, c', by rw [backD_keep hi]; exact b2, b3⟩
  · rcases backD_get e1 hvs with ⟨z, _⟩ | ⟨z, n⟩
    · exact .inr ⟨i, c, m, z, n1, e2⟩
    · exact (ev.mt' a ⟨i, c, m, z, n1, by rw [wipeS_keep n]; exact e2⟩).imp id mt_wipe
/-- an object that no slot has, changed -/
theorem sr_other {p : Addr} {o : HO} (sr : SR K F H σ ρ) (nF : F p = none) (no : ¬ Ow σ ρ p) : SR K F (upd H p o) σ ρ := by
  refine ⟨sr.len, fun b u e => by rw [upd_ne (ne_of_none e nF)]; exact sr.sub _ _ e, fun i s e => ?_, sr.dist⟩
  obtain ⟨ov, g1, g2⟩ := sr.slot i s e
  refine ⟨ov, g1, ?_⟩
  cases s with
  | un => trivial
  | d x => exact g2
  | ow c m =>
    obtain ⟨a, q, fa, cr⟩ := g2
    subst q
    exact ⟨a, rfl, fa, cr.mono (.of (Same.refl _)) (upd_ne fun z => no ⟨i, c, m, e, by rw [g1, z]⟩)⟩
theorem ev_other {p : Addr} {o : HO} (ev : Ev σ ρ F H σ' ρ' F' H') (n : H p = none) : Ev σ ρ F H σ' ρ' F' (upd H' p o) :=
  ⟨ev.ext, fun a u e m => by rw [upd_ne (ne_of_none e n)]; exact ev.keep a u e m, ev.newF, fun a h => by
    by_cases z : a = p
    · subst z; rw [upd_same]; simp
    · rw [upd_ne z]; exact ev.dom a h, ev.bor, ev.own', ev.mt'⟩
end

/-! ### [el for tg in it if tt] -/
def compD (own : List Nat) (tg : Val → SM) (tt : M Bool) (el : EM) : List D → List D → DEnv → R (List D)
  | [], acc, ρ => .ok acc ρ
  | d :: ds, acc, ρ => match tg (.d d) ρ with
    | .nx ρ1 => match tt ρ1 with
      | .ok b ρ2 => if b = true then (match el ρ2 with
        | .ok (.d y) ρ3 => compD own tg tt el ds (acc ++ [y]) (wipeD ρ3 own)
        | _ => .bad) else compD own tg tt el ds acc (wipeD ρ2 own)
      | _ => .bad
    | _ => .bad
def unlkR {α : Type} (lk : Option Nat) (ρ0 : DEnv) : R α → R α
  | .ok x ρ => .ok x (unlk lk ρ0 ρ)
  | .ex x ρ => .ex x (unlk lk ρ0 ρ)
  | .bad => .bad
def inB (own : List Nat) (ρ : DEnv) : Bool := own.all fun v => decide (v < ρ.length)
def eLc (own : List Nat) (f : IM) (tg : Val → SM) (tt : M Bool) (el : EM) : EM := fun ρ => (f ρ).bind fun src ρ1 =>
  if inB own ρ1 = true ∧ src.1.length < 16777216 then
    (match compD own tg tt el src.1 [] (wipeD (lockS src.2 ρ1) own) with
    | .ok ys ρ2 => .ok (.fr (.lst ys)) (unlk src.2 ρ1 (backD (lockS src.2 ρ1) ρ2 own))
    | _ => .bad)
  else .bad
section
variable {X : Cx} {W : WX} {tg iter elt : Expr} {ifs : List Expr} {fi : IM} {h : Val → SM} {tt : M Bool} {el : EM} {S : List Nat} {own : List (Str × Nat)} {scope : Scope} {pos : Pos}
def W0 : WX := fun _ _ _ _ => False
def DTs (X : Cx) (W : WX) (ifs : List Expr) (t : M Bool) : Prop := PTs X ifs (tT X.K X.mg W t)
def tYesD : M Bool := fun ρ => .ok true ρ
theorem pts_conseq {ifs : List Expr} {t t' : TT} (h : PTs X ifs t) (c : ∀ σ H Q, t' σ H Q → t σ H Q) : PTs X ifs t' := ⟨fun pins s σ H Q I q => h.run pins s σ H Q I (c _ _ _ q)⟩
theorem dts_nil : DTs X W [] tYesD := pts_conseq pts_nil fun σ H Q ⟨F, ρ, sr, q⟩ => q true F H sr .refl rfl
theorem dts_one {c : Expr} {t : M Bool} (h : DT X W c t) : DTs X W [c] t := pts_one h
/-- the reading of a comprehension, whatever takes the list -/
theorem lc_ok {σ : L2.St} {H : Hp} {Q : VK} (hS : ∀ i ∈ S, i ∈ own.map (·.2)) (hq : tD X.K X.mg W (eLc (own.map (·.2)) fi h tt el) σ H Q) :
    tLc (tI X.K X.mg W fi) (tG X.K S h) (tT X.K X.mg W0 tt) (tD X.K X.mg W0 el) (own.map (·.2)) σ H Q := by
  generalize own.map (·.2) = vs at *
  obtain ⟨F, ρ, sr, q⟩ := hq
  refine ⟨F, ρ, sr, (Out.bind (rel := relI X.K σ) q).mono fun J H1 ⟨src, F1, ρ1, e1, s1, ev1, ⟨its, hk⟩, o1⟩ => ?_⟩
  obtain ⟨ds, lk⟩ := src
  have o2 := o1.from ev1 (relV_from ev1)
  dsimp only at o2 its hk
  split at o2
  rotate_left
  · exact o2.elim
  rename_i hcond
  obtain ⟨hin, hlen⟩ := hcond
  have sL := lock_sr (lk := lk) s1
  have hvs : ∀ v ∈ vs, v < (lockS lk ρ1).length := fun v hv => by
    have := List.all_eq_true.mp hin v hv
    have := of_decide_eq_true this
    rw [← sL.len, s1.len]; exact this
  have sW := sr_wipe (vs := vs) sL
  -- what is to be shown of the list that comes out
  have fin : ∀ {ys : List D} {ρ2 : DEnv} {F2 H2 : Hp} {D : Addr} {yv : List V}, compD vs h tt el ds [] (wipeD (lockS lk ρ1) vs) = .ok ys ρ2 → SR X.K F2 H2 (wipe σ vs) ρ2 → Ev (wipe σ vs) (wipeD (lockS lk ρ1) vs) F1 H1 (wipe σ vs) ρ2 F2 H2 → (∀ i ∈ vs, ∀ c m, ρ2[i]? ≠ some (.ow c m)) →
      H1 D = none → F2 D = none → H2 D = some (.lst yv) → RepL X.K F2 yv ys → ¬ Ow (wipe σ vs) ρ2 D → Q (.ref D) H2 := fun {ys ρ2 F2 H2 D yv} e s ev hu nD nF hD ry no => by
    rw [e] at o2
    obtain ⟨s3, ev3⟩ := out_wipe sL hvs s ev hu
    obtain ⟨s4, ev4⟩ := unlk_ok s1 s3 ev3
    refine o2 (.ref D) F2 H2 s4 ev4 ⟨D, rfl, nD, nF, ⟨yv, hD, ry⟩, fun z => ?_⟩
    rcases ev4.own' D z with z1 | ⟨i, c, m, z1, z2⟩
    · obtain ⟨i, c, m, q1, q2⟩ := z
      -- an owner of D in the end: it is one of the block's end or one ahead of it
      have g : Ow σ (backD (lockS lk ρ1) ρ2 vs) D := by
        refine ow_mode (ρ := unlk lk ρ1 (backD (lockS lk ρ1) ρ2 vs)) (fun j c1 m1 q' => ?_) ⟨i, c, m, q1, q2⟩
        unfold unlk at q'
        split at q'
        · exact ⟨_, q'⟩
        · rename_i k
          split at q'
          · rename_i c' m' hk'
            by_cases hj : k = j
            · subst hj
              have hkl : k < ρ1.length := (List.getElem?_eq_some_iff.mp hk').1
              obtain ⟨b1, c2, b2, b3⟩ := ev3.bor k c' .lck (by unfold lockS; dsimp only; rw [hk']; exact List.getElem?_set_self hkl) (by decide)
              rw [List.getElem?_set_self (List.getElem?_eq_some_iff.mp b2).1] at q'
              cases q'
              exact ⟨_, by rw [b2, b3 rfl]⟩
            · rw [List.getElem?_set_ne hj] at q'; exact ⟨_, q'⟩
          · exact ⟨_, q'⟩
      obtain ⟨i, c, m, q1, q2⟩ := g
      rcases backD_get q1 hvs with ⟨w, _⟩ | ⟨w, n⟩
      · obtain ⟨ov, g1, a, g2, _, g4⟩ := sL.slot i _ w
        rw [q2] at g1; cases g1; cases g2
        obtain ⟨o, ho⟩ := g4.some
        rw [nD] at ho; cases ho
      · exact no ⟨i, c, m, w, by rw [wipeS_keep n]; exact q2⟩
    · obtain ⟨ov, g1, a, g2, _, g4⟩ := s1.slot i _ z1
      rw [z2] at g1; cases g1; cases g2
      obtain ⟨o, ho⟩ := g4.some
      rw [nD] at ho; cases ho
  have noD : ∀ {D : Addr}, H1 D = none → ¬ Ow (wipe σ vs) (wipeD (lockS lk ρ1) vs) D := fun {D} nD ⟨i, c, m, z1, z2⟩ => by
    obtain ⟨ov, g1, a, g2, _, g4⟩ := sW.slot i _ z1
    rw [z2] at g1; cases g1; cases g2
    obtain ⟨o, ho⟩ := g4.some
    rw [nD] at ho; cases ho
  have unW : ∀ i ∈ vs, ∀ c m, (wipeD (lockS lk ρ1) vs)[i]? ≠ some (.ow c m) := fun i hi c m z => by
    rcases wipeD_get z with ⟨w, _⟩ | ⟨_, n⟩
    · cases w
    · exact n hi
  intro D nD
  refine ⟨fun i m H' => m = ds.length - i ∧ i ≤ ds.length ∧ ∃ F' ρ' yv ys, SR X.K F' H' (wipe σ vs) ρ' ∧ Ev (wipe σ vs) (wipeD (lockS lk ρ1) vs) F1 H1 (wipe σ vs) ρ' F' H' ∧ H' D = some (.lst yv) ∧ RepL X.K F' yv ys ∧ F' D = none ∧ ¬ Ow (wipe σ vs) ρ' D ∧ ys.length ≤ i ∧ (∀ i ∈ vs, ∀ c m, ρ'[i]? ≠ some (.ow c m)) ∧
    compD vs h tt el (ds.drop i) ys ρ' = compD vs h tt el ds [] (wipeD (lockS lk ρ1) vs), ⟨ds.length, rfl, Nat.zero_le _, F1, wipeD (lockS lk ρ1) vs, [], [], sr_other sW (Same.free sW.sub nD) (noD nD), ev_other .refl nD, upd_same, .nil, Same.free sW.sub nD, noD nD, Nat.zero_le _, unW, rfl⟩, ?_⟩
  rintro i m H' ⟨rfl, hi', F', ρ', yv, ys, s', ev', hD, ry, nF, no, hyl, hu, eq'⟩
  have pre : PreI σ lk F1 H1 F' H' := by
    refine ⟨ev'.ext, fun i e a o q1 q2 => ev'.keep a o q2 fun ⟨j, c1, m1, z1, z2, z3⟩ => ?_⟩
    subst e
    rcases wipeD_get z1 with ⟨w, _⟩ | ⟨z1, nj⟩
    · cases w
    · rw [wipeS_keep nj] at z3
      obtain ⟨c, m, qk⟩ := hk i rfl
      have hl : i < ρ1.length := (List.getElem?_eq_some_iff.mp qk).1
      unfold lockS at z1
      dsimp only at z1
      rw [qk] at z1
      dsimp only at z1
      by_cases hj : i = j
      · subst hj; rw [List.getElem?_set_self hl] at z1; cases z1; exact z2 rfl
      · rw [List.getElem?_set_ne hj] at z1
        exact hj (s1.dist i j _ _ _ _ a qk z1 q1 z3)
  by_cases hlt : i < ds.length
  · refine .inr ⟨its.go i F' H' hlt s'.sub pre, fun H2 => ∃ F2 ρ2 yv2 ys2, SR X.K F2 H2 (wipe σ vs) ρ2 ∧ Ev (wipe σ vs) (wipeD (lockS lk ρ1) vs) F1 H1 (wipe σ vs) ρ2 F2 H2 ∧ H2 D = some (.lst yv2) ∧ RepL X.K F2 yv2 ys2 ∧ F2 D = none ∧ ¬ Ow (wipe σ vs) ρ2 D ∧ ys2.length ≤ i + 1 ∧ (∀ i ∈ vs, ∀ c m, ρ2[i]? ≠ some (.ow c m)) ∧
      compD vs h tt el (ds.drop (i + 1)) ys2 ρ2 = compD vs h tt el ds [] (wipeD (lockS lk ρ1) vs), fun H2 hN => ⟨ds.length - (i + 1), by omega, rfl, hlt, hN⟩, fun x H3 hy => ?_⟩
    obtain ⟨d, F3, hd, gr, rx⟩ := its.yld i x F' H' H3 hlt s'.sub pre hy
    have s3 := gr.sr s'
    have ev3 := ev'.trans gr.ev
    have e3 : ds.drop i = d :: ds.drop (i + 1) := by
      have e4 : ds[i] = d := by rw [List.getElem?_eq_getElem hlt] at hd; exact Option.some.inj hd
      rw [List.drop_eq_getElem_cons hlt, e4]
    -- the list so far through each step
    have keepD : ∀ {σ2 : L2.St} {ρ2 : DEnv} {F2 H2 : Hp}, Ev (wipe σ vs) ρ' F3 H3 σ2 ρ2 F2 H2 → H2 D = some (.lst yv) ∧ RepL X.K F2 yv ys ∧ F2 D = none ∧ ¬ Ow σ2 ρ2 D := fun {σ2 ρ2 F2 H2} ev => by
      have hD3 : H3 D = some (.lst yv) := gr.all _ _ hD
      have nF3 : F3 D = none := by
        cases hF : F3 D with
        | none => rfl
        | some u =>
          have := gr.newF D nF (by rw [hF]; simp)
          rw [hD] at this; cases this
      refine ⟨ev.keep D _ hD3 fun z => no z.ow, ry.mono (.of (gr.ext.trans ev.ext)), ?_, fun z => ?_⟩
      · cases hF : F2 D with
        | none => rfl
        | some u =>
          rcases ev.newF D nF3 (by rw [hF]; simp) with z | z
          · rw [hD3] at z; cases z
          · exact absurd z no
      · rcases ev.own' D z with z | z
        · rw [hD3] at z; cases z
        · exact no z
    -- the block's outcome is no failure
    have good : ∃ zs ρz, compD vs h tt el (ds.drop i) ys ρ' = .ok zs ρz := by
      rw [eq']
      cases hcd : compD vs h tt el ds [] (wipeD (lockS lk ρ1) vs) with
      | ok zs ρz => exact ⟨zs, ρz, rfl⟩
      | ex x ρz => rw [hcd] at o2; exact o2.elim
      | bad => rw [hcd] at o2; exact o2.elim
    rw [e3] at eq' good
    dsimp only [compD] at eq' good
    cases ht : h (.d d) ρ' with
    | nx ρ4 =>
      rw [ht] at eq' good
      dsimp only at eq' good
      refine ⟨wipe σ vs, ρ', F3, H3, F3, ρ', .d d, s3, .refl, rx, ?_⟩
      rw [ht]
      refine fun σ4 F4 H4 s4 ev4 of4 => ⟨wipe_off of4 hS, F4, ρ4, s4, ?_⟩
      cases htt : tt ρ4 with
      | bad => rw [htt] at good; obtain ⟨_, _, z⟩ := good; cases z
      | ex x ρ5 => rw [htt] at good; obtain ⟨_, _, z⟩ := good; cases z
      | ok b ρ5 =>
        rw [htt] at eq' good
        dsimp only at eq' good
        refine fun b' F5 H5 s5 ev5 eb => ?_
        have eb : b' = b := eb
        subst eb
        have ev45 := ev4.trans ev5
        have e4 := wipe_off of4 hS
        have sl : ∀ {σx : L2.St} {ρx : DEnv} {Fx Hx : Hp}, σx = σ4 → SR X.K Fx Hx σx ρx → Ev (wipe σ vs) ρ' F3 H3 σx ρx Fx Hx → SR X.K Fx Hx (wipe σ vs) (wipeD ρx vs) ∧ Ev (wipe σ vs) (wipeD (lockS lk ρ1) vs) F1 H1 (wipe σ vs) (wipeD ρx vs) Fx Hx ∧ ∀ i ∈ vs, ∀ c m, (wipeD ρx vs)[i]? ≠ some (.ow c m) := fun {σx ρx Fx Hx} ex sx evx => by
          subst ex
          obtain ⟨w1, w2⟩ := in_wipe e4 sx evx (fun i c m q hi => hu i hi c m q)
          refine ⟨w1, ev3.trans w2, fun i hi c m z => ?_⟩
          rcases wipeD_get z with ⟨w, _⟩ | ⟨_, n⟩
          · cases w
          · exact n hi
        cases b' with
        | false =>
          refine iteF ?_
          rw [if_neg Bool.false_ne_true] at eq'
          obtain ⟨k1, k2, k3, k4⟩ := keepD ev45
          obtain ⟨w1, w2, w3⟩ := sl rfl s5 ev45
          exact ⟨F5, wipeD ρ5 vs, yv, ys, w1, w2, k1, k2, k3, fun z => k4 (by rw [← e4] at z; exact ow_wipe z), by omega, w3, eq'⟩
        | true =>
          refine iteT ?_
          rw [if_pos rfl] at eq' good
          refine ⟨F5, ρ5, s5, ?_⟩
          cases he : el ρ5 with
          | bad => rw [he] at good; obtain ⟨_, _, z⟩ := good; cases z
          | ex x ρ6 => rw [he] at good; obtain ⟨_, _, z⟩ := good; cases z
          | ok y ρ6 =>
            cases y with
            | fr c => rw [he] at good; obtain ⟨_, _, z⟩ := good; cases z
            | sl i => rw [he] at good; obtain ⟨_, _, z⟩ := good; cases z
            | d y =>
              rw [he] at eq'
              dsimp only at eq'
              refine fun v F6 H6 s6 ev6 r6 => ?_
              have ev46 := ev45.trans ev6
              obtain ⟨k1, k2, k3, k4⟩ := keepD ev46
              have hl : yv.length = ys.length := ry.length
              refine ⟨yv, k1, by rw [hl, sizeLine_eq]; omega, ?_⟩
              obtain ⟨w1, w2, w3⟩ := sl rfl s6 ev46
              have k4' : ¬ Ow (wipe σ vs) (wipeD ρ6 vs) D := fun z => k4 (by rw [← e4] at z; exact ow_wipe z)
              exact ⟨F6, wipeD ρ6 vs, yv ++ [v], ys ++ [y], sr_other w1 k3 k4', ev_other w2 nD, upd_same, k2.app (.one r6), k3, k4', by rw [List.length_append]; show ys.length + 1 ≤ i + 1; omega, w3, eq'⟩
    | rt x ρ4 => rw [ht] at good; obtain ⟨_, _, z⟩ := good; cases z
    | bk ρ4 => rw [ht] at good; obtain ⟨_, _, z⟩ := good; cases z
    | ct ρ4 => rw [ht] at good; obtain ⟨_, _, z⟩ := good; cases z
    | ex x ρ4 => rw [ht] at good; obtain ⟨_, _, z⟩ := good; cases z
    | bad => rw [ht] at good; obtain ⟨_, _, z⟩ := good; cases z
  · have e : i = ds.length := by omega
    subst e
    refine .inl ⟨its.stop _ F' H' (Nat.le_refl _) s'.sub pre, ?_⟩
    rw [List.drop_length] at eq'
    exact fin eq'.symm s' ev' hu nD nF hD ry no
theorem de_lc (hc : X.calm = true) (hN : X.N.Nodup) (hi : DI X W tg iter fi) (ok : BlkOk X.N X.env.scope scope own) (hS : ∀ i ∈ S, i ∈ own.map (·.2))
    (hg : ∀ (s : Shared) (H : Hp) (C : Addr) (cl : List (Str × Addr)) (fp : List Addr), DG (X.blk s H scope (compEnvC scope cl C X.env) fp) tg S h) (ht : ∀ (s : Shared) (H : Hp) (C : Addr) (cl : List (Str × Addr)) (fp : List Addr), DTs (X.blk s H scope (compEnvC scope cl C X.env) fp) W0 ifs tt)
    (he : ∀ (s : Shared) (H : Hp) (C : Addr) (cl : List (Str × Addr)) (fp : List Addr), DE (X.blk s H scope (compEnvC scope cl C X.env) fp) W0 elt el) (hs : ∀ x, foldedSetIterable iter X.env x = pure x := by intro _; rfl) :
    DE X W (.ListComp elt [⟨tg, iter, ifs, 0⟩] scope pos) (eLc (own.map (·.2)) fi h tt el) :=
  pe_conseq (pe_lc (g := tG X.K S h) (tt := tT X.K X.mg W0 tt) (te := tD X.K X.mg W0 el) hc hN hi ok hg ht he hs) fun _ _ _ => lc_ok hS
theorem ds_setLc (i : Nat) {y : Str} {py : Pos} {spos : Pos} (hc : X.calm = true) (hN : X.N.Nodup) (hi : DI X W tg iter fi) (ok : BlkOk X.N X.env.scope scope own) (hS : ∀ i ∈ S, i ∈ own.map (·.2))
    (hg : ∀ (s : Shared) (H : Hp) (C : Addr) (cl : List (Str × Addr)) (fp : List Addr), DG (X.blk s H scope (compEnvC scope cl C X.env) fp) tg S h) (ht : ∀ (s : Shared) (H : Hp) (C : Addr) (cl : List (Str × Addr)) (fp : List Addr), DTs (X.blk s H scope (compEnvC scope cl C X.env) fp) W0 ifs tt)
    (he : ∀ (s : Shared) (H : Hp) (C : Addr) (cl : List (Str × Addr)) (fp : List Addr), DE (X.blk s H scope (compEnvC scope cl C X.env) fp) W0 elt el)
    (hsw : swapsWith (.ListComp elt [⟨tg, iter, ifs, 0⟩] scope pos) (some (.Name y py)) spos.line X.env = pure true) (hy : X.N[i]? = some y := by rfl) (hyl : X.env.scope.names.lookup y = some .local := by rfl) (hs : ∀ x, foldedSetIterable iter X.env x = pure x := by intro _; rfl) :
    DS X W (.Assign [.Name y py] (.ListComp elt [⟨tg, iter, ifs, 0⟩] scope pos) spos) (sAsg i (eLc (own.map (·.2)) fi h tt el)) :=
  ps_conseq (ps_setLc (g := tG X.K S h) (tt := tT X.K X.mg W0 tt) (te := tD X.K X.mg W0 el) hc hN hy hyl hsw hi ok hg ht he hs) fun D σ H hq => by
    obtain ⟨F, ρ, sr, q⟩ := hq
    refine lc_ok hS ⟨F, ρ, sr, (Out.bindS (rel := relV X.K σ) q).mono fun v H1 ⟨x, F1, ρ1, e1, s1, ev1, r1, o1⟩ => ?_⟩
    obtain ⟨ρ', e2, F2, s2, ev2⟩ := asg_ok s1 ev1 r1 o1
    rw [e2] at o1
    exact o1 _ F2 H1 s2 ev2
end
end DL
/-! DL11: what changes an owned object. -/
namespace DL
open PySem PySem.Spec PyProof.Rows L2

def mutS (i : Nat) (c' : Cont) (ρ : DEnv) : R Unit := match ρ[i]? with
  | some (.ow _ .own) => .ok () (ρ.set i (.ow c' .own))
  | some (.ow _ .bor) => .ok () (ρ.set i (.ow c' .bor))
  | _ => .bad
section
variable {K : PySem.W.Frag} {σ : L2.St} {ρ ρ' : DEnv} {F H : Hp}
theorem mutS_ok {i : Nat} {c c' : Cont} {m : Md} {a : Addr} {o : HO} (sr : SR K F H σ ρ) (e : ρ[i]? = some (.ow c m)) (hm : m ≠ .lck) (ea : σ[i]? = some (some (.ref a))) (cr : CRep K F (upd H a o) a c') :
    SR K F (upd H a o) σ (ρ.set i (.ow c' m)) ∧ Ev σ ρ F H σ (ρ.set i (.ow c' m)) F (upd H a o) := by
  have hl : i < ρ.length := (List.getElem?_eq_some_iff.mp e).1
  obtain ⟨ov, g1, a', g2, nF, cr0⟩ := sr.slot i _ e
  rw [ea] at g1; cases g1; cases g2
  have at' : ∀ {j : Nat} {s : Slot}, (ρ.set i (.ow c' m))[j]? = some s → (j = i ∧ s = .ow c' m) ∨ (j ≠ i ∧ ρ[j]? = some s) := fun {j s} q => by
    by_cases hj : i = j
    · subst hj
      rw [List.getElem?_set_self hl] at q
      cases q
      exact .inl ⟨rfl, rfl⟩
    · rw [List.getElem?_set_ne hj] at q
      exact .inr ⟨fun z => hj z.symm, q⟩
  have ow2 : ∀ {b : Addr}, Ow σ (ρ.set i (.ow c' m)) b → Ow σ ρ b := fun {b} ⟨j, c1, m1, q1, q2⟩ => by
    rcases at' q1 with ⟨rfl, z⟩ | ⟨_, q1⟩
    · exact ⟨j, c, m, e, q2⟩
    · exact ⟨j, c1, m1, q1, q2⟩
  refine ⟨⟨by rw [List.length_set]; exact sr.len, fun b u q => by rw [upd_ne (ne_of_none q nF)]; exact sr.sub _ _ q, fun j s q => ?_, fun j k c1 m1 c2 m2 b q1 q2 q3 q4 => ?_⟩, ⟨Same.refl _, fun b u q n => ?_, fun b q n => absurd q n, fun b h => ?_, fun j c1 m1 q n => ?_, fun b z => .inr (ow2 z), fun b z => .inr ?_⟩⟩
  · rcases at' q with ⟨rfl, rfl⟩ | ⟨hj, q⟩
    · exact ⟨_, ea, a, rfl, nF, cr⟩
    · obtain ⟨ov, z1, z2⟩ := sr.slot j s q
      refine ⟨ov, z1, ?_⟩
      cases s with
      | un => trivial
      | d x => exact z2
      | ow c1 m1 =>
        obtain ⟨b, w1, w2, w3⟩ := z2
        subst w1
        exact ⟨b, rfl, w2, w3.mono (.of (Same.refl _)) (upd_ne fun z => hj (sr.dist j i _ _ _ _ a q e (by rw [z1, z]) ea))⟩
  · rcases at' q1 with ⟨h1, z1⟩ | ⟨_, w1⟩ <;> rcases at' q2 with ⟨h2, z2⟩ | ⟨_, w2⟩
    · rw [h1, h2]
    · subst h1; exact sr.dist _ _ _ _ _ _ b e w2 q3 q4
    · subst h2; exact sr.dist _ _ _ _ _ _ b w1 e q3 q4
    · exact sr.dist _ _ _ _ _ _ b w1 w2 q3 q4
  · rw [upd_ne fun z => n ⟨i, c, m, e, hm, by rw [z]; exact ea⟩]
    exact q
  · by_cases z : b = a
    · subst z; rw [upd_same]; simp
    · rw [upd_ne z]; exact h
  · by_cases hj : i = j
    · subst hj
      rw [e] at q; cases q
      exact ⟨rfl, c', List.getElem?_set_self hl, fun z => absurd z hm⟩
    · exact ⟨rfl, c1, by rw [List.getElem?_set_ne hj]; exact q, fun _ => rfl⟩
  · obtain ⟨j, c1, m1, q1, n1, q2⟩ := z
    rcases at' q1 with ⟨rfl, z⟩ | ⟨_, q1⟩
    · exact ⟨j, c, m, e, hm, q2⟩
    · exact ⟨j, c1, m1, q1, n1, q2⟩
theorem mutS_inv {i : Nat} {c' : Cont} (h : mutS i c' ρ = .ok () ρ') : ∃ c m, ρ[i]? = some (.ow c m) ∧ m ≠ .lck ∧ ρ' = ρ.set i (.ow c' m) := by
  unfold mutS at h
  split at h
  · rename_i c e; cases h; exact ⟨c, _, e, by decide, rfl⟩
  · rename_i c e; cases h; exact ⟨c, _, e, by decide, rfl⟩
  · cases h
end
/-- a method of the owned object at slot i: what it holds and gives -/
def methV (i : Nat) (op : Cont → List D → Option (Cont × D)) (xs : List Val) : EM := fun ρ => match ρ[i]?, dsL xs with
  | some (.ow c _), some ds => match op c ds with
    | some (c', r) => (mutS i c' ρ).bind fun _ ρ' => .ok (.d r) ρ'
    | none => .bad
  | _, _ => .bad
def eMeth (i : Nat) (op : Cont → List D → Option (Cont × D)) (g : M (List Val)) : EM := fun ρ => (g ρ).bind fun xs ρ1 => methV i op xs ρ1
/-- what a method's rule asks, met by op -/
def MethS (K : PySem.W.Frag) (r : V → List V → Hp → VK → Prop) (op : Cont → List D → Option (Cont × D)) : Prop :=
  ∀ F H a vs c ds c' d Q, Same F H → CRep K F H a c → RepL K F vs ds → op c ds = some (c', d) → (∀ o v, CRep K F (upd H a o) a c' → Rep K F v d → Q v (upd H a o)) → r (.ref a) vs H Q
section
variable {X : Cx} {W : WX} {e : Expr} {es : List Expr} {f : EM} {g : M (List Val)} {pos p apos cpos : Pos} {name x : Str} {T id : String}
theorem meth_ok {K : PySem.W.Frag} {mg : Str → Option Value} {xk : XK} {σ : L2.St} {ρ : DEnv} {F H Hb : Hp} {i : Nat} {op : Cont → List D → Option (Cont × D)} {r : V → List V → Hp → VK → Prop} {vs : List V} {xs : List Val} {Q : VK} (s : MethS K r op) (sr : SR K F H σ ρ) (rl : VRL K σ Hb F H ρ vs xs)
    (h : Out K mg xk (relV K σ) σ ρ F H (methV i op xs ρ) Q) : ∃ a, σ[i]? = some (some (.ref a)) ∧ r (.ref a) vs H Q := by
  unfold methV at h
  cases hs : ρ[i]? with
  | none => rw [hs] at h; exact h.elim
  | some sl =>
    cases sl with
    | un => rw [hs] at h; exact h.elim
    | d x => rw [hs] at h; exact h.elim
    | ow c m =>
      cases hd : dsL xs with
      | none => rw [hs, hd] at h; exact h.elim
      | some ds =>
        rw [hs, hd] at h
        dsimp only at h
        cases ho : op c ds with
        | none => rw [ho] at h; exact h.elim
        | some cd =>
          obtain ⟨c', d⟩ := cd
          rw [ho] at h
          dsimp only at h
          obtain ⟨ov, g1, a, g2, nF, cr⟩ := sr.slot i _ hs
          subst g2
          refine ⟨a, g1, s F H a vs c ds c' d Q sr.sub cr (dsL_ok rl.all hd) ho fun o v cr' rv => ?_⟩
          cases hm : mutS i c' ρ with
          | bad => rw [hm] at h; exact h.elim
          | ex z ρ' =>
            exfalso
            unfold mutS at hm
            split at hm <;> cases hm
          | ok u ρ' =>
            obtain ⟨c2, m2, e2, n2, rfl⟩ := mutS_inv hm
            rw [hm] at h
            obtain ⟨s3, ev3⟩ := mutS_ok sr e2 n2 g1 cr'
            exact h v F _ s3 ev3 rv
def eMethL (i : Nat) (op : Cont → List D → Option (Cont × D)) (g : M (List Val)) : EM := fun ρ => match ρ[i]? with
  | some (.ow (.lst _) _) => (g ρ).bind fun xs ρ1 => methV i op xs ρ1
  | _ => .bad
theorem lst_ty {K : PySem.W.Frag} {σ : L2.St} {ρ : DEnv} {F H : Hp} {i : Nat} {ds : List D} {m : Md} (sr : SR K F H σ ρ) (e : ρ[i]? = some (.ow (.lst ds) m)) : ∃ a, σ[i]? = some (some (.ref a)) ∧ tyV K "list" (.ref a) H := by
  obtain ⟨ov, g1, a, g2, nF, vs, g3, g4⟩ := sr.slot i _ e
  subst g2
  exact ⟨a, g1, .inl ⟨rfl, vs, .of g3⟩⟩
/-- x.m(e, ..), x a name whose list the slot owns -/
theorem de_methL (i : Nat) {op : Cont → List D → Option (Cont × D)} {r : V → List V → Hp → VK → Prop} (pa : PlainAttrs "list") (slot : PySem.Slot "list" name id) (hty : typeOf (.builtin id) = pure (.type "method_descriptor")) (hm : MtR X id r) (s : MethS X.K r op) (ha : DA X W (e :: es) g)
    (hN : X.N[i]? = some x := by rfl) (hv : Vis X.env.scope x := by first | exact Or.inl rfl | exact Or.inr (Or.inl rfl) | exact Or.inr (Or.inr rfl)) (hd : (x == ("__debug__" : Str)) = false := by decide) (hcd : (x == ("__classdict__" : Str)) = false := by decide) (hbase : attributeBase (.Name x p) name X.env (eval (.Name x p) X.env) = eval (.Name x p) X.env := by rfl)
    (hfew : ((backTo cpos (starEach (e :: es) X.env)).all (fun x => !x.1) && (backToKw cpos (keywordEach [] X.env)).all (fun x => x.1.isSome)
      && decide ((e :: es).length + ([] : List Keyword).length + (if ([] : List Keyword).isEmpty then 0 else 1) < 30)) = true := by rfl)
    (hline : (apos.endLine == cpos.line) = true := by rfl) (hs : starEach (e :: es) X.env = (false, eval e X.env) :: starEach es X.env := by rfl) (hplain : (backTo cpos (starEach es X.env)).any (·.1) = false := by rfl) :
    DE X W (.Call (.Attribute (.Name x p) name apos) (e :: es) [] cpos) (eMethL i op g) := pe_conseq (pe_bm pa slot hty hm (pe_var hN hv hd hcd) ha hbase hfew hline hs hplain) fun σ H Q hq => by
  obtain ⟨F, ρ, sr, q⟩ := hq
  unfold eMethL at q
  split at q
  · rename_i ds m e
    obtain ⟨a, ea, ty⟩ := lst_ty sr e
    refine ⟨.ref a, ea, ty, F, ρ, sr, (Out.bind (rel := relL X.K σ) q).mono fun vs H1 ⟨xs, F1, ρ1, e1, s1, ev1, r1, o1⟩ => ?_⟩
    obtain ⟨a', ea', h⟩ := meth_ok s s1 r1 (o1.from ev1 (relV_from ev1))
    rw [ea] at ea'
    cases ea'
    exact h
  · exact q.elim
theorem de_methL0 (i : Nat) {op : Cont → List D → Option (Cont × D)} {r : V → List V → Hp → VK → Prop} (pa : PlainAttrs "list") (slot : PySem.Slot "list" name id) (hty : typeOf (.builtin id) = pure (.type "method_descriptor")) (hm : MtR X id r) (s : MethS X.K r op)
    (hN : X.N[i]? = some x := by rfl) (hv : Vis X.env.scope x := by first | exact Or.inl rfl | exact Or.inr (Or.inl rfl) | exact Or.inr (Or.inr rfl)) (hd : (x == ("__debug__" : Str)) = false := by decide) (hcd : (x == ("__classdict__" : Str)) = false := by decide) (hbase : attributeBase (.Name x p) name X.env (eval (.Name x p) X.env) = eval (.Name x p) X.env := by rfl) (hline : (apos.endLine == cpos.line) = true := by rfl) :
    DE X W (.Call (.Attribute (.Name x p) name apos) [] [] cpos) (eMethL i op aNil) := pe_conseq (pe_bm0 pa slot hty hm (pe_var hN hv hd hcd) hbase hline) fun σ H Q hq => by
  obtain ⟨F, ρ, sr, q⟩ := hq
  unfold eMethL at q
  split at q
  · rename_i ds m e
    obtain ⟨a, ea, ty⟩ := lst_ty sr e
    refine ⟨.ref a, ea, ty, ?_⟩
    have q : Out X.K X.mg (fun c d H => W c d σ H) (relV X.K σ) σ ρ F H (methV i op [] ρ) Q := q
    obtain ⟨a', ea', h⟩ := meth_ok (Hb := H) (vs := []) s sr ⟨.nil, fun i j c c' p h => by simp at h⟩ q
    rw [ea] at ea'
    cases ea'
    exact h
  · exact q.elim
def appendO : Cont → List D → Option (Cont × D)
  | .lst xs, [d] => if xs.length < 16777216 then some (.lst (xs ++ [d]), .non) else none
  | _, _ => none
theorem ms_append {K : PySem.W.Frag} : MethS K rAppend appendO := by
  intro F H a vs c ds c' d Q s cr rl e q
  unfold appendO at e
  split at e
  · split at e
    · rename_i xs x hl
      cases e
      obtain ⟨xv, hx, rx⟩ := cr
      cases rl with
      | cons r t =>
        cases t
        exact ⟨a, xv, _, rfl, rfl, hx, by rw [rx.length, sizeLine_eq]; exact hl, q _ .non ⟨_, upd_same, rx.app (.one r)⟩ .non⟩
    · cases e
  · cases e
theorem de_append (i : Nat) (ha : DE X W e f) (hN : X.N[i]? = some x := by rfl) (hv : Vis X.env.scope x := by first | exact Or.inl rfl | exact Or.inr (Or.inl rfl) | exact Or.inr (Or.inr rfl)) (hd : (x == ("__debug__" : Str)) = false := by decide) (hcd : (x == ("__classdict__" : Str)) = false := by decide) (hbase : attributeBase (.Name x p) "append" X.env (eval (.Name x p) X.env) = eval (.Name x p) X.env := by rfl)
    (hfew : ((backTo cpos (starEach [e] X.env)).all (fun x => !x.1) && (backToKw cpos (keywordEach [] X.env)).all (fun x => x.1.isSome)
      && decide ([e].length + ([] : List Keyword).length + (if ([] : List Keyword).isEmpty then 0 else 1) < 30)) = true := by rfl)
    (hline : (apos.endLine == cpos.line) = true := by rfl) (hs : starEach [e] X.env = (false, eval e X.env) :: starEach [] X.env := by rfl) : DE X W (.Call (.Attribute (.Name x p) "append" apos) [e] [] cpos) (eMethL i appendO (aCons (fz f) aNil)) :=
  de_methL i PySem.F.plainAttrs_list PySem.F.slot_list_append PySem.F.type_list_append mt_append ms_append (da_cons (de_fz ha) da_nil hs) hN hv hd hcd hbase hfew hline hs
def extendO : Cont → List D → Option (Cont × D)
  | .lst xs, [.lst ys] => if xs.length + ys.length ≤ 16777216 then some (.lst (xs ++ ys), .non) else none
  | _, _ => none
theorem ms_extend {K : PySem.W.Frag} : MethS K rExtend extendO := by
  intro F H a vs c ds c' d Q s cr rl e q
  unfold extendO at e
  split at e
  · split at e
    · rename_i xs x hl
      cases e
      obtain ⟨xv, hx, rx⟩ := cr
      cases rl with
      | cons r t =>
        cases t
        cases r with
        | lst e2 r2 => exact ⟨a, _, xv, _, rfl, rfl, hx, s _ _ e2, by rw [rx.length, r2.length, sizeLine_eq]; exact hl, q _ .non ⟨_, upd_same, rx.app r2⟩ .non⟩
    · cases e
  · cases e
theorem de_extend (i : Nat) (ha : DE X W e f) (hN : X.N[i]? = some x := by rfl) (hv : Vis X.env.scope x := by first | exact Or.inl rfl | exact Or.inr (Or.inl rfl) | exact Or.inr (Or.inr rfl)) (hd : (x == ("__debug__" : Str)) = false := by decide) (hcd : (x == ("__classdict__" : Str)) = false := by decide) (hbase : attributeBase (.Name x p) "extend" X.env (eval (.Name x p) X.env) = eval (.Name x p) X.env := by rfl)
    (hfew : ((backTo cpos (starEach [e] X.env)).all (fun x => !x.1) && (backToKw cpos (keywordEach [] X.env)).all (fun x => x.1.isSome)
      && decide ([e].length + ([] : List Keyword).length + (if ([] : List Keyword).isEmpty then 0 else 1) < 30)) = true := by rfl)
    (hline : (apos.endLine == cpos.line) = true := by rfl) (hs : starEach [e] X.env = (false, eval e X.env) :: starEach [] X.env := by rfl) : DE X W (.Call (.Attribute (.Name x p) "extend" apos) [e] [] cpos) (eMethL i extendO (aCons (fz f) aNil)) :=
  de_methL i PySem.F.plainAttrs_list PySem.F.slot_list_extend PySem.F.type_list_extend mt_extend ms_extend (da_cons (de_fz ha) da_nil hs) hN hv hd hcd hbase hfew hline hs
def popAtO : Cont → List D → Option (Cont × D)
  | .lst xs, [.int i] => if 0 ≤ i ∧ i < xs.length ∧ i < 2 ^ 63 then (match xs[i.toNat]? with | some y => some (.lst (xs.eraseIdx i.toNat), y) | none => none) else none
  | _, _ => none
theorem ms_popAt {K : PySem.W.Frag} : MethS K rPopAt popAtO := by
  intro F H a vs c ds c' d Q s cr rl e q
  unfold popAtO at e
  split at e
  · rename_i xs i
    split at e
    · rename_i hl
      split at e
      · rename_i y hy
        cases e
        obtain ⟨xv, hx, rx⟩ := cr
        cases rl with
        | cons r t =>
          cases t
          cases r
          obtain ⟨v, hv, rv⟩ := rx.get hy
          exact ⟨a, xv, i, i.toNat, v, rfl, rfl, hx, by omega, hl.2.2, by rw [rx.length]; exact seqIndex_of hl.1 hl.2.1, hv, q _ v ⟨_, upd_same, rx.eraseIdx _⟩ rv⟩
      · cases e
    · cases e
  · cases e
theorem de_popAt (i : Nat) (ha : DE X W e f) (hN : X.N[i]? = some x := by rfl) (hv : Vis X.env.scope x := by first | exact Or.inl rfl | exact Or.inr (Or.inl rfl) | exact Or.inr (Or.inr rfl)) (hd : (x == ("__debug__" : Str)) = false := by decide) (hcd : (x == ("__classdict__" : Str)) = false := by decide) (hbase : attributeBase (.Name x p) "pop" X.env (eval (.Name x p) X.env) = eval (.Name x p) X.env := by rfl)
    (hfew : ((backTo cpos (starEach [e] X.env)).all (fun x => !x.1) && (backToKw cpos (keywordEach [] X.env)).all (fun x => x.1.isSome)
      && decide ([e].length + ([] : List Keyword).length + (if ([] : List Keyword).isEmpty then 0 else 1) < 30)) = true := by rfl)
    (hline : (apos.endLine == cpos.line) = true := by rfl) (hs : starEach [e] X.env = (false, eval e X.env) :: starEach [] X.env := by rfl) : DE X W (.Call (.Attribute (.Name x p) "pop" apos) [e] [] cpos) (eMethL i popAtO (aCons (fz f) aNil)) :=
  de_methL i PySem.F.plainAttrs_list PySem.F.slot_list_pop PySem.F.type_list_pop mt_popAt ms_popAt (da_cons (de_fz ha) da_nil hs) hN hv hd hcd hbase hfew hline hs
def popO : Cont → List D → Option (Cont × D)
  | .lst xs, [] => match xs[xs.length - 1]? with
    | some y => some (.lst xs.dropLast, y)
    | none => none
  | _, _ => none
theorem RepL.dropLast {K : PySem.W.Frag} {F : Hp} {vs : List V} {ds : List D} (r : RepL K F vs ds) : RepL K F vs.dropLast ds.dropLast := by
  rw [List.dropLast_eq_take, List.dropLast_eq_take, r.length]
  exact r.take _
theorem ms_pop {K : PySem.W.Frag} : MethS K rPop popO := by
  intro F H a vs c ds c' d Q s cr rl e q
  unfold popO at e
  split at e
  · split at e
    · rename_i xs y hy
      cases e
      obtain ⟨xv, hx, rx⟩ := cr
      cases rl
      obtain ⟨v, hv, rv⟩ := rx.get hy
      exact ⟨a, xv, v, rfl, rfl, hx, by rw [rx.length]; exact hv, q _ v ⟨_, upd_same, rx.dropLast⟩ rv⟩
    · cases e
  · cases e
theorem de_pop (i : Nat) (hN : X.N[i]? = some x := by rfl) (hv : Vis X.env.scope x := by first | exact Or.inl rfl | exact Or.inr (Or.inl rfl) | exact Or.inr (Or.inr rfl)) (hd : (x == ("__debug__" : Str)) = false := by decide) (hcd : (x == ("__classdict__" : Str)) = false := by decide) (hbase : attributeBase (.Name x p) "pop" X.env (eval (.Name x p) X.env) = eval (.Name x p) X.env := by rfl) (hline : (apos.endLine == cpos.line) = true := by rfl) : DE X W (.Call (.Attribute (.Name x p) "pop" apos) [] [] cpos) (eMethL i popO aNil) :=
  de_methL0 i PySem.F.plainAttrs_list PySem.F.slot_list_pop PySem.F.type_list_pop mt_pop ms_pop hN hv hd hcd hbase hline

/-! ### x[k] = e -/
def dSet : List Key → List D → Key → D → List D
  | k :: ks, v :: vs, j, d => (if k = j then d else v) :: dSet ks vs j d
  | _, vs, _, _ => vs
def dPut (ks : List Key) (vs : List D) (k : Key) (d : D) : Cont := if (ks.any fun j => decide (j = k)) = true then .dic ks (dSet ks vs k d) else .dic (ks ++ [k]) (vs ++ [d])
def storeO : Cont → D → D → Option Cont
  | .lst xs, .int k, d => match ixN xs.length k with
    | some j => some (.lst (xs.set j d))
    | none => none
  | .dic ks vs, y, d => match keyD y with
    | some k => if ks.length < 16777216 then some (dPut ks vs k d) else none
    | none => none
  | _, _, _ => none
def storeV (i : Nat) (x k : Val) : SM := fun ρ => match x, k.peek ρ, ρ[i]? with
  | .d d, some y, some (.ow c _) => match storeO c y d with
    | some c' => (mutS i c' ρ).bindS fun _ ρ' => .nx ρ'
    | none => .bad
  | _, _, _ => .bad
def sStore (i : Nat) (g f : EM) : SM := fun ρ => (f ρ).bindS fun x ρ1 => match ρ1[i]? with
  | some (.ow _ _) => (g ρ1).bindS fun k ρ2 => storeV i x k ρ2
  | _ => .bad
theorem dSet_zip {K : PySem.W.Frag} {F : Hp} {k : Key} {v : V} {d : D} (r : Rep K F v d) : ∀ {ks : List Key} {vs : List V} {ds : List D}, ks.length = vs.length → RepL K F vs ds → ∃ us, (ks.zip vs).map (fun kv => if kv.1 = k then (kv.1, v) else kv) = ks.zip us ∧ ks.length = us.length ∧ RepL K F us (dSet ks ds k d)
  | [], [], ds, l, rl => ⟨[], rfl, rfl, by cases rl; exact .nil⟩
  | k' :: ks, u :: vs, _, l, .cons a b => by
    obtain ⟨us, h1, h2, h3⟩ := dSet_zip r (ks := ks) (vs := vs) (by simpa using l) b
    by_cases hk : k' = k
    · refine ⟨v :: us, ?_, by simp [h2], ?_⟩
      · rw [List.zip_cons_cons, List.map_cons, h1, if_pos hk]; rfl
      · unfold dSet; rw [if_pos hk]; exact .cons r h3
    · refine ⟨u :: us, ?_, by simp [h2], ?_⟩
      · rw [List.zip_cons_cons, List.map_cons, h1, if_neg hk]; rfl
      · unfold dSet; rw [if_neg hk]; exact .cons a h3
theorem dPut_ok {K : PySem.W.Frag} {F H : Hp} {a : Addr} {ks : List Key} {vs : List V} {ds : List D} {k : Key} {v : V} {d : D} (l : ks.length = vs.length) (rl : RepL K F vs ds) (r : Rep K F v d) : CRep K F (upd H a (.dK (putK (ks.zip vs) k v))) a (dPut ks ds k d) := by
  have hany : ∀ {ks : List Key} {vs : List V}, ks.length = vs.length → ((ks.zip vs).any fun kv => decide (kv.1 = k)) = ks.any fun j => decide (j = k) := by
    intro ks
    induction ks with
    | nil => intro vs l; simp
    | cons k' ks ih =>
      intro vs l
      cases vs with
      | nil => simp at l
      | cons u vs => rw [List.zip_cons_cons, List.any_cons, List.any_cons, ih (by simpa using l)]
  unfold putK dPut
  rw [hany l]
  by_cases hk : (ks.any fun j => decide (j = k)) = true
  · rw [if_pos hk, if_pos hk]
    obtain ⟨us, h1, h2, h3⟩ := dSet_zip (k := k) r l rl
    exact ⟨us, by rw [h1]; exact upd_same, h2, h3⟩
  · rw [if_neg hk, if_neg hk]
    refine ⟨vs ++ [v], ?_, by simp [l], rl.app (.one r)⟩
    rw [List.zip_append l]
    exact upd_same
theorem ps_or {st : Stmt} {t t' : TS} (h : PS X st t) (h' : PS X st t') : PS X st (fun D σ H => t D σ H ∨ t' D σ H) := ⟨fun pins s σ H D I q => q.elim (h.run pins s σ H D I) (h'.run pins s σ H D I)⟩
/-- what is stored, by the value's slot: the list's, the dict's own way -/
theorem store_ok {K : PySem.W.Frag} {mg : Str → Option Value} {σ : L2.St} {ρ : DEnv} {F H Hb Hb' : Hp} {i : Nat} {x k : Val} {v w : V} {D : Ends} (sr : SR K F H σ ρ) (rx : VR K σ Hb F H ρ v x) (rk : VR K σ Hb' F H ρ w k) (h : OutS K mg W σ ρ F H (storeV i x k ρ) D) :
    ∃ a c m, ρ[i]? = some (.ow c m) ∧ σ[i]? = some (some (.ref a)) ∧ ((∃ xs n j, (∃ ds, c = .lst ds) ∧ H a = some (.lst xs) ∧ w = .int n ∧ ixN xs.length n = some j ∧ D.nx σ (upd H a (.lst (xs.set j v)))) ∨ ((∃ ks ds, c = .dic ks ds) ∧ ∃ H', DPut H a w v H' ∧ D.nx σ H')) := by
  unfold storeV at h
  cases x with
  | fr c => exact h.elim
  | sl j => exact h.elim
  | d d =>
    cases hk : k.peek ρ with
    | none => rw [hk] at h; exact h.elim
    | some y =>
      cases hs : ρ[i]? with
      | none => rw [hk, hs] at h; exact h.elim
      | some sl =>
        cases sl with
        | un => rw [hk, hs] at h; exact h.elim
        | d z => rw [hk, hs] at h; exact h.elim
        | ow c m =>
          rw [hk, hs] at h
          dsimp only at h
          obtain ⟨ov, g1, a, g2, nF, cr⟩ := sr.slot i _ hs
          subst g2
          refine ⟨a, c, m, rfl, g1, ?_⟩
          have ry := rk.peek sr hk
          cases hc : storeO c y d with
          | none => rw [hc] at h; exact h.elim
          | some c' =>
            rw [hc] at h
            dsimp only at h
            have fin : ∀ {o : HO}, CRep K F (upd H a o) a c' → D.nx σ (upd H a o) := fun {o} cr' => by
              cases hm : mutS i c' ρ with
              | bad => rw [hm] at h; exact h.elim
              | ex z ρ' =>
                exfalso
                unfold mutS at hm
                split at hm <;> cases hm
              | ok u ρ' =>
                obtain ⟨c2, m2, e2, n2, rfl⟩ := mutS_inv hm
                rw [hm] at h
                obtain ⟨s3, ev3⟩ := mutS_ok sr e2 n2 g1 cr'
                exact h σ F _ s3 ev3
            cases c with
            | lst xs =>
              cases y with
              | int n =>
                dsimp only [storeO] at hc
                obtain rfl := ry.int
                split at hc
                · rename_i j hj
                  cases hc
                  obtain ⟨xv, hx, rl⟩ := cr
                  exact .inl ⟨xv, n, j, ⟨_, rfl⟩, hx, rfl, by rw [rl.length]; exact hj, fin ⟨_, upd_same, rl.set rx j⟩⟩
                · cases hc
              | _ => cases hc
            | dic ks vs =>
              dsimp only [storeO] at hc
              split at hc
              · rename_i k' hk'
                split at hc
                · rename_i hl
                  cases hc
                  obtain ⟨xv, hx, l, rl⟩ := cr
                  obtain rfl := ry.key hk'
                  refine .inr ⟨⟨_, _, rfl⟩, _, .inl ⟨_, k', hx, rfl, by rw [List.length_zip, ← l, Nat.min_self, sizeLine_eq]; exact hl, rfl⟩, fin (dPut_ok l rl rx)⟩
                · cases hc
              · cases hc
theorem ds_store (i : Nat) {ix value : Expr} {pos' : Pos} (hu : X.A.units + 1 < cLine) (hv : DE X W value f) {k : EM} (hi : DE X W ix k) (hN : X.N[i]? = some x := by rfl) (hvis : Vis X.env.scope x := by first | exact Or.inl rfl | exact Or.inr (Or.inl rfl) | exact Or.inr (Or.inr rfl)) (hd : (x == ("__debug__" : Str)) = false := by decide) (hcd : (x == ("__classdict__" : Str)) = false := by decide)
    (ha : ∀ v, assign (.Subscript (.Name x p) ix pos') X.env v = (do
      let ov ← holding [v] (eval (.Name x p) X.env)
      let iv ← holding [v, ov] (eval ix X.env)
      standAt pos'
      holding [v, ov, iv] (setItem ov iv v)
      release [v, ov, iv] []) := by intro _; rfl)
    (hs : swapsWithSole [.Subscript (.Name x p) ix pos'] value pos.line X.env = pure false := by rfl) (hw : swappedStores [.Subscript (.Name x p) ix pos'] value X.env = pure none := by rfl)
    (h1 : (assignEach [.Subscript (.Name x p) ix pos'] X.env).map (·.2) = [assign (.Subscript (.Name x p) ix pos') X.env] := by rfl)
    (hs2 : swapsWith value (some (.Subscript (.Name x p) ix pos')) pos.line X.env = pure false := by rfl) : DS X W (.Assign [.Subscript (.Name x p) ix pos'] value pos) (sStore i k (fz f)) :=
  ps_conseq (ps_or (ps_asg (de_fz hv) (pg_sub (pe_var hN hvis hd hcd) hi set_list ha) hs hw h1) (ps_dput hu (pe_var hN hvis hd hcd) hi (de_fz hv) hs2)) fun D σ H hq => by
    obtain ⟨F, ρ, sr, q⟩ := hq
    unfold sStore at q
    cases hf : fz f ρ with
    | bad => rw [hf] at q; exact q.elim
    | ex z ρ1 => rw [hf] at q; exact .inl ⟨F, ρ, sr, by rw [hf]; exact fun cls dd F2 H2 s2 ev2 r2 => q cls dd σ F2 H2 s2 ev2 r2⟩
    | ok xv ρ1 =>
      rw [hf] at q
      dsimp only [R.bindS] at q
      cases hs' : ρ1[i]? with
      | none => rw [hs'] at q; exact q.elim
      | some sl =>
        cases sl with
        | un => rw [hs'] at q; exact q.elim
        | d z => rw [hs'] at q; exact q.elim
        | ow c m =>
          rw [hs'] at q
          dsimp only at q
          -- the object behind the index's evaluation
          cases hk : k ρ1 with
          | bad => rw [hk] at q; exact q.elim
          | ex z ρ2 =>
            rw [hk] at q
            refine .inl ⟨F, ρ, sr, ?_⟩
            rw [hf]
            intro v F1 H1 s1 ev1 r1
            obtain ⟨ov, g1, a, g2, g3, g4⟩ := s1.slot i _ hs'
            subst g2
            refine ⟨.ref a, g1, F1, ρ1, s1, ?_⟩
            rw [hk]
            exact fun cls dd F2 H2 s2 ev2 r2 => q cls dd σ F2 H2 s2 (ev1.trans ev2) r2
          | ok kv ρ2 =>
            rw [hk] at q
            have run : ∀ v F1 H1, SR X.K F1 H1 σ ρ1 → Ev σ ρ F H σ ρ1 F1 H1 → VR X.K σ H F1 H1 ρ1 v xv → ∃ a, σ[i]? = some (some (.ref a)) ∧ ∀ w F2 H2, SR X.K F2 H2 σ ρ2 → Ev σ ρ1 F1 H1 σ ρ2 F2 H2 → VR X.K σ H1 F2 H2 ρ2 w kv →
                ∃ a' c' m', ρ2[i]? = some (.ow c' m') ∧ σ[i]? = some (some (.ref a')) ∧ ((∃ xs n j, (∃ ds, c' = .lst ds) ∧ H2 a' = some (.lst xs) ∧ w = .int n ∧ ixN xs.length n = some j ∧ D.nx σ (upd H2 a' (.lst (xs.set j v)))) ∨ ((∃ ks ds, c' = .dic ks ds) ∧ ∃ H', DPut H2 a' w v H' ∧ D.nx σ H')) := fun v F1 H1 s1 ev1 r1 => by
              obtain ⟨ov, g1, a, g2, g3, g4⟩ := s1.slot i _ hs'
              subst g2
              refine ⟨a, g1, fun w F2 H2 s2 ev2 r2 => ?_⟩
              exact store_ok s2 (r1.ev ev2) r2 (OutS.from (r := storeV i xv kv ρ2) q (ev1.trans ev2))
            cases hc : ρ2[i]? with
            | none =>
              exfalso
              dsimp only [R.bindS] at q
              unfold storeV at q
              rw [hc] at q
              split at q <;> first | exact q | (rename_i h4; cases h4)
            | some sl2 =>
              cases sl2 with
              | un =>
                exfalso
                dsimp only [R.bindS] at q
                unfold storeV at q
                rw [hc] at q
                split at q <;> first | exact q | (rename_i h4; cases h4)
              | d z =>
                exfalso
                dsimp only [R.bindS] at q
                unfold storeV at q
                rw [hc] at q
                split at q <;> first | exact q | (rename_i h4; cases h4)
              | ow c2 m2 =>
                cases c2 with
                | lst ds =>
                  refine .inl ⟨F, ρ, sr, ?_⟩
                  rw [hf]
                  intro v F1 H1 s1 ev1 r1
                  obtain ⟨a, g1, g2⟩ := run v F1 H1 s1 ev1 r1
                  refine ⟨.ref a, g1, F1, ρ1, s1, ?_⟩
                  rw [hk]
                  intro w F2 H2 s2 ev2 r2
                  obtain ⟨a', c', m', e1, e2, h⟩ := g2 w F2 H2 s2 ev2 r2
                  rw [g1] at e2; cases e2
                  rcases h with ⟨xs, n, j, _, h1, h2, h3, h4⟩ | ⟨⟨ks, ds', e3⟩, _⟩
                  · exact ⟨a, xs, n, j, rfl, h2, h1, h3, h4⟩
                  · rw [hc] at e1; cases e1; cases e3
                | dic ks ds =>
                  refine .inr ⟨F, ρ, sr, ?_⟩
                  rw [hf]
                  intro v F1 H1 s1 ev1 r1
                  obtain ⟨a, g1, g2⟩ := run v F1 H1 s1 ev1 r1
                  refine ⟨.ref a, g1, F1, ρ1, s1, ?_⟩
                  rw [hk]
                  intro w F2 H2 s2 ev2 r2
                  obtain ⟨a', c', m', e1, e2, h⟩ := g2 w F2 H2 s2 ev2 r2
                  rw [g1] at e2; cases e2
                  rcases h with ⟨xs, n, j, ⟨ds', e3⟩, _⟩ | ⟨_, H', h1, h2⟩
                  · rw [hc] at e1; cases e1; cases e3
                  · exact ⟨a, H', rfl, h1, h2⟩
end
end DL
/-! DL12: defs and their calls. -/
namespace DL
open PySem PySem.Spec PyProof.Rows L2

inductive RF where
  | ret (x : Val) (as : DEnv) | ex (x : Ex) (as : DEnv) | bad
abbrev FM := DEnv → RF
/-- what a def hands back -/
def VRF (K : PySem.W.Frag) (σ : L2.St) (as as' : DEnv) (H F' H' : Hp) (v : V) : Val → Prop
  | .d x => Rep K F' v x
  | .fr c => ∃ p, v = .ref p ∧ (H p = none ∨ ∃ (j : Nat) (c0 : Cont), as[j]? = some (.ow c0 .own) ∧ σ[j]? = some (some (.ref p))) ∧ F' p = none ∧ CRep K F' H' p c ∧ ¬ Ow σ as' p
  | .sl _ => False
def OutF (K : PySem.W.Frag) (mg : Str → Option Value) (E : XK) (σ : L2.St) (as : DEnv) (F H : Hp) (r : RF) (Q : VK) : Prop :=
  match r with
  | .ret x as' => ∀ v F' H', SR K F' H' σ as' → Ev σ as F H σ as' F' H' → VRF K σ as as' H F' H' v x → Q v H'
  | .ex x as' => ∀ cls dd F' H', SR K F' H' σ as' → Ev σ as F H σ as' F' H' → XR K mg F' x cls dd → E cls dd H'
  | .bad => False
def spD (K : PySem.W.Frag) (mg : Str → Option Value) (n : Nat) (Fm : FM) : Sp := fun vs H Q E => ∃ F as, SR K F H (vs.map some) as ∧ as.length = n ∧ OutF K mg E (vs.map some) as F H (Fm as) Q

/-! ### the arguments' slots -/
def backSlot (s : Slot) (t : Option Slot) : Slot := match s with
  | .ow _ .own => .un
  | .ow c m => match t with
    | some t => t
    | none => .ow c m
  | s => s
def argsBack (as ρ : DEnv) : DEnv := match as, ρ with
  | s :: as, t :: ρ => backSlot s (some t) :: argsBack as ρ
  | s :: as, [] => backSlot s none :: argsBack as []
  | [], _ => []
theorem argsBack_len : ∀ (as ρ : DEnv), (argsBack as ρ).length = as.length
  | [], ρ => by unfold argsBack; rfl
  | s :: as, [] => by unfold argsBack; rw [List.length_cons, argsBack_len as [], List.length_cons]
  | s :: as, t :: ρ => by unfold argsBack; rw [List.length_cons, argsBack_len as ρ, List.length_cons]
theorem argsBack_get : ∀ {as ρ : DEnv} {i : Nat}, (argsBack as ρ)[i]? = (as[i]?).map fun s => backSlot s ρ[i]?
  | [], ρ, i => by unfold argsBack; simp
  | s :: as, [], 0 => by unfold argsBack; simp
  | s :: as, [], i + 1 => by
    unfold argsBack
    rw [List.getElem?_cons_succ, List.getElem?_cons_succ, argsBack_get]
    simp
  | s :: as, t :: ρ, 0 => by unfold argsBack; simp
  | s :: as, t :: ρ, i + 1 => by
    unfold argsBack
    rw [List.getElem?_cons_succ, List.getElem?_cons_succ, List.getElem?_cons_succ, argsBack_get]
def finish (x : Val) (as ρ : DEnv) : RF := match x with
  | .d d => .ret (.d d) (argsBack as ρ)
  | .fr c => .ret (.fr c) (argsBack as ρ)
  | .sl i => match ρ[i]? with
    | some (.d d) => .ret (.d d) (argsBack as ρ)
    | some (.ow c .own) => .ret (.fr c) (argsBack as ρ)
    | _ => .bad
/-- a def with np parameters and nl further names -/
def fnD (np nl : Nat) (body : SM) : FM := fun as => if as.length = np then (match body (as ++ List.replicate nl .un) with
  | .nx ρ => finish (.d .non) as ρ
  | .rt x ρ => finish x as ρ
  | .ex x ρ => .ex x (argsBack as ρ)
  | _ => .bad) else .bad
section
variable {K : PySem.W.Frag} {σ0 σ' : L2.St} {as ρ0 ρ' : DEnv} {F H F' H' : Hp} {vs : List V}
theorem start_get {N : List Str} {i : Nat} {v : V} (h : vs[i]? = some v) : (L2.start N vs)[i]? = some (some v) := by
  unfold L2.start
  rw [List.getElem?_append_left (by rw [List.length_map]; exact (List.getElem?_eq_some_iff.mp h).1), List.getElem?_map, h]
  rfl
theorem start_map {N : List Str} {i : Nat} (h : i < vs.length) : (L2.start N vs)[i]? = (vs.map some)[i]? := by
  unfold L2.start
  rw [List.getElem?_append_left (by rw [List.length_map]; exact h)]
theorem sr_start {N : List Str} {nl : Nat} (sr : SR K F H (vs.map some) as) (hN : N.length = vs.length + nl) : SR K F H (L2.start N vs) (as ++ List.replicate nl .un) := by
  have hl : vs.length = as.length := by have := sr.len; rw [List.length_map] at this; exact this
  have low : ∀ {i : Nat} {s : Slot}, (as ++ List.replicate nl .un)[i]? = some s → (i < vs.length ∧ as[i]? = some s) ∨ (vs.length ≤ i ∧ s = .un ∧ i < vs.length + nl) := fun {i s} e => by
    by_cases hi : i < as.length
    · rw [List.getElem?_append_left hi] at e
      exact .inl ⟨by omega, e⟩
    · rw [List.getElem?_append_right (by omega)] at e
      have h2 := (List.getElem?_eq_some_iff.mp e).1
      rw [List.length_replicate] at h2
      rw [List.getElem?_replicate] at e
      rw [if_pos h2] at e
      cases e
      exact .inr ⟨by omega, rfl, by omega⟩
  refine ⟨?_, sr.sub, fun i s e => ?_, fun i j c m c' m' a e1 e2 e3 e4 => ?_⟩
  · unfold L2.start
    rw [List.length_append, List.length_append, List.length_map, List.length_replicate, List.length_replicate]
    omega
  · rcases low e with ⟨h1, h2⟩ | ⟨h1, rfl, h3⟩
    · obtain ⟨ov, g1, g2⟩ := sr.slot i s h2
      exact ⟨ov, by rw [start_map h1]; exact g1, g2⟩
    · refine ⟨none, ?_, trivial⟩
      unfold L2.start
      rw [List.getElem?_append_right (by rw [List.length_map]; exact h1), List.length_map, List.getElem?_replicate, if_pos (by omega)]
  · rcases low e1 with ⟨h1, h2⟩ | ⟨h1, z, h3⟩
    · rcases low e2 with ⟨h4, h5⟩ | ⟨_, z, _⟩
      · rw [start_map h1] at e3
        rw [start_map h4] at e4
        exact sr.dist i j c m c' m' a h2 h5 e3 e4
      · cases z
    · cases z
theorem ow_start {N : List Str} {nl : Nat} {a : Addr} (hl : vs.length = as.length) (h : Ow (L2.start N vs) (as ++ List.replicate nl .un) a) : Ow (vs.map some) as a := by
  obtain ⟨i, c, m, e1, e2⟩ := h
  by_cases hi : i < as.length
  · rw [List.getElem?_append_left hi] at e1
    rw [start_map (by omega)] at e2
    exact ⟨i, c, m, e1, e2⟩
  · rw [List.getElem?_append_right (by omega), List.getElem?_replicate] at e1
    split at e1 <;> cases e1
theorem mt_start {N : List Str} {nl : Nat} {a : Addr} (hl : vs.length = as.length) (h : Mt (L2.start N vs) (as ++ List.replicate nl .un) a) : Mt (vs.map some) as a := by
  obtain ⟨i, c, m, e1, n, e2⟩ := h
  by_cases hi : i < as.length
  · rw [List.getElem?_append_left hi] at e1
    rw [start_map (by omega)] at e2
    exact ⟨i, c, m, e1, n, e2⟩
  · rw [List.getElem?_append_right (by omega), List.getElem?_replicate] at e1
    split at e1 <;> cases e1
theorem finish_ok {N : List Str} {nl : Nat} (sr0 : SR K F H (vs.map some) as) (s' : SR K F' H' σ' ρ') (ev : Ev (L2.start N vs) (as ++ List.replicate nl .un) F H σ' ρ' F' H') :
    SR K F' H' (vs.map some) (argsBack as ρ') ∧ Ev (vs.map some) as F H (vs.map some) (argsBack as ρ') F' H' := by
  have hl : vs.length = as.length := by have := sr0.len; rw [List.length_map] at this; exact this
  -- a lent slot behind the body
  have lent : ∀ {i : Nat} {c : Cont} {m : Md}, as[i]? = some (.ow c m) → m ≠ .own → σ'[i]? = (vs.map some)[i]? ∧ ∃ c', ρ'[i]? = some (.ow c' m) ∧ (m = .lck → c' = c) ∧ (argsBack as ρ')[i]? = some (.ow c' m) := fun {i c m} e n => by
    have hi : i < as.length := (List.getElem?_eq_some_iff.mp e).1
    obtain ⟨b1, c', b2, b3⟩ := ev.bor i c m (by rw [List.getElem?_append_left hi]; exact e) n
    rw [start_map (by omega)] at b1
    refine ⟨b1, c', b2, b3, ?_⟩
    rw [argsBack_get, e, b2]
    cases m with
    | own => exact absurd rfl n
    | bor => rfl
    | lck => rfl
  have inv : ∀ {i : Nat} {s : Slot}, (argsBack as ρ')[i]? = some s → (∃ c m, s = .ow c m ∧ m ≠ .own ∧ (∃ c0, as[i]? = some (.ow c0 m)) ∧ ρ'[i]? = some (.ow c m)) ∨ (∃ x, s = .d x ∧ as[i]? = some (.d x)) ∨ s = .un := fun {i s} e => by
    rw [argsBack_get] at e
    cases q : as[i]? with
    | none => rw [q] at e; cases e
    | some t =>
      rw [q] at e
      cases t with
      | un => cases e; exact .inr (.inr rfl)
      | d x => cases e; exact .inr (.inl ⟨x, rfl, rfl⟩)
      | ow c0 m =>
        by_cases hm : m = .own
        · subst hm; cases e; exact .inr (.inr rfl)
        · obtain ⟨_, c', b2, _, b4⟩ := lent q hm
          have e' : (argsBack as ρ')[i]? = some s := by rw [argsBack_get, q]; exact e
          rw [b4] at e'
          cases e'
          exact .inl ⟨c', m, rfl, hm, ⟨c0, rfl⟩, b2⟩
  refine ⟨⟨by rw [argsBack_len, List.length_map]; exact hl, s'.sub, fun i s e => ?_, fun i j c m c' m' a e1 e2 e3 e4 => ?_⟩, ⟨ev.ext, fun a o e n => ev.keep a o e fun z => n (mt_start hl z), fun a e n => (ev.newF a e n).imp id (ow_start hl), ev.dom, fun i c m e n => ?_, fun a ⟨i, c, m, e1, e2⟩ => ?_, fun a ⟨i, c, m, e1, n, e2⟩ => ?_⟩⟩
  · rcases inv e with ⟨c, m, rfl, hm, ⟨c0, h0⟩, h1⟩ | ⟨x, rfl, h0⟩ | rfl
    · obtain ⟨b1, _⟩ := lent h0 hm
      obtain ⟨ov, g1, g2⟩ := s'.slot i _ h1
      exact ⟨ov, by rw [← b1]; exact g1, g2⟩
    · obtain ⟨ov, g1, v, g2, g3⟩ := sr0.slot i _ h0
      exact ⟨ov, g1, v, g2, g3.mono (.of ev.ext)⟩
    · have hi : i < (vs.map some).length := by
        have := (List.getElem?_eq_some_iff.mp e).1
        rw [argsBack_len] at this
        rw [List.length_map]; omega
      exact ⟨_, List.getElem?_eq_getElem hi, trivial⟩
  · rcases inv e1 with ⟨c1, m1, z, hm1, ⟨c01, h01⟩, h1⟩ | ⟨x, z, _⟩ | z
    · rcases inv e2 with ⟨c2, m2, z', hm2, ⟨c02, h02⟩, h2⟩ | ⟨x, z', _⟩ | z'
      · exact s'.dist i j c1 m1 c2 m2 a h1 h2 (by rw [(lent h01 hm1).1]; exact e3) (by rw [(lent h02 hm2).1]; exact e4)
      · cases z'
      · cases z'
    · cases z
    · cases z
  · obtain ⟨_, c', _, b3, b4⟩ := lent e n
    exact ⟨rfl, c', b4, b3⟩
  · rcases inv e1 with ⟨c1, m1, z, hm1, ⟨c01, h01⟩, h1⟩ | ⟨x, z, _⟩ | z
    · cases z; exact .inr ⟨i, c01, m, h01, e2⟩
    · cases z
    · cases z
  · rcases inv e1 with ⟨c1, m1, z, hm1, ⟨c01, h01⟩, h1⟩ | ⟨x, z, _⟩ | z
    · cases z; exact .inr ⟨i, c01, m, h01, n, e2⟩
    · cases z
    · cases z
/-- the value that leaves the def -/
theorem leave_ok {mg : Str → Option Value} {E : XK} {Q : VK} {N : List Str} {nl : Nat} {x : Val} {v : V} (sr0 : SR K F H (vs.map some) as) (s' : SR K F' H' σ' ρ') (ev : Ev (L2.start N vs) (as ++ List.replicate nl .un) F H σ' ρ' F' H') (r : VR K σ' H F' H' ρ' v x)
    (h : OutF K mg E (vs.map some) as F H (finish x as ρ') Q) : Q v H' := by
  have hl : vs.length = as.length := by have := sr0.len; rw [List.length_map] at this; exact this
  obtain ⟨s2, ev2⟩ := finish_ok sr0 s' ev
  have back : ∀ {a : Addr}, Ow (vs.map some) (argsBack as ρ') a → ∃ (i : Nat) (c : Cont) (m : Md), m ≠ Md.own ∧ ρ'[i]? = some (Slot.ow c m) ∧ σ'[i]? = some (some (V.ref a)) := fun {a} ⟨i, c, m, e1, e2⟩ => by
    rw [argsBack_get] at e1
    cases q : as[i]? with
    | none => rw [q] at e1; cases e1
    | some t =>
      have hi : i < as.length := (List.getElem?_eq_some_iff.mp q).1
      rw [q] at e1
      cases t with
      | un => cases e1
      | d x => cases e1
      | ow c0 m0 =>
        by_cases hm : m0 = .own
        · subst hm; cases e1
        · obtain ⟨b1, c', b2, b3⟩ := ev.bor i c0 m0 (by rw [List.getElem?_append_left hi]; exact q) hm
          rw [start_map (by omega)] at b1
          exact ⟨i, c', m0, hm, b2, by rw [b1]; exact e2⟩
  cases x with
  | d d => exact h v F' H' s2 ev2 r
  | fr c =>
    obtain ⟨p, rfl, nb, nF, cr, no⟩ := r
    refine h (.ref p) F' H' s2 ev2 ⟨p, rfl, .inl nb, nF, cr, fun z => ?_⟩
    obtain ⟨i, c', m, _, q1, q2⟩ := back z
    exact no ⟨i, c', m, q1, q2⟩
  | sl i =>
    have r : σ'[i]? = some (some v) := r
    unfold finish at h
    dsimp only at h
    cases hs : ρ'[i]? with
    | none => rw [hs] at h; exact h.elim
    | some sl =>
      rw [hs] at h
      obtain ⟨ov, g1, g2⟩ := s'.slot i _ hs
      rw [r] at g1; cases g1
      cases sl with
      | un => exact h.elim
      | d d =>
        obtain ⟨u, z, g3⟩ := g2
        cases z
        exact h v F' H' s2 ev2 g3
      | ow c m =>
        cases m with
        | bor => exact h.elim
        | lck => exact h.elim
        | own =>
          obtain ⟨p, z, nF, cr⟩ := g2
          cases z
          have no : ∀ {j : Nat} {c' : Cont} {m' : Md}, m' ≠ .own → ρ'[j]? = some (.ow c' m') → σ'[j]? = some (some (.ref p)) → False := fun {j c' m'} n q1 q2 => by
            have := s'.dist i j c .own c' m' p hs q1 r q2
            subst this
            rw [hs] at q1; cases q1
            exact n rfl
          refine h (.ref p) F' H' s2 ev2 ⟨p, rfl, ?_, nF, cr, fun z => ?_⟩
          · rcases ev.own' p ⟨i, c, .own, hs, r⟩ with z | z
            · exact .inl z
            · obtain ⟨j, c0, m0, q1, q2⟩ := z
              have hj : j < as.length := by
                by_cases hj : j < as.length
                · exact hj
                · rw [List.getElem?_append_right (by omega), List.getElem?_replicate] at q1
                  split at q1 <;> cases q1
              by_cases hm : m0 = .own
              · subst hm
                rw [List.getElem?_append_left hj] at q1
                rw [start_map (by omega)] at q2
                exact .inr ⟨j, c0, q1, q2⟩
              · obtain ⟨b1, c', b2, b3⟩ := ev.bor j c0 m0 q1 hm
                exact (no hm b2 (by rw [b1]; exact q2)).elim
          · obtain ⟨j, c', m', hm, q1, q2⟩ := back z
            exact no hm q1 q2
end

/-! ### a def keeps its promise -/
structure GFn (P : Program) (w : World) (K : PySem.W.Frag) (mg : Str → Option Value) (base : Heap) (k : Nat) (f : Addr) (fd : FuncData) (ps : List Str) (Fm : FM) : Prop where
  run : ∀ (A : Around) (outer : List Env) (s : Shared) (H : Hp) (args : Args) (us : List Value) (vs : List V) (Q : VK) (E : XK), Room k A → A.guards = some [] → Env0 P w K mg base A outer s H → BindsTo s fd args (ps.zip us) → Vals vs us →
    spD K mg ps.length Fm vs H Q E → codeAny (model P w) A (.call (.ref f) args) (CR (L2.CX P w) outer P w H s Q E) s
theorem GFn.mono {P : Program} {w : World} {K : PySem.W.Frag} {mg : Str → Option Value} {base : Heap} {j k : Nat} {f : Addr} {fd : FuncData} {ps : List Str} {Fm : FM} (G : GFn P w K mg base j f fd ps Fm) (h : j ≤ k) : GFn P w K mg base k f fd ps Fm :=
  ⟨fun A outer s H args us vs Q E hr => G.run A outer s H args us vs Q E (hr.mono h)⟩
theorem sp_len {K : PySem.W.Frag} {mg : Str → Option Value} {n : Nat} {Fm : FM} {vs : List V} {H : Hp} {Q : VK} {E : XK} (h : spD K mg n Fm vs H Q E) : vs.length = n := by
  obtain ⟨F, as, sr, hl, _⟩ := h
  have := sr.len
  rw [List.length_map] at this
  omega
/-- THE RULE for a def: its body, read by a function of the slots -/
theorem gfn_of {P : Program} {w : World} {K : PySem.W.Frag} {mg : Str → Option Value} {base : Heap} {k : Nat} {x qual : Str} {st : Stmt} {f : Addr} {fd : FuncData} {N ps : List Str} {g : SM} (Fu : Fun K x qual st f fd) (S : FnScope N ps (defScope st)) (nl : Nat) (hNl : N.length = ps.length + nl)
    (hbody : ∀ (cdv : Value) (A : Around) (outer : List Env) (s : Shared) (H : Hp) (E : XK), Room k (A.deeper (envOfC qual (defScope st) s.heap.objs.size f cdv)) → (A.deeper (envOfC qual (defScope st) s.heap.objs.size f cdv)).guards = some [] →
      DSs (cxOf (L2.CX P w) P w K mg base N qual (defScope st) f cdv A outer s H E) (fun c d _ H' => E c d H') (defBody st) g) : GFn P w K mg base (k + 1) f fd ps (fnD ps.length nl g) := by
  obtain ⟨oc, od, kV, doc, pm, an, cdv, ct, osl, rfl, lk, hcd⟩ := Fu.ex
  refine ⟨fun A outer s H args us vs Q E hr hG e0 hb r hsp => ?_⟩
  have hl : vs.length = ps.length := sp_len hsp
  obtain ⟨F, as, sr, hla, out⟩ := hsp
  have KX : K.In s.heap := e0.mod.kin.keeps fun b o e => (e0.bs b o e).1
  have lim : s.heap.NoLimit := e0.mod.nolimit.keeps fun b o e => (e0.bs b o e).1
  have hkind : ∀ y ∈ ps.zip us, (defScope st).names.lookup y.1 = some .local ∨ ((defScope st).names.lookup y.1 = some .cell ∧ ((cellsFrom (s.heap.objs.size + 1) (defScope st).names []).lookup y.1).isSome = true) := fun ⟨n, v⟩ hy => (S.par n (List.of_mem_zip hy).1).imp id fun q => ⟨q, PySem.W.cellsFrom_some _ _ _ (.inl q)⟩
  refine codeAny_call_function hr.depth (KX _ _ lk) rfl S.co S.gen rfl (PySem.W.codeRec_of KX hcd) (hb _ _ _ _ (wpAny_newFunctionEnv_cells S.kind hkind fun env he s1 y => ?_))
  subst he
  refine ⟨lim.keeps y.toInCall.keep, codeAny_func ?_⟩
  have I : Inv (cxOf (L2.CX P w) P w K mg base N qual (defScope st) f cdv A outer s H E) [] (L2.start N vs) H s1 := inv_start S hr.hd e0 hl r y
  have hN' : N.length = vs.length + nl := by rw [hl]; exact hNl
  have sr' : SR K F H (L2.start N vs) (as ++ List.replicate nl .un) := sr_start sr hN'
  have reading : tS K mg (fun c d _ H' => E c d H') g { nx := fun _ H' => Q .non H', rt := Q } (L2.start N vs) H := by
    refine ⟨F, _, sr', ?_⟩
    unfold fnD at out
    rw [if_pos hla] at out
    cases hg : g (as ++ List.replicate nl .un) with
    | nx ρ' => rw [hg] at out; exact fun σ' F' H' s' ev => leave_ok sr s' ev (x := .d .non) (v := .non) Rep.non out
    | rt x ρ' => rw [hg] at out; exact fun v σ' F' H' s' ev rv => leave_ok sr s' ev rv out
    | ex x ρ' =>
      rw [hg] at out
      exact fun c d σ' F' H' s' ev rv => let ⟨s2, ev2⟩ := finish_ok sr s' ev; out c d F' H' s2 ev2 rv
    | bk ρ' => rw [hg] at out; exact out.elim
    | ct ρ' => rw [hg] at out; exact out.elim
    | bad => rw [hg] at out; exact out.elim
  refine wpAny_mono ((hbody cdv A outer s H E (hr.deeper _) hG).run [] s1 _ H _ I reading) (fun fl s' hs => ?_) fun e s' hs => hs
  have fin : ∀ {σ' : L2.St} {H' : Hp} {v : V} {u : Value}, Inv (cxOf (L2.CX P w) P w K mg base N qual (defScope st) f cdv A outer s H E) [] σ' H' s' → RelV v u → Q v H' → CE outer P w H s Q u s' := fun {σ' H' v u} J rv q => ⟨v, H', J.os, J.bare, J.base, J.hok, rv, q⟩
  cases fl with
  | ret u => obtain ⟨v, σ', H', J, rv, q⟩ := hs; exact fin J rv q
  | next => obtain ⟨σ', H', J, q⟩ := hs; exact fin (v := V.non) (u := Value.none) J rfl q
  | brk => obtain ⟨_, _, _, q⟩ := hs; exact q.elim
  | cont => obtain ⟨_, _, _, q⟩ := hs; exact q.elim

/-! ### calls -/
def argSlot (ρ : DEnv) : Val → Option Slot
  | .d d => some (.d d)
  | .fr c => some (.ow c .own)
  | .sl i => match ρ[i]? with
    | some (.d d) => some (.d d)
    | some (.ow c .own) => some (.ow c .bor)
    | some (.ow c m) => some (.ow c m)
    | _ => none
def argSlots (ρ : DEnv) : List Val → Option DEnv
  | [] => some []
  | x :: xs => match argSlot ρ x, argSlots ρ xs with
    | some s, some ss => some (s :: ss)
    | _, _ => none
/-- no slot's object is lent twice -/
def lentOnce : List Val → Bool
  | [] => true
  | .sl i :: xs => !(xs.any fun y => match y with | .sl j => decide (i = j) | _ => false) && lentOnce xs
  | _ :: xs => lentOnce xs
def putBack (ρ : DEnv) : List Val → DEnv → DEnv
  | .sl i :: xs, s :: ss => match ρ[i]?, s with
    | some (.ow _ m), .ow c' _ => (putBack ρ xs ss).set i (.ow c' m)
    | _, _ => putBack ρ xs ss
  | _ :: xs, _ :: ss => putBack ρ xs ss
  | _, _ => ρ
def callF (Fm : FM) (xs : List Val) : EM := fun ρ => match argSlots ρ xs with
  | some as => if lentOnce xs = true then (match Fm as with
    | .ret x as' => .ok x (putBack ρ xs as')
    | .ex x as' => .ex x (putBack ρ xs as')
    | .bad => .bad) else .bad
  | none => .bad
def eCall (Fm : FM) (g : M (List Val)) : EM := fun ρ => (g ρ).bind fun xs ρ1 => callF Fm xs ρ1
theorem putBack_len (ρ : DEnv) : ∀ (xs : List Val) (ss : DEnv), (putBack ρ xs ss).length = ρ.length
  | [], _ => by unfold putBack; rfl
  | .sl i :: xs, [] => by unfold putBack; rfl
  | .d x :: xs, [] => by unfold putBack; rfl
  | .fr x :: xs, [] => by unfold putBack; rfl
  | .d x :: xs, s :: ss => by unfold putBack; exact putBack_len ρ xs ss
  | .fr x :: xs, s :: ss => by unfold putBack; exact putBack_len ρ xs ss
  | .sl i :: xs, s :: ss => by
    unfold putBack
    split
    · rw [List.length_set, putBack_len ρ xs ss]
    · exact putBack_len ρ xs ss
/-- what stands at a slot behind a call -/
theorem putBack_get {ρ : DEnv} {i : Nat} : ∀ {xs : List Val} {ss : DEnv}, lentOnce xs = true → (putBack ρ xs ss)[i]? = ρ[i]? ∧ (∀ j : Nat, xs[j]? = some (.sl i) → ∀ c m c' m', ρ[i]? = some (.ow c m) → ss[j]? = some (.ow c' m') → False) ∨
    ∃ (j : Nat) (c : Cont) (m : Md) (c' : Cont) (m' : Md), xs[j]? = some (.sl i) ∧ ρ[i]? = some (.ow c m) ∧ ss[j]? = some (.ow c' m') ∧ (putBack ρ xs ss)[i]? = some (.ow c' m)
  | [], ss, _ => .inl ⟨by unfold putBack; rfl, fun j h => by simp at h⟩
  | x :: xs, [], _ => .inl ⟨by unfold putBack; cases x <;> rfl, fun j _ _ _ _ _ _ h => by simp at h⟩
  | .d x :: xs, s :: ss, h => by
    have ih := putBack_get (ρ := ρ) (i := i) (xs := xs) (ss := ss) h
    unfold putBack
    rcases ih with ⟨h1, h2⟩ | ⟨j, c, m, c', m', h1, h2⟩
    · exact .inl ⟨h1, fun j hj => by cases j with
        | zero => cases hj
        | succ j => exact fun c m c' m' q1 q2 => h2 j (by simpa using hj) c m c' m' q1 (by simpa using q2)⟩
    · exact .inr ⟨j + 1, c, m, c', m', by simpa using h1, by simpa using h2⟩
  | .fr x :: xs, s :: ss, h => by
    have ih := putBack_get (ρ := ρ) (i := i) (xs := xs) (ss := ss) h
    unfold putBack
    rcases ih with ⟨h1, h2⟩ | ⟨j, c, m, c', m', h1, h2⟩
    · exact .inl ⟨h1, fun j hj => by cases j with
        | zero => cases hj
        | succ j => exact fun c m c' m' q1 q2 => h2 j (by simpa using hj) c m c' m' q1 (by simpa using q2)⟩
    · exact .inr ⟨j + 1, c, m, c', m', by simpa using h1, by simpa using h2⟩
  | .sl k :: xs, s :: ss, h => by
    have h' : (xs.any fun y => match y with | .sl j => decide (k = j) | _ => false) = false ∧ lentOnce xs = true := by
      unfold lentOnce at h
      rw [Bool.and_eq_true] at h
      exact ⟨by have := h.1; rw [Bool.not_eq_true'] at this; exact this, h.2⟩
    have ih := putBack_get (ρ := ρ) (i := i) (xs := xs) (ss := ss) h'.2
    have nok : ∀ j : Nat, xs[j]? ≠ some (.sl k) := fun j hj => by
      have hm := List.mem_of_getElem? hj
      have := List.any_eq_false.mp h'.1 _ hm
      simp at this
    by_cases hk : k = i
    · subst hk
      have ih' : (putBack ρ xs ss)[k]? = ρ[k]? := by
        rcases ih with ⟨h1, _⟩ | ⟨j, c, m, c', m', h1, _⟩
        · exact h1
        · exact absurd h1 (nok j)
      have skip : (putBack ρ (.sl k :: xs) (s :: ss) = putBack ρ xs ss) → (∀ c m c' m', ρ[k]? = some (.ow c m) → s = .ow c' m' → False) → (putBack ρ (.sl k :: xs) (s :: ss))[k]? = ρ[k]? ∧ (∀ j : Nat, (Val.sl k :: xs)[j]? = some (.sl k) → ∀ c m c' m', ρ[k]? = some (.ow c m) → (s :: ss)[j]? = some (.ow c' m') → False) := fun e n => by
        rw [e]
        refine ⟨ih', fun j hj c m c' m' q1 q2 => ?_⟩
        cases j with
        | succ j => exact nok j (by simpa using hj)
        | zero => exact n c m c' m' q1 (by simpa using q2)
      cases hr : ρ[k]? with
      | none => rw [← hr]; exact .inl (skip (by simp only [putBack, hr]) fun c m c' m' z => by rw [hr] at z; cases z)
      | some sl =>
        cases sl with
        | un => rw [← hr]; exact .inl (skip (by simp only [putBack, hr]) fun c m c' m' z => by rw [hr] at z; cases z)
        | d x => rw [← hr]; exact .inl (skip (by simp only [putBack, hr]) fun c m c' m' z => by rw [hr] at z; cases z)
        | ow c m =>
          cases s with
          | un => rw [← hr]; exact .inl (skip (by simp only [putBack, hr]) fun c m c' m' _ z => by cases z)
          | d x => rw [← hr]; exact .inl (skip (by simp only [putBack, hr]) fun c m c' m' _ z => by cases z)
          | ow c' m' =>
            right
            have hl : k < ρ.length := (List.getElem?_eq_some_iff.mp hr).1
            exact ⟨0, c, m, c', m', rfl, rfl, rfl, by simp only [putBack, hr]; exact List.getElem?_set_self (by rw [putBack_len]; exact hl)⟩
    · have same : (putBack ρ (.sl k :: xs) (s :: ss))[i]? = (putBack ρ xs ss)[i]? := by
        cases hr : ρ[k]? with
        | none => simp only [putBack, hr]
        | some sl =>
          cases sl with
          | un => simp only [putBack, hr]
          | d x => simp only [putBack, hr]
          | ow c m =>
            cases s with
            | un => simp only [putBack, hr]
            | d x => simp only [putBack, hr]
            | ow c' m' =>
              simp only [putBack, hr]
              exact List.getElem?_set_ne hk
      rw [same]
      rcases ih with ⟨h1, h2⟩ | ⟨j, c, m, c', m', h1, h2⟩
      · exact .inl ⟨h1, fun j hj => by cases j with
          | zero => exact absurd (Val.sl.inj (Option.some.inj hj)) hk
          | succ j => exact fun c m c' m' q1 q2 => h2 j (by simpa using hj) c m c' m' q1 (by simpa using q2)⟩
      · exact .inr ⟨j + 1, c, m, c', m', by simpa using h1, by simpa using h2⟩
end DL
/-! DL13: calls of defs. -/
namespace DL
open PySem PySem.Spec PyProof.Rows L2
section
variable {K : PySem.W.Frag} {σ : L2.St} {ρ ρ0 as as' : DEnv} {F0 H0 F H F' H' : Hp} {vs : List V} {xs : List Val}
theorem argSlots_len : ∀ {xs : List Val} {as : DEnv}, argSlots ρ xs = some as → as.length = xs.length
  | [], as, h => by cases h; rfl
  | x :: xs, as, h => by
    unfold argSlots at h
    cases h1 : argSlot ρ x with
    | none => rw [h1] at h; cases h
    | some s =>
      cases h2 : argSlots ρ xs with
      | none => rw [h1, h2] at h; cases h
      | some ss => rw [h1, h2] at h; cases h; rw [List.length_cons, List.length_cons, argSlots_len h2]
theorem argSlots_get : ∀ {xs : List Val} {as : DEnv} {j : Nat} {s : Slot}, argSlots ρ xs = some as → as[j]? = some s → ∃ x, xs[j]? = some x ∧ argSlot ρ x = some s
  | [], as, j, s, h, e => by cases h; simp at e
  | x :: xs, as, j, s, h, e => by
    unfold argSlots at h
    cases h1 : argSlot ρ x with
    | none => rw [h1] at h; cases h
    | some t =>
      cases h2 : argSlots ρ xs with
      | none => rw [h1, h2] at h; cases h
      | some ss =>
        rw [h1, h2] at h; cases h
        cases j with
        | zero => exact ⟨x, rfl, by rw [h1]; simpa using e⟩
        | succ j =>
          obtain ⟨y, h3, h4⟩ := argSlots_get (j := j) h2 (by simpa using e)
          exact ⟨y, by simpa using h3, h4⟩
theorem argSlots_at {j : Nat} {x : Val} (h : argSlots ρ xs = some as) (e : xs[j]? = some x) : ∃ s, as[j]? = some s ∧ argSlot ρ x = some s := by
  have hj : j < as.length := by rw [argSlots_len h]; exact (List.getElem?_eq_some_iff.mp e).1
  obtain ⟨y, h1, h2⟩ := argSlots_get h (List.getElem?_eq_getElem hj)
  rw [e] at h1; cases h1
  exact ⟨_, List.getElem?_eq_getElem hj, h2⟩
/-- an argument's slot that owns -/
theorem argSlot_ow {x : Val} {c : Cont} {m : Md} (h : argSlot ρ x = some (.ow c m)) : (x = .fr c ∧ m = .own) ∨ ∃ i m0, x = .sl i ∧ ρ[i]? = some (.ow c m0) ∧ ((m0 = .own ∧ m = .bor) ∨ (m0 = m ∧ m ≠ .own)) := by
  cases x with
  | d d => cases h
  | fr c' => cases h; exact .inl ⟨rfl, rfl⟩
  | sl i =>
    unfold argSlot at h
    dsimp only at h
    cases hr : ρ[i]? with
    | none => rw [hr] at h; cases h
    | some s =>
      rw [hr] at h
      cases s with
      | un => cases h
      | d x => cases h
      | ow c' m' =>
        cases m' with
        | own => cases h; exact .inr ⟨i, .own, rfl, hr, .inl ⟨rfl, rfl⟩⟩
        | bor => cases h; exact .inr ⟨i, .bor, rfl, hr, .inr ⟨rfl, by decide⟩⟩
        | lck => cases h; exact .inr ⟨i, .lck, rfl, hr, .inr ⟨rfl, by decide⟩⟩
theorem lent_inj : ∀ {xs : List Val} {j k i : Nat}, lentOnce xs = true → xs[j]? = some (.sl i) → xs[k]? = some (.sl i) → j = k
  | [], j, k, i, _, e, _ => by simp at e
  | .d x :: xs, j, k, i, h, e1, e2 => by
    cases j with
    | zero => cases e1
    | succ j => cases k with
      | zero => cases e2
      | succ k => exact congrArg (· + 1) (lent_inj (xs := xs) h (by simpa using e1) (by simpa using e2))
  | .fr x :: xs, j, k, i, h, e1, e2 => by
    cases j with
    | zero => cases e1
    | succ j => cases k with
      | zero => cases e2
      | succ k => exact congrArg (· + 1) (lent_inj (xs := xs) h (by simpa using e1) (by simpa using e2))
  | .sl l :: xs, j, k, i, h, e1, e2 => by
    unfold lentOnce at h
    rw [Bool.and_eq_true, Bool.not_eq_true'] at h
    have no : ∀ n : Nat, xs[n]? = some (.sl l) → False := fun n hn => by
      have := List.any_eq_false.mp h.1 _ (List.mem_of_getElem? hn)
      simp at this
    cases j with
    | zero =>
      cases e1
      cases k with
      | zero => rfl
      | succ k => exact (no k (by simpa using e2)).elim
    | succ j =>
      cases k with
      | zero => cases e2; exact (no j (by simpa using e1)).elim
      | succ k => exact congrArg (· + 1) (lent_inj (xs := xs) h.2 (by simpa using e1) (by simpa using e2))
theorem paired_at {α β : Type} {G : α → β → Prop} : ∀ {l : List α} {m : List β} {i : Nat} {y : β}, Paired G l m → m[i]? = some y → ∃ x, l[i]? = some x ∧ G x y
  | _, _, _, _, .nil, e => by simp at e
  | _, _, 0, _, .cons a b, e => by simp at e; subst e; exact ⟨_, rfl, a⟩
  | _, _, i + 1, _, .cons a b, e => by
    obtain ⟨x, h1, h2⟩ := paired_at (i := i) b (by simpa using e)
    exact ⟨x, by simpa using h1, h2⟩
/-- who owns an argument's object -/
theorem arg_owner {j : Nat} {c : Cont} {m : Md} {a : Addr} (rl : VRL K σ H0 F H ρ vs xs) (h : argSlots ρ xs = some as) (e1 : as[j]? = some (.ow c m)) (e2 : (vs.map some)[j]? = some (some (.ref a))) :
    (xs[j]? = some (.fr c) ∧ vs[j]? = some (.ref a) ∧ m = .own ∧ H0 a = none ∧ F a = none ∧ CRep K F H a c ∧ ¬ Ow σ ρ a) ∨ ∃ i m0, xs[j]? = some (.sl i) ∧ ρ[i]? = some (.ow c m0) ∧ σ[i]? = some (some (.ref a)) ∧ ((m0 = .own ∧ m = .bor) ∨ (m0 = m ∧ m ≠ .own)) := by
  obtain ⟨x, h1, h2⟩ := argSlots_get h e1
  obtain ⟨v, h3, h4⟩ := paired_at rl.all h1
  rw [List.getElem?_map, h3] at e2
  have e2 : v = .ref a := by cases e2; rfl
  subst e2
  rcases argSlot_ow h2 with ⟨rfl, hm⟩ | ⟨i, m0, rfl, h5, h6⟩
  · obtain ⟨p, z, nb, nF, cr, no⟩ := h4
    cases z
    exact .inl ⟨h1, h3, hm, nb, nF, cr, no⟩
  · exact .inr ⟨i, m0, h1, h5, h4, h6⟩
theorem args_sr (sr : SR K F H σ ρ) (rl : VRL K σ H0 F H ρ vs xs) (h : argSlots ρ xs = some as) (hl : lentOnce xs = true) : SR K F H (vs.map some) as := by
  have len : vs.length = as.length := by rw [argSlots_len h]; exact rl.all.length
  refine ⟨by rw [List.length_map]; exact len, sr.sub, fun j s e => ?_, fun j k c m c' m' a e1 e2 e3 e4 => ?_⟩
  · obtain ⟨x, h1, h2⟩ := argSlots_get h e
    obtain ⟨v, h3, h4⟩ := paired_at rl.all h1
    refine ⟨some v, by rw [List.getElem?_map, h3]; rfl, ?_⟩
    cases x with
    | d d => cases h2; exact ⟨v, rfl, h4⟩
    | fr c =>
      cases h2
      obtain ⟨p, rfl, _, nF, cr, _⟩ := h4
      exact ⟨p, rfl, nF, cr⟩
    | sl i =>
      have h4 : σ[i]? = some (some v) := h4
      unfold argSlot at h2
      dsimp only at h2
      cases hr : ρ[i]? with
      | none => rw [hr] at h2; cases h2
      | some t =>
        rw [hr] at h2
        obtain ⟨ov, g1, g2⟩ := sr.slot i t hr
        rw [h4] at g1; cases g1
        cases t with
        | un => cases h2
        | d d => cases h2; exact g2
        | ow c m => cases m <;> (cases h2; exact g2)
  · rcases arg_owner rl h e1 e3 with ⟨q1, q2, _, _, _, _, q3⟩ | ⟨i, m0, q1, q2, q3, _⟩ <;> rcases arg_owner rl h e2 e4 with ⟨r1, r2, _, _, _, _, r3⟩ | ⟨i', m1, r1, r2, r3, _⟩
    · exact rl.frs j k c c' a q1 r1 q2 r2
    · exact absurd ⟨i', _, _, r2, r3⟩ q3
    · exact absurd ⟨i, _, _, q2, q3⟩ r3
    · have := sr.dist i i' _ _ _ _ a q2 r2 q3 r3
      subst this
      exact lent_inj hl q1 r1
/-- behind the call -/
theorem back_ok (sr : SR K F H σ ρ) (ev : Ev σ ρ0 F0 H0 σ ρ F H) (rl : VRL K σ H0 F H ρ vs xs) (h : argSlots ρ xs = some as) (hl : lentOnce xs = true) (s' : SR K F' H' (vs.map some) as') (ev' : Ev (vs.map some) as F H (vs.map some) as' F' H') :
    SR K F' H' σ (putBack ρ xs as') ∧ Ev σ ρ0 F0 H0 σ (putBack ρ xs as') F' H' := by
  -- a lent slot i, behind the call
  have lent : ∀ {j i : Nat} {c : Cont} {m : Md}, xs[j]? = some (.sl i) → ρ[i]? = some (.ow c m) → ∃ c' m', as'[j]? = some (.ow c' m') ∧ (m = .lck → c' = c) := fun {j i c m} h1 h2 => by
    obtain ⟨s, h3, h4⟩ := argSlots_at h h1
    unfold argSlot at h4
    dsimp only at h4
    rw [h2] at h4
    cases m with
    | own => cases h4; obtain ⟨_, c', b, _⟩ := ev'.bor j c .bor h3 (by decide); exact ⟨c', _, b, fun z => by cases z⟩
    | bor => cases h4; obtain ⟨_, c', b, _⟩ := ev'.bor j c .bor h3 (by decide); exact ⟨c', _, b, fun z => by cases z⟩
    | lck => cases h4; obtain ⟨_, c', b, b2⟩ := ev'.bor j c .lck h3 (by decide); exact ⟨c', _, b, b2⟩
  have look : ∀ (i : Nat), ((putBack ρ xs as')[i]? = ρ[i]? ∧ ∀ (j : Nat) (c : Cont) (m : Md), xs[j]? = some (.sl i) → ρ[i]? = some (.ow c m) → False) ∨ ∃ (j : Nat) (c : Cont) (m : Md) (c' : Cont) (m' : Md), xs[j]? = some (.sl i) ∧ ρ[i]? = some (.ow c m) ∧ as'[j]? = some (.ow c' m') ∧ (putBack ρ xs as')[i]? = some (.ow c' m) := fun i => by
    rcases putBack_get (ρ := ρ) (i := i) (xs := xs) (ss := as') hl with ⟨h1, h2⟩ | h1
    · left
      refine ⟨h1, fun j c m q1 q2 => ?_⟩
      obtain ⟨c', m', b, _⟩ := lent q1 q2
      exact h2 j q1 c m c' m' q2 b
    · exact .inr h1
  have vj : ∀ {j i : Nat} {a : Addr}, xs[j]? = some (.sl i) → σ[i]? = some (some (.ref a)) → (vs.map some)[j]? = some (some (.ref a)) := fun {j i a} h1 h2 => by
    obtain ⟨v, h3, h4⟩ := paired_at rl.all h1
    have h4 : σ[i]? = some (some v) := h4
    rw [h2] at h4; cases h4
    rw [List.getElem?_map, h3]; rfl
  have owB : ∀ {a : Addr}, Ow σ (putBack ρ xs as') a → Ow σ ρ a := fun {a} ⟨i, c, m, e1, e2⟩ => by
    rcases look i with ⟨h1, _⟩ | ⟨j, c1, m1, c', m', h1, h2, h3, h4⟩
    · rw [h1] at e1; exact ⟨i, c, m, e1, e2⟩
    · exact ⟨i, c1, m1, h2, e2⟩
  have mtB : ∀ {a : Addr}, Mt σ (putBack ρ xs as') a → Mt σ ρ a := fun {a} ⟨i, c, m, e1, n, e2⟩ => by
    rcases look i with ⟨h1, _⟩ | ⟨j, c1, m1, c', m', h1, h2, h3, h4⟩
    · rw [h1] at e1; exact ⟨i, c, m, e1, n, e2⟩
    · rw [h4] at e1; cases e1; exact ⟨i, c1, m, h2, n, e2⟩
  -- an object that no argument lends is as it was
  have stay : ∀ {i : Nat} {c : Cont} {m : Md} {a : Addr}, ρ[i]? = some (.ow c m) → σ[i]? = some (some (.ref a)) → (∀ (j : Nat), xs[j]? = some (.sl i) → False) → F a = none → CRep K F H a c → F' a = none ∧ CRep K F' H' a c := fun {i c m a} e1 e2 no nF cr => by
    obtain ⟨o, ho⟩ := cr.some
    have nOw : ¬ Ow (vs.map some) as a := fun ⟨j, c1, m1, q1, q2⟩ => by
      rcases arg_owner rl h q1 q2 with ⟨_, _, _, _, _, _, z⟩ | ⟨i', m0, z1, z2, z3, _⟩
      · exact z ⟨i, c, m, e1, e2⟩
      · have := sr.dist i i' _ _ _ _ a e1 z2 e2 z3
        subst this
        exact no j z1
    refine ⟨?_, cr.mono (.of ev'.ext) ((ev'.keep a o ho fun z => nOw z.ow).trans ho.symm)⟩
    cases hF : F' a with
    | none => rfl
    | some u =>
      rcases ev'.newF a nF (by rw [hF]; simp) with z | z
      · rw [ho] at z; cases z
      · exact absurd z nOw
  refine ⟨⟨by rw [putBack_len]; exact sr.len, s'.sub, fun i s e => ?_, fun i j c m c' m' a e1 e2 e3 e4 => ?_⟩, ⟨ev.ext.trans ev'.ext, fun a o e n => ?_, fun a e n => ?_, fun a e => ev'.dom a (ev.dom a e), fun i c m e n => ?_, fun a z => ev.own' a (owB z), fun a z => ev.mt' a (mtB z)⟩⟩
  · rcases look i with ⟨h1, h2⟩ | ⟨j, c1, m1, c', m', h1, h2, h3, h4⟩
    · rw [h1] at e
      obtain ⟨ov, g1, g2⟩ := sr.slot i s e
      refine ⟨ov, g1, ?_⟩
      cases s with
      | un => trivial
      | d x => obtain ⟨v, q, r⟩ := g2; exact ⟨v, q, r.mono (.of ev'.ext)⟩
      | ow c m =>
        obtain ⟨a, q, nF, cr⟩ := g2
        subst q
        obtain ⟨z1, z2⟩ := stay e g1 (fun j hj => h2 j c m hj e) nF cr
        exact ⟨a, rfl, z1, z2⟩
    · rw [h4] at e
      cases e
      obtain ⟨ov, g1, a, g2, _⟩ := sr.slot i _ h2
      subst g2
      obtain ⟨ov', w1, a', w2, w3, w4⟩ := s'.slot j _ h3
      subst w2
      rw [vj h1 g1] at w1
      cases w1
      exact ⟨_, g1, a, rfl, w3, w4⟩
  · have o1 : ∀ {i : Nat} {c : Cont} {m : Md}, (putBack ρ xs as')[i]? = some (.ow c m) → ∃ c1 m1, ρ[i]? = some (.ow c1 m1) := fun {i c m} e => by
      rcases look i with ⟨h1, _⟩ | ⟨j, c1, m1, c', m', h1, h2, h3, h4⟩
      · rw [h1] at e; exact ⟨c, m, e⟩
      · exact ⟨c1, m1, h2⟩
    obtain ⟨c1, m1, q1⟩ := o1 e1
    obtain ⟨c2, m2, q2⟩ := o1 e2
    exact sr.dist i j c1 m1 c2 m2 a q1 q2 e3 e4
  · refine ev'.keep a o (ev.keep a o e n) fun ⟨j, c, m, q1, nm, q2⟩ => ?_
    rcases arg_owner rl h q1 q2 with ⟨_, _, _, z, _⟩ | ⟨i, m0, z1, z2, z3, z4⟩
    · rw [e] at z; cases z
    · have hm : m0 ≠ .lck := by
        rcases z4 with ⟨rfl, _⟩ | ⟨rfl, _⟩
        · decide
        · exact nm
      rcases ev.mt' a ⟨i, c, m0, z2, hm, z3⟩ with z | z
      · rw [e] at z; cases z
      · exact n z
  · by_cases hF : F a = none
    · rcases ev'.newF a hF n with z | ⟨j, c, m, q1, q2⟩
      · cases hH : H0 a with
        | none => exact .inl rfl
        | some o => exact absurd z (ev.dom a (by rw [hH]; simp))
      · rcases arg_owner rl h q1 q2 with ⟨_, _, _, z, _⟩ | ⟨i, m0, z1, z2, z3, z4⟩
        · exact .inl z
        · exact ev.own' a ⟨i, c, m0, z2, z3⟩
    · exact ev.newF a e hF
  · obtain ⟨b1, c1, b2, b3⟩ := ev.bor i c m e n
    refine ⟨rfl, ?_⟩
    rcases look i with ⟨h1, _⟩ | ⟨j, c2, m2, c', m', h1, h2, h3, h4⟩
    · exact ⟨c1, by rw [h1]; exact b2, b3⟩
    · rw [b2] at h2
      cases h2
      obtain ⟨c3, m3, q1, q2⟩ := lent h1 b2
      rw [h3] at q1
      cases q1
      exact ⟨c', h4, fun z => (q2 z).trans (b3 z)⟩
end
section
variable {X : Cx} {W : WX} {e : Expr} {es : List Expr} {g : M (List Val)} {pos p : Pos} {x : Str} {k : Nat} {f : Addr} {fd : FuncData} {ps : List Str} {Fm : FM}
/-- the callee's promise, at a state of the caller -/
theorem call_ok {σ : L2.St} {ρ0 : DEnv} {F0 H0 F H : Hp} {ρ : DEnv} {vs : List V} {xs : List Val} {Q : VK} {E : XK} (sr : SR X.K F H σ ρ) (ev : Ev σ ρ0 F0 H0 σ ρ F H) (rl : VRL X.K σ H0 F H ρ vs xs) (hn : xs.length = ps.length)
    (h : Out X.K X.mg E (relV X.K σ) σ ρ0 F0 H0 (callF Fm xs ρ) Q) : spD X.K X.mg ps.length Fm vs H Q E := by
  unfold callF at h
  cases ha : argSlots ρ xs with
  | none => rw [ha] at h; exact h.elim
  | some as =>
    rw [ha] at h
    dsimp only at h
    split at h
    · rename_i hl
      refine ⟨F, as, args_sr sr rl ha hl, by rw [argSlots_len ha]; exact hn, ?_⟩
      cases hf : Fm as with
      | bad => rw [hf] at h; exact h.elim
      | ex x as' =>
        rw [hf] at h
        exact fun c d F' H' s' ev' r => let ⟨s2, ev2⟩ := back_ok sr ev rl ha hl s' ev'; h c d F' H' s2 ev2 r
      | ret x as' =>
        rw [hf] at h
        refine fun v F' H' s' ev' r => let ⟨s2, ev2⟩ := back_ok sr ev rl ha hl s' ev'; h v F' H' s2 ev2 ?_
        cases x with
        | d d => exact r
        | sl i => exact r.elim
        | fr c =>
          obtain ⟨q, rfl, hnew, nF, cr, no⟩ := r
          have new : H0 q = none ∧ ¬ Ow σ ρ q := by
            rcases hnew with z | ⟨j, c0, z1, z2⟩
            · refine ⟨?_, fun ⟨i, c', m', w1, w2⟩ => ?_⟩
              · cases hH : H0 q with
                | none => rfl
                | some o => exact absurd z (ev.dom q (by rw [hH]; simp))
              · obtain ⟨ov, g1, a, g2, _, g4⟩ := sr.slot i _ w1
                rw [w2] at g1; cases g1; cases g2
                obtain ⟨o, ho⟩ := g4.some
                rw [z] at ho; cases ho
            · rcases arg_owner rl ha z1 z2 with ⟨_, _, _, w, _, _, w2⟩ | ⟨i, m0, _, _, _, w | w⟩
              · exact ⟨w, w2⟩
              · cases w.2
              · exact absurd rfl w.2
          refine ⟨q, rfl, new.1, nF, cr, fun ⟨i, c', m', w1, w2⟩ => new.2 ?_⟩
          rcases putBack_get (ρ := ρ) (i := i) (xs := xs) (ss := as') hl with ⟨h1, _⟩ | ⟨j, c1, m1, c2, m2, h1, h2, h3, h4⟩
          · rw [h1] at w1; exact ⟨i, c', m', w1, w2⟩
          · exact ⟨i, c1, m1, h2, w2⟩
    · exact h.elim
theorem run_gfn {pins : List (Addr × Obj)} {σ : L2.St} {H : Hp} {s : Shared} {Q : VK} {args : Args} {us : List Value} {vs : List V} {E : XK} (G : GFn X.prog X.w X.K X.mg X.base k f fd ps Fm) (hr : Room k X.A) (hG : X.A.guards = some []) (tk : Takes X W) (hW : ∀ cls d H, E cls d H → W cls d σ H) (I : Inv X pins σ H s) (hb : BindsTo s fd args (ps.zip us)) (r : Vals vs us) (h : spD X.K X.mg ps.length Fm vs H Q E) :
    codeAny (model X.prog X.w) X.A (.call (.ref f) args) (fun r s' => match r with | .ok (.ret u) => EP X pins σ Q u s' | .ok _ => False | .error e => X.xe e s') s := by
  refine codeAny_mono (G.run X.A X.stack s H args us vs Q E hr hG I.env0 hb r h) fun r s' hq => ?_
  cases r with
  | error e => exact tk e s' (XE.of_call I (fun cls d H' h => hW cls d H' h) hq)
  | ok fl =>
    cases fl with
    | ret u => exact I.after hq
    | next => exact hq
    | brk => exact hq
    | cont => exact hq
theorem relL_from {σ : L2.St} {ρ ρ1 : DEnv} {F H F1 H1 : Hp} (ev : Ev σ ρ F H σ ρ1 F1 H1) : ∀ F' H' ρ' v x, relL X.K σ H1 F' H' ρ' v x → relL X.K σ H F' H' ρ' v x := relL_base ev
/-- f(e, ..), every parameter given by its place -/
theorem de_call (G : GFn X.prog X.w X.K X.mg X.base k f fd ps Fm) (hr : Room k X.A) (hG : X.A.guards = some []) (tk : Takes X W) (hg : Gl X x) (hm : X.mg x = some (.ref f)) (hk : PySem.W.keepIn X.K (.ref f) = true) (hb : Binds X.K fd ps []) (ha : DA X W (e :: es) g) (hn : ∀ ρ xs ρ', g ρ = .ok xs ρ' → xs.length = ps.length)
    (hdb : (x == ("__debug__" : Str)) = false := by decide) (he : starEach (e :: es) X.env = (false, eval e X.env) :: starEach es X.env := by rfl) (hpl : (backTo pos (starEach es X.env)).any (·.1) = false := by rfl) : DE X W (.Call (.Name x p) (e :: es) [] pos) (eCall Fm g) := by
  refine ⟨fun pins s σ H Q I hq => ?_⟩
  obtain ⟨F, ρ, sr, q⟩ := hq
  refine wpAny_Call_Name_kw (ld_glob I hg hm (PySem.W.callWith_K (h₀ := X.base) I.ok.mod.kin hk (thn (ha.run pos pins s σ H _ I ⟨F, ρ, sr, Out.bind (rel := relL X.K σ) q⟩) fun us s1 ⟨vs, H1, I1, r, xs, F1, ρ1, e1, s2, ev1, r1, o1⟩ => ⟨I1.kIn, wpAny_call ?_⟩) he hpl) hdb)
  have hl : xs.length = ps.length := hn _ _ _ e1
  have hu : us.length = ps.length := by rw [← r.length, r1.all.length, hl]
  have hb' : BindsTo s1 fd ⟨us, []⟩ (ps.zip us) := by
    have := hb s1 us I1.kIn (by rw [List.append_nil]; exact hu)
    rw [List.append_nil] at this
    exact this
  exact run_gfn G hr hG tk (fun _ _ _ h => h) I1 hb' r (call_ok s2 ev1 r1 hl o1)
/-- f() -/
theorem de_call0 (G : GFn X.prog X.w X.K X.mg X.base k f fd [] Fm) (hr : Room k X.A) (hG : X.A.guards = some []) (tk : Takes X W) (hg : Gl X x) (hm : X.mg x = some (.ref f)) (hk : PySem.W.keepIn X.K (.ref f) = true) (hb : Binds X.K fd [] []) (hdb : (x == ("__debug__" : Str)) = false := by decide) : DE X W (.Call (.Name x p) [] [] pos) (eCall Fm aNil) := by
  refine ⟨fun pins s σ H Q I hq => ?_⟩
  obtain ⟨F, ρ, sr, q⟩ := hq
  refine wpAny_Call_Name_kw (ld_glob I hg hm (PySem.W.callWith_K0 I.kIn hk (wpAny_call ?_)) hdb)
  have hb' : BindsTo s fd ⟨[], []⟩ (([] : List Str).zip []) := hb s [] I.kIn rfl
  have q : Out X.K X.mg (fun c d H => W c d σ H) (relV X.K σ) σ ρ F H (callF Fm [] ρ) Q := q
  exact run_gfn G hr hG tk (fun _ _ _ h => h) I hb' .nil (call_ok sr .refl ⟨.nil, fun i j c c' p h => by simp at h⟩ rfl q)

/-! ### keywords -/
def DK (X : Cx) (W : WX) (kws : List Keyword) (g : M (List Val)) : Prop := PK X kws (tA X.K X.mg W g)
theorem pk_conseq {kws : List Keyword} {t t' : TA} (h : PK X kws t) (c : ∀ σ H Q, t' σ H Q → t σ H Q) : PK X kws t' := ⟨fun pos pins s σ H Q I q => h.run pos pins s σ H Q I (c _ _ _ q)⟩
theorem dk_nil : DK X W [] aNil := pk_conseq pk_nil fun σ H Q hq => by
  obtain ⟨F, ρ, sr, q⟩ := hq
  exact q [] F H sr .refl ⟨.nil, fun i j c c' p h => by simp at h⟩
theorem dk_cons {f : EM} {nm : Option Str} {kpos : Pos} {kws : List Keyword} (ha : DE X W e f) (hb : DK X W kws g) : DK X W (⟨nm, e, kpos⟩ :: kws) (aCons f g) := pk_conseq (pk_cons ha hb) fun σ H Q hq => aCons_read hq
/-- the values by the parameters' places -/
def selL {α : Type} (idx : List Nat) (xs : List α) : Option (List α) := match idx with
  | [] => some []
  | i :: is => match xs[i]?, selL is xs with
    | some x, some ys => some (x :: ys)
    | _, _ => none
theorem selL_len {α : Type} : ∀ {idx : List Nat} {xs ys : List α}, selL idx xs = some ys → ys.length = idx.length
  | [], xs, ys, h => by cases h; rfl
  | i :: is, xs, ys, h => by
    unfold selL at h
    cases h1 : xs[i]? with
    | none => rw [h1] at h; cases h
    | some x =>
      cases h2 : selL is xs with
      | none => rw [h1, h2] at h; cases h
      | some zs => rw [h1, h2] at h; cases h; rw [List.length_cons, List.length_cons, selL_len h2]
theorem selL_get {α : Type} : ∀ {idx : List Nat} {xs ys : List α} {j : Nat} {y : α}, selL idx xs = some ys → ys[j]? = some y → ∃ i, idx[j]? = some i ∧ xs[i]? = some y
  | [], xs, ys, j, y, h, e => by cases h; simp at e
  | i :: is, xs, ys, j, y, h, e => by
    unfold selL at h
    cases h1 : xs[i]? with
    | none => rw [h1] at h; cases h
    | some x =>
      cases h2 : selL is xs with
      | none => rw [h1, h2] at h; cases h
      | some zs =>
        rw [h1, h2] at h; cases h
        cases j with
        | zero => exact ⟨i, rfl, by rw [h1]; simpa using e⟩
        | succ j =>
          obtain ⟨i', h3, h4⟩ := selL_get (j := j) h2 (by simpa using e)
          exact ⟨i', by simpa using h3, h4⟩
theorem selL_paired {α β : Type} {G : α → β → Prop} : ∀ {idx : List Nat} {l : List α} {m : List β} {ys : List β}, Paired G l m → selL idx m = some ys → ∃ zs, selL idx l = some zs ∧ Paired G zs ys
  | [], l, m, ys, p, h => by cases h; exact ⟨[], rfl, .nil⟩
  | i :: is, l, m, ys, p, h => by
    unfold selL at h
    cases h1 : m[i]? with
    | none => rw [h1] at h; cases h
    | some x =>
      cases h2 : selL is m with
      | none => rw [h1, h2] at h; cases h
      | some ws =>
        rw [h1, h2] at h; cases h
        obtain ⟨a, h3, h4⟩ := paired_at p h1
        obtain ⟨zs, h5, h6⟩ := selL_paired p h2
        exact ⟨a :: zs, by unfold selL; rw [h3, h5], .cons h4 h6⟩
theorem paired_app {α β : Type} {G : α → β → Prop} : ∀ {l l' : List α} {m m' : List β}, Paired G l m → Paired G l' m' → Paired G (l ++ l') (m ++ m')
  | _, _, _, _, .nil, q => q
  | _, _, _, _, .cons a b, q => .cons a (paired_app b q)
theorem vrl_app {K : PySem.W.Frag} {σ : L2.St} {ρ1 ρ2 : DEnv} {H0 F1 H1 F2 H2 : Hp} {vs us : List V} {xs ys : List Val} (r1 : VRL K σ H0 F1 H1 ρ1 vs xs) (ev : Ev σ ρ1 F1 H1 σ ρ2 F2 H2) (r2 : VRL K σ H1 F2 H2 ρ2 us ys) (dom : ∀ a, H0 a ≠ none → H1 a ≠ none) : VRL K σ H0 F2 H2 ρ2 (vs ++ us) (xs ++ ys) := by
  have p1 : Paired (VR K σ H0 F2 H2 ρ2) vs xs := by
    have := r1.all
    clear r1 r2
    induction this with
    | nil => exact .nil
    | cons a b ih => exact .cons (VR.ev a ev) ih
  have p2 : Paired (VR K σ H0 F2 H2 ρ2) us ys := by
    have := r2.all
    clear r1 r2 p1
    induction this with
    | nil => exact .nil
    | cons a b ih => exact .cons (VR.base a dom) ih
  have hl : vs.length = xs.length := r1.all.length
  have old : ∀ {i : Nat} {c : Cont} {p : Addr}, xs[i]? = some (.fr c) → vs[i]? = some (.ref p) → H1 p ≠ none := fun {i c p} e1 e2 => by
    obtain ⟨p', e, _, _, cr, _⟩ := paired_get r1.all e2 e1
    cases e
    obtain ⟨o, ho⟩ := cr.some
    rw [ho]; simp
  have new : ∀ {i : Nat} {c : Cont} {p : Addr}, ys[i]? = some (.fr c) → us[i]? = some (.ref p) → H1 p = none := fun {i c p} e1 e2 => by
    obtain ⟨p', e, n, _⟩ := paired_get r2.all e2 e1
    cases e
    exact n
  refine ⟨paired_app p1 p2, fun i j c c' p h1 h2 h3 h4 => ?_⟩
  by_cases hi : i < xs.length
  · rw [List.getElem?_append_left hi] at h1
    rw [List.getElem?_append_left (by omega)] at h3
    by_cases hj : j < xs.length
    · rw [List.getElem?_append_left hj] at h2
      rw [List.getElem?_append_left (by omega)] at h4
      exact r1.frs i j c c' p h1 h2 h3 h4
    · rw [List.getElem?_append_right (by omega)] at h2
      rw [List.getElem?_append_right (by omega), hl] at h4
      exact absurd (new h2 h4) (old h1 h3)
  · rw [List.getElem?_append_right (by omega)] at h1
    rw [List.getElem?_append_right (by omega), hl] at h3
    by_cases hj : j < xs.length
    · rw [List.getElem?_append_left hj] at h2
      rw [List.getElem?_append_left (by omega)] at h4
      exact absurd (new h1 h3) (old h2 h4)
    · rw [List.getElem?_append_right (by omega)] at h2
      rw [List.getElem?_append_right (by omega), hl] at h4
      have := r2.frs _ _ c c' p h1 h2 h3 h4
      omega
theorem nodup_at : ∀ {l : List Nat} {i j x : Nat}, l.Nodup → l[i]? = some x → l[j]? = some x → i = j
  | [], i, j, x, _, e, _ => by simp at e
  | a :: l, i, j, x, nd, e1, e2 => by
    rw [List.nodup_cons] at nd
    cases i with
    | zero => cases j with
      | zero => rfl
      | succ j =>
        have e1 : a = x := by simpa using e1
        subst e1
        exact absurd (List.mem_of_getElem? (i := j) (by simpa using e2)) nd.1
    | succ i => cases j with
      | zero =>
        have e2 : a = x := by simpa using e2
        subst e2
        exact absurd (List.mem_of_getElem? (i := i) (by simpa using e1)) nd.1
      | succ j => exact congrArg (· + 1) (nodup_at nd.2 (by simpa using e1) (by simpa using e2))
theorem vrl_sel {K : PySem.W.Frag} {σ : L2.St} {ρ : DEnv} {H0 F H : Hp} {vs : List V} {xs ys : List Val} {idx : List Nat} (r : VRL K σ H0 F H ρ vs xs) (nd : idx.Nodup) (h : selL idx xs = some ys) : ∃ us, selL idx vs = some us ∧ VRL K σ H0 F H ρ us ys := by
  obtain ⟨us, h1, h2⟩ := selL_paired r.all h
  refine ⟨us, h1, h2, fun i j c c' p e1 e2 e3 e4 => ?_⟩
  obtain ⟨a, q1, q2⟩ := selL_get h e1
  obtain ⟨b, q3, q4⟩ := selL_get h e2
  obtain ⟨a', w1, w2⟩ := selL_get h1 e3
  obtain ⟨b', w3, w4⟩ := selL_get h1 e4
  rw [q1] at w1; cases w1
  rw [q3] at w3; cases w3
  have := r.frs a b c c' p q2 q4 w2 w4
  subst this
  exact nodup_at nd q1 q3
def eCallK (idx : List Nat) (Fm : FM) (g gk : M (List Val)) : EM := fun ρ => (g ρ).bind fun xs ρ1 => (gk ρ1).bind fun ys ρ2 => match selL idx (xs ++ ys) with
  | some zs => callF Fm zs ρ2
  | none => .bad
/-- how a call with keywords binds, every parameter given -/
def KwB (K : PySem.W.Frag) (fd : FuncData) (ps : List Str) (n : Nat) (ks : List Str) (idx : List Nat) : Prop :=
  ∀ (s : Shared) (us ws : List Value), K.In s.heap → us.length = n → ws.length = ks.length → ∃ zs, selL idx (us ++ ws) = some zs ∧ BindsTo s fd ⟨us, ks.zip ws⟩ (ps.zip zs)
section
variable {gk : M (List Val)} {kws : List Keyword} {ks : List Str} {idx : List Nat} {n : Nat}
theorem kw_run {pins : List (Addr × Obj)} {σ : L2.St} {H1 : Hp} {s2 : Shared} {Q : VK} {us ws : List Value} {vs ms : List V} {H F1 F2 H2 F : Hp} {ρ ρ1 ρ2 : DEnv} {xs ys : List Val} (G : GFn X.prog X.w X.K X.mg X.base k f fd ps Fm) (hr : Room k X.A) (hG : X.A.guards = some []) (tk : Takes X W) (nd : idx.Nodup) (hb : KwB X.K fd ps n ks idx)
    (hps : idx.length = ps.length) (I2 : Inv X pins σ H2 s2) (r : Vals vs us) (rz : Vals ms ws) (ev1 : Ev σ ρ F H σ ρ1 F1 H1) (r1 : VRL X.K σ H F1 H1 ρ1 vs xs) (s2' : SR X.K F2 H2 σ ρ2) (ev2 : Ev σ ρ1 F1 H1 σ ρ2 F2 H2) (r2 : VRL X.K σ H1 F2 H2 ρ2 ms ys) (hn : us.length = n) (hm : ws.length = ks.length)
    (o : Out X.K X.mg (fun c d H => W c d σ H) (relV X.K σ) σ ρ F H (match selL idx (xs ++ ys) with | some zs => callF Fm zs ρ2 | none => .bad) Q) :
    wpAny (model X.prog X.w) X.A (call (.ref f) us (ks.zip ws)) (EP X pins σ Q) X.xe s2 := by
  have all := vrl_app r1 ev2 r2 ev1.dom
  cases hz : selL idx (xs ++ ys) with
  | none => rw [hz] at o; exact o.elim
  | some zs =>
    rw [hz] at o
    obtain ⟨vz, h1, h2⟩ := vrl_sel all nd hz
    obtain ⟨uz, h3, hb'⟩ := hb s2 us ws I2.kIn hn hm
    have rv : Vals vz uz := by
      obtain ⟨vz', h4, h5⟩ := selL_paired (r.append rz) h3
      rw [h1] at h4; cases h4
      exact h5
    refine wpAny_call ?_
    exact run_gfn G hr hG tk (fun _ _ _ h => h) I2 hb' rv (call_ok s2' (ev1.trans ev2) h2 (by rw [selL_len hz]; exact hps) o)
theorem de_callK (G : GFn X.prog X.w X.K X.mg X.base k f fd ps Fm) (hr : Room k X.A) (hG : X.A.guards = some []) (tk : Takes X W) (hg : Gl X x) (hm : X.mg x = some (.ref f)) (hk : PySem.W.keepIn X.K (.ref f) = true) (hb : KwB X.K fd ps n ks idx) (ha : DA X W (e :: es) g) (hkw : DK X W kws gk) (hn : ∀ ρ xs ρ', g ρ = .ok xs ρ' → xs.length = n) (hn2 : ∀ ρ xs ρ', gk ρ = .ok xs ρ' → xs.length = ks.length) (nd : idx.Nodup := by decide) (hps : idx.length = ps.length := by rfl)
    (hall : (backToKw pos (keywordEach kws X.env)).all (·.1.isSome) = true := by rfl) (hks : (backToKw pos (keywordEach kws X.env)).filterMap (·.1) = ks := by rfl)
    (hdb : (x == ("__debug__" : Str)) = false := by decide) (he : starEach (e :: es) X.env = (false, eval e X.env) :: starEach es X.env := by rfl)
    (hpl : ((backTo pos (starEach (e :: es) X.env)).any (·.1) || (backToKw pos (keywordEach kws X.env)).any (·.1.isNone)) = false := by rfl) : DE X W (.Call (.Name x p) (e :: es) kws pos) (eCallK idx Fm g gk) := by
  refine ⟨fun pins s σ H Q I hq => ?_⟩
  obtain ⟨F, ρ, sr, q⟩ := hq
  refine wpAny_Call_Name_kw (ld_glob I hg hm (PySem.W.callWith_KW (h₀ := X.base) I.ok.mod.kin hk hall (thn (ha.run pos pins s σ H _ I ⟨F, ρ, sr, Out.bind (rel := relL X.K σ) q⟩) fun us s1 ⟨vs, H1, I1, r, xs, F1, ρ1, e1, sr1, ev1, r1, o1⟩ => ?_) hpl he) hdb)
  refine thn (hkw.run pos pins s1 σ H1 _ I1 ⟨F1, ρ1, sr1, Out.bind (rel := relL X.K σ) (o1.from ev1 (relV_from ev1))⟩) fun ws s2 ⟨ms, H2, I2, rz, ys, F2, ρ2, e2, sr2, ev2, r2, o2⟩ => ⟨I2.kIn, ?_⟩
  rw [hks]
  rw [e2] at o1
  exact kw_run G hr hG tk nd hb hps I2 r rz ev1 r1 sr2 ev2 r2 (by show us.length = n; rw [← r.length, r1.all.length]; exact hn _ _ _ e1) (by rw [← rz.length, r2.all.length]; exact hn2 _ _ _ e2) o1
theorem de_callK0 (G : GFn X.prog X.w X.K X.mg X.base k f fd ps Fm) (hr : Room k X.A) (hG : X.A.guards = some []) (tk : Takes X W) (hg : Gl X x) (hm : X.mg x = some (.ref f)) (hk : PySem.W.keepIn X.K (.ref f) = true) (hb : KwB X.K fd ps 0 ks idx) (hkw : DK X W kws gk) (hn2 : ∀ ρ xs ρ', gk ρ = .ok xs ρ' → xs.length = ks.length) (nd : idx.Nodup := by decide) (hps : idx.length = ps.length := by rfl)
    (hall : (backToKw pos (keywordEach kws X.env)).all (·.1.isSome) = true := by rfl) (hks : (backToKw pos (keywordEach kws X.env)).filterMap (·.1) = ks := by rfl)
    (hdb : (x == ("__debug__" : Str)) = false := by decide) (hpl : ((backTo pos (starEach [] X.env)).any (·.1) || (backToKw pos (keywordEach kws X.env)).any (·.1.isNone)) = false := by rfl) : DE X W (.Call (.Name x p) [] kws pos) (eCallK idx Fm aNil gk) := by
  refine ⟨fun pins s σ H Q I hq => ?_⟩
  obtain ⟨F, ρ, sr, q⟩ := hq
  have q : Out X.K X.mg (fun c d H => W c d σ H) (relV X.K σ) σ ρ F H ((gk ρ).bind fun ys ρ2 => match selL idx ([] ++ ys) with | some zs => callF Fm zs ρ2 | none => .bad) Q := q
  refine wpAny_Call_Name_kw (ld_glob I hg hm (PySem.W.callWith_KW0 (h₀ := X.base) I.ok.mod.kin hk hall (thn (hkw.run pos pins s σ H _ I ⟨F, ρ, sr, Out.bind (rel := relL X.K σ) q⟩) fun ws s2 ⟨ms, H2, I2, rz, ys, F2, ρ2, e2, sr2, ev2, r2, o2⟩ => ⟨I2.kIn, ?_⟩) hpl) hdb)
  rw [hks]
  rw [e2] at q
  exact kw_run (us := []) (vs := []) (xs := []) G hr hG tk nd hb hps I2 .nil rz .refl ⟨.nil, fun i j c c' p h => by simp at h⟩ sr2 ev2 r2 rfl (by rw [← rz.length, r2.all.length]; exact hn2 _ _ _ e2) q
end
end
end DL
/-! DL14: the law's end. -/
namespace DL
open PySem PySem.Spec PyProof.Rows L2
section
variable {P : Program} {w : World} {K : PySem.W.Frag} {mg mb : Str → Option Value} {k : Nat} {fa a : Addr} {fd : FuncData} {x : Str} {Fm : FM} {s1 : Shared} {vs : List Value} {ns : List Int}
/-- from an abstract heap in which the script alone may be tracked -/
theorem law_core {H : Hp} (KX : K.In s1.heap) (hns : s1.heap.Ns mainGlobals mg) (hb : s1.heap.Ns builtinsNs mb) (hbb : ∀ x : Str, x ≠ "__name__" → mb x = bootBuiltins x) (hlim : s1.heap.NoLimit) (hg : s1.gens = #[])
    (ha : s1.heap.get? a = some { cls := .type "list", data := .seq vs.toArray }) (hr : Room k callerA) (G : ∀ base : Heap, K.In base → base.Ns mainGlobals mg → GFn P w K mg base k fa fd [x] Fm) (hbind : ∀ (s : Shared) (u : Value), BindsTo s fd ⟨[u], []⟩ [(x, u)])
    (hS : SqL K H a (ns.map V.int)) (hok : HOk P w H s1.heap) (hA : ∀ b, H b ≠ none → b = a) (hfz : ∀ b u, H b = some u → ∃ ob xs, u = .frz ob (.lst xs)) (hK : H a ≠ none → K.lookup a = none) (sem : ∃ as', Fm [.d (.scr ns)] = .ret (.d (.bl true)) as') :
    codeAny (model P w) callerA (.call (.ref fa) ⟨[.ref a], []⟩) (fun r s' => r = .ok (.ret (.bool true)) ∧ OldK s1.heap s'.heap ∧ s'.os = s1.os ∧ AllBare s'.gens) s1 := by
  -- what is no list is not tracked
  have free : ∀ {b : Addr} {o : Obj}, s1.heap.get? b = some o → (b = a → False) → H b = none := fun {b o} e n => by
    cases q : H b with
    | none => rfl
    | some u => exact (n (hA b (by rw [q]; simp))).elim
  have dictNe : ∀ {b : Addr} {m : Str → Option Value}, s1.heap.Ns b m → b = a → False := fun {b m} ⟨o, es, ep, e, d, _⟩ z => by
    rw [z, ha] at e
    cases e
    cases d
  have nsT : ∀ {b : Addr} {m : Str → Option Value}, s1.heap.Ns b m → (hidT s1.heap H).Ns b m := fun {b m} h => by
    obtain ⟨o, es, ep, e, r⟩ := id h
    exact ⟨o, es, ep, hidT_get e (free e (dictNe h)), r⟩
  have kT : K.In (hidT s1.heap H) := fun b o e => hidT_get (KX b o e) (by
    cases q : H b with
    | none => rfl
    | some u =>
      have z := hA b (by rw [q]; simp)
      subst z
      rw [hK (by rw [q]; simp)] at e
      cases e)
  obtain ⟨mc, h1, h2⟩ := hlim
  have M : Mod K mg (hidT s1.heap H) := ⟨kT, nsT hns, ⟨mb, nsT hb, hbb⟩, ⟨mc, nsT h1, h2⟩⟩
  have E0 : Env0 P w K mg (hidT s1.heap H) callerA [] s1 H := ⟨rfl, M, fun b o e => of_hidT e, Nat.le_of_eq (hidT_size _ _), trivial, (fun b z => nomatch (show b ∈ ([] : List Addr) from z)), hok, .of_eq hg⟩
  have sp : spD K mg 1 Fm [.ref a] H (fun v _ => v = .bl true) (fun _ _ _ => False) := by
    obtain ⟨as', e⟩ := sem
    refine ⟨H, [.d (.scr ns)], ⟨rfl, .refl _, fun i s q => ?_, fun i j c m c' m' b q => ?_⟩, rfl, ?_⟩
    · cases i with
      | zero => cases q; exact ⟨some (.ref a), rfl, .ref a, rfl, .scr hS⟩
      | succ i => simp at q
    · cases i with
      | zero => cases q
      | succ i => simp at q
    · rw [e]
      intro v F' H' _ _ r
      have r : Rep K F' v (.bl true) := r
      cases r
      rfl
  refine codeAny_mono ((G _ kT (nsT hns)).run callerA [] s1 H ⟨[.ref a], []⟩ [.ref a] [.ref a] _ _ hr rfl E0 (hbind s1 (.ref a)) (.cons rfl .nil) sp) fun r s' h => ?_
  cases r with
  | error e =>
    obtain ⟨_, _, _, _, _, _, _, _, _, _, _, _, z⟩ := h
    exact z.elim
  | ok fl =>
    cases fl with
    | next => exact h.elim
    | brk => exact h.elim
    | cont => exact h.elim
    | ret u =>
      obtain ⟨v, H', os, bare, un, hok', rv, q⟩ := h
      have q : v = .bl true := q
      subst q
      have rv : u = Value.bool true := rv
      subst rv
      refine ⟨rfl, OldK.of_keep fun b o e => ?_, os, bare⟩
      cases q : H b with
      | none => exact un.keep b o e q (by exact fun z => nomatch (show b ∈ ([] : List Addr) from z)) (by simp)
      | some u =>
        obtain ⟨ob, xs, rfl⟩ := hfz b u q
        obtain ⟨e1, _⟩ := hok b _ q
        obtain ⟨e2, _⟩ := hok' b _ (un.frzs b ob _ q)
        rw [e] at e1; cases e1
        exact e2
theorem law_end (KX : K.In s1.heap) (hns : s1.heap.Ns mainGlobals mg) (hb : s1.heap.Ns builtinsNs mb) (hbb : ∀ x : Str, x ≠ "__name__" → mb x = bootBuiltins x) (hlim : s1.heap.NoLimit) (hg : s1.gens = #[])
    (ha : s1.heap.get? a = some { cls := .type "list", data := .seq vs.toArray }) (hi : IntsAre vs ns) (hl : ns.length ≤ sizeLine) (hr : Room k callerA) (G : ∀ base : Heap, K.In base → base.Ns mainGlobals mg → GFn P w K mg base k fa fd [x] Fm) (hbind : ∀ (s : Shared) (u : Value), BindsTo s fd ⟨[u], []⟩ [(x, u)])
    (sem : ∃ as', Fm [.d (.scr ns)] = .ret (.d (.bl true)) as') :
    codeAny (model P w) callerA (.call (.ref fa) ⟨[.ref a], []⟩) (fun r s' => r = .ok (.ret (.bool true)) ∧ OldK s1.heap s'.heap ∧ s'.os = s1.os ∧ AllBare s'.gens) s1 := by
  have rv := vals_ints hi
  have lenV := hi.length
  cases hk : K.lookup a with
  | some o =>
    have e := KX a o hk
    rw [ha] at e
    cases e
    exact law_core (H := fun _ => none) KX hns hb hbb hlim hg ha hr G hbind (.inr ⟨_, vs.toArray, _, hk, rfl, rfl, rfl, by rw [List.size_toArray, lenV]; exact hl, by simpa using rv⟩) (fun b u z => nomatch (show (none : Option HO) = some u from z)) (fun b z => absurd rfl z) (fun b u z => nomatch (show (none : Option HO) = some u from z)) (fun z => absurd rfl z) sem
  | none =>
    let T : HO := .frz { cls := .type "list", data := .seq vs.toArray } (.lst (ns.map V.int))
    have at_a : (fun b => if b = a then some T else none : Hp) a = some T := if_pos rfl
    have only : ∀ b u, (fun b => if b = a then some T else none : Hp) b = some u → b = a ∧ u = T := fun b u z => by
      by_cases hb : b = a
      · exact ⟨hb, by subst hb; rw [at_a] at z; cases z; rfl⟩
      · have z' : (none : Option HO) = some u := (if_neg hb).symm.trans z
        cases z'
    refine law_core (H := fun b => if b = a then some T else none) KX hns hb hbb hlim hg ha hr G hbind (.inl (.inr ⟨_, at_a⟩)) (fun b u z => ?_) (fun b z => ?_) (fun b u z => ⟨_, _, (only b u z).2⟩) (fun _ => hk) sem
    · obtain ⟨rfl, rfl⟩ := only b u z
      exact ⟨ha, by rw [List.length_map]; exact hl, vs, _, rv, ha⟩
    · by_cases hb : b = a
      · exact hb
      · exact absurd (if_neg hb) z
end
/-- the goal that k_head leaves, from the law's promise -/
theorem walk_gfn {l : PySem.W.OpenLaw} {n k : Nat} {q : Program} {loose : List Str} {XP : (Str → Option Value) → Heap → Prop} {YP : World → Heap → Prop} {d : DefRec} {K : Params → PySem.W.Frag} {x : Str} {Fm : FM} (hn : l.most = some n) (hn2 : n ≤ sizeLine) (hdf : d.params.defaults = []) (hr : Room k callerA)
    (hY : ∀ (w : World) (h : Heap), YP w h → (K w.params).In h)
    (G : ∀ (w : World) (mg : Str → Option Value) (fa : Addr) (h : Heap), (K w.params).In h → h.Ns mainGlobals mg → mg d.name = some (.ref fa) → ∃ fd : FuncData, (∀ (s : Shared) (u : Value), BindsTo s fd ⟨[u], []⟩ [(x, u)]) ∧ ∀ base : Heap, (K w.params).In base → base.Ns mainGlobals mg → GFn l.prog w (K w.params) mg base k fa fd [x] Fm)
    (sem : ∀ ns : List Int, ns.length ≤ n → ∃ as', Fm [.d (.scr ns)] = .ret (.d (.bl true)) as') :
    PySem.W.WalkO q loose XP YP l.row.toRowW d [] (fun f vs => PySem.call f vs) := by
  refine Att.attach_call hn hdf fun w s0 s1 mg mb fa o pm cd doc a vs ns Gr Y ho hd hcd hmg hobj hints hlen hg => ?_
  obtain ⟨fd, hb, hF⟩ := G w mg fa _ (hY w _ Y) Gr.T.g hmg
  exact law_end (hY w _ Y) Gr.T.g Gr.T.b Gr.T.builtins Gr.T.nolimit hg hobj hints (Nat.le_trans hlen hn2) hr hF hb (sem ns hlen)
end DL
/-! DL15: repr of data, sorted(set(..)), len(set(..)), list(range(..)). -/
namespace DL
open PySem PySem.Spec PyProof.Rows L2
abbrev nuS (w : World) : Obj := { cls := .type "set", dict := none, data := .set #[] 0 (.fresh 0 0 (!w.params.followText "set-order")) }
section
variable {P : Program} {w : World} {A : Around} {E : Value → Shared → Prop} {s : Shared}
set_option maxHeartbeats 3200000 in
theorem call_set_listI {l : Addr} {items : Array Value} (ns : List Int) {Q : Value → Shared → Prop} (hh : A.handled = none) (hl : s.heap.IsList l items) (hit : IntsAre items.toList ns) (hb : ns.length + 1 < scanBound)
    (h : ∀ (h' : Heap) (tk c : Nat), SetR w h' s.heap.objs.size (fun j => decide (j ∈ ns)) c → c ≤ ns.length → (∀ b o, s.heap.get? b = some o → h'.get? b = some o) → Q (.ref s.heap.objs.size) { s with heap := h', toks := tk }) :
    wpAny (model P w) A (call (.type "set") [.ref l]) Q E s := by
  have zz : items.size = ns.length := by
    have q := IntsAre.length hit
    rw [Array.length_toList] at q
    exact q
  obtain ⟨c, tl, mr⟩ := F.called_set.mro
  have md := F.called_set.made
  have sb := F.called_set.sub
  refine wpAny_call (codeAny_of_tree ?_)
  show wpAny _ _ (callAny (.type "set") _) _ _ _
  refine wpAny_pure ⟨Code.quiet_builtin _ (by decide +kernel), codeAny_builtin F.entry_type_call ?_⟩
  rw [Around.under_plain (weight_type_call_type "set" [.ref l] []) rfl]
  have p1 := F.called_set.notType
  have p2 := F.called_set.canCreate
  have p3 := F.typeCall_set_1 (.ref l)
  repeat (any_goals (first | assumption | wp_step))

  refine codeAny_mono (code_set_led1 (.ref l) (E := E) (Q₁ := fun obj s₁ => obj = .ref s.heap.objs.size ∧ s₁ = { s with heap := s.heap.push (nuS w) }) ⟨rfl, rfl⟩) fun r s₁ hr => ?_
  cases r with
  | error e => exact hr
  | ok fl =>
    cases fl with
    | ret obj =>
      obtain ⟨rfl, rfl⟩ := hr
      have oS : (s.heap.push (nuS w)).get? s.heap.objs.size = some (nuS w) := Heap.get?_push_size _ rfl
      have tS0 : Shared.TypeIs { s with heap := s.heap.push (nuS w) } (.ref s.heap.objs.size) "set" := ⟨_, oS, rfl⟩
      have li0 := F.called_set.init.lookup
      have bi0 := F.called_set.init.bind (.ref s.heap.objs.size)
      repeat (any_goals (first | assumption | wp_step))

      refine codeAny_mono (codeAny_call_builtin (R := wants (fun r s₂ => r = .none ∧ ∃ h' tk c, s₂ = { s with heap := h', toks := tk } ∧ SetR w h' s.heap.objs.size (fun j => decide (j ∈ ns)) c ∧ c ≤ ns.length ∧
          (∀ b o, s.heap.get? b = some o → h'.get? b = some o)) E) F.called_set.init.plain F.entry_set_init (check_set_init_1 tS0 ?_)) fun r₂ s₂ hr₂ => ?_
      · obtain ⟨ol, ol1, cl1, nl, dl1⟩ := hl
        obtain ⟨ocls, odict, odata, oslots⟩ := ol
        simp only at cl1 dl1
        subst cl1; subst dl1
        have hol' : (s.heap.push (nuS w)).get? l = some { cls := .type "list", dict := odict, data := .seq items nl, slots := oslots } := Heap.get?_push_of_some _ ol1
        have f1 := F.sub_list_set
        have f2 := F.sub_list_frozenset
        have nd1 : (Value.type "list" == Value.type "dict") = false := by decide
        have L1 : (s.heap.push (nuS w)).IsList l items := ⟨_, hol', rfl, nl, rfl⟩
        unfold Builtin.«set.__init__» noKeywords Builtin.Frozenset.updateFrom
        generalize hpit : pyIter = pit
        wp_walk
        subst hpit

        refine wpAny_pyIter_list L1 ?_
        refine wpAny_bind (wpAny_runValue ?_)
        have lS0 : l < s.heap.objs.size := Heap.lt_size ol1
        have q3 : A.in1.in1.in1.handled = none := by simp [hh]
        have z1 : (s.heap.push (nuS w)).objs.size = s.heap.objs.size + 1 := Heap.size_push ..
        have nI : l ≠ (s.heap.push (nuS w)).objs.size := by
          rw [Heap.size_push]; exact Nat.ne_of_lt (Nat.lt_succ_of_lt lS0)
        have nf : s.heap.objs.size ∉ [(s.heap.push (nuS w)).objs.size, l] := by
          rw [Heap.size_push]; simp only [List.mem_cons, List.mem_singleton, List.not_mem_nil, or_false, not_or]
          exact ⟨Nat.ne_of_lt (Nat.lt_succ_self _), Nat.ne_of_gt lS0⟩
        have va : ∀ (i : Nat) (v : Value), items[i]? = some v → ∃ k t, ns[i]? = some k ∧ v = .int k t := fun i v hv => by
          have hi : i < ns.length := by rw [← zz]; exact (Array.getElem?_eq_some_iff.mp hv).1
          obtain ⟨t, e⟩ := PyProof.Rows.IntsAre.int_at hit i v (by rw [Array.getElem?_toList]; exact hv)
          refine ⟨ns[i], t, List.getElem?_eq_getElem hi, ?_⟩
          rw [e, List.getD_eq_getElem?_getD, List.getElem?_eq_getElem hi] <;> rfl
        refine set_update_ints ((Walks.list q3 _ l nI items).toS) s.heap.objs.size
          nf ns zz hb va (items.size - 0) 0 _ (by omega) (Nat.zero_le _)
          ⟨⟨_, Heap.get?_push_size _ rfl, rfl, rfl⟩, (L1.push _)⟩ ?hS0 ?hR
        case hS0 =>
          have gt0 : ((s.heap.push (nuS w)).push { cls := .type "list_iterator", data := .fields #[.ref l, .int 0 0] }).get? s.heap.objs.size
              = some (nuS w) := Heap.get?_push_of_some _ oS
          exact ⟨0, Nat.le_refl 0, setR_new_at gt0⟩
        case hR =>
          intro s' c' mv cc1 ss1
          obtain ⟨h', g2, d', tk', os'⟩ := s'
          have eg : g2 = s.gens := mv.gens
          have ed : d' = s.drawn := mv.drawn
          have eo : os' = s.os := mv.os
          subst eg; subst ed; subst eo
          show wpAny _ _ _ _ _ _
          refine wpAny_pure ?_
          show wpAny _ _ (ret Value.none) _ _ _
          rw [zz] at cc1
          refine wpAny_pure ⟨rfl, h', tk', c', rfl, ss1, cc1, fun b o e => ?_⟩
          have b0 : b < s.heap.objs.size := Heap.lt_size e
          have b1 : b ≠ s.heap.objs.size := Nat.ne_of_lt b0
          have b2 : b ≠ (s.heap.push (nuS w)).objs.size := by
            rw [Heap.size_push]; exact Nat.ne_of_lt (Nat.lt_succ_of_lt b0)
          exact mv.heap b o (by simp only [List.mem_cons, List.mem_singleton, List.not_mem_nil, or_false, not_or]; exact ⟨b1, b2⟩) (Heap.get?_push_of_some _ (Heap.get?_push_of_some _ e))

      · cases r₂ with
        | error e => exact hr₂
        | ok fl₂ =>
          cases fl₂ with
          | ret r =>
            obtain ⟨rfl, h', tk, c', rfl, ss1, cc1, hk'⟩ := hr₂
            repeat (any_goals (first | assumption | wp_step))
            exact h _ _ _ ss1 cc1 hk'
          | _ => exact hr₂.elim
    | _ => exact hr.elim
end
end DL
/-! DL16: repr of data, sorted(set(..)), len(set(..)), list(range(..)), names of rules. -/
namespace DL
open PySem PySem.Spec PyProof.Rows L2
theorem hu1_of {k : Nat} {A : Around} (r : Room k A) : A.units + 1 < cLine := by have := r.un; omega
section
variable {X : Cx}
theorem CR_len : CallR X (.builtin "len") (fun xs H Q => (∃ p ys, xs = [.ref p] ∧ (SqL X.K H p ys ∨ SqT X.K H p ys) ∧ Q (.int ys.length) H) ∨ ∃ x n, xs = [x] ∧ LenV X.K x H n ∧ Q (.int n) H) := callr_or call_len_seq call_len
theorem CR_max (hc : X.calm = true := by rfl) : CallR X (.builtin "max") (fun xs H Q => (∃ i j, xs = [.int i, .int j] ∧ Q (.int (if j > i then j else i)) H) ∨ rMax X.K xs H Q) := callr_or (call_max2 hc) (cr_max hc)
theorem CR_min (hc : X.calm = true := by rfl) : CallR X (.builtin "min") (fun xs H Q => (∃ i j, xs = [.int i, .int j] ∧ Q (.int (if j < i then j else i)) H) ∨ rMin X.K xs H Q) := callr_or (call_min2 hc) (cr_min hc)
end
/-! ### repr -/
def reprD1 (a : D) : Option Val := match a.toPy with
  | some p => if p.showable = true ∧ p.hasDict = false ∧ p.depth ≤ 60 ∧ p.shown.length ≤ sizeLine then some (.d (.str p.shown)) else none
  | none => none
def reprD : List D → Option Val
  | [.tup xs] => reprD1 (.tup xs)
  | [.lst xs] => reprD1 (.lst xs)
  | [.int i] => if i.natAbs.log2 < 1920 then some (.d (.str (toString i))) else none
  | _ => none
def rReprD (K : PySem.W.Frag) : List V → Hp → VK → Prop := fun xs H Q => ∃ a p, xs = [.ref a] ∧ Dp K H (.ref a) p ∧ p.showable = true ∧ p.hasDict = false ∧ p.depth ≤ 60 ∧ p.shown.length ≤ sizeLine ∧ Q (.str p.shown) H
section
variable {X : Cx}
theorem call_repr_data (hG : X.A.guards = some []) (hu : X.A.units + 64 < cLine) : CallR X (.builtin "repr") (rReprD X.K) := by
  intro pins s σ H xs us Q I r h
  obtain ⟨a, p, rfl, dp, h1, h2, h3, h4, q⟩ := h
  rw [Vals.ref1 r]
  obtain ⟨as, rd⟩ := Dp.reads I p _ _ dp rfl
  exact PySem.repr_of_reads' rd h1 (fun e => by rw [h2] at e; cases e) hG (by omega) (fun _ _ e => e) (fun h' u tk k => ⟨.str p.shown, H, I.kept k, ⟨u, rfl⟩, q⟩) h4
theorem CR_repr (hG : X.A.guards = some []) (hu : X.A.units + 64 < cLine) : CallR X (.builtin "repr") (fun xs H Q => rReprD X.K xs H Q ∨ ∃ i, xs = [.int i] ∧ i.natAbs.log2 < 1920 ∧ Q (.str (toString i)) H) := callr_or (call_repr_data hG hu) SkE.call_repr_int
end
section
variable {K : PySem.W.Frag}
theorem reprD1_ok {F H : Hp} {v : V} {a : D} {z : Val} {Q : VK} (s : Same F H) (r : RepT K F H v a) (hv : ∃ p, v = .ref p) (e : reprD1 a = some z) (q : ∀ u F' H', Gr F H F' H' → VN K H F' H' u z → Q u H') : rReprD K [v] H Q := by
  unfold reprD1 at e
  split at e
  · rename_i p hp
    split at e
    · rename_i c
      cases e
      obtain ⟨a, rfl⟩ := hv
      exact ⟨a, p, rfl, (r.rep (toPy_nd hp) s).dp hp, c.1, c.2.1, c.2.2.1, c.2.2.2, vn_str s q⟩
    · cases e
  · cases e
theorem cs_repr : CallS K (fun xs H Q => rReprD K xs H Q ∨ ∃ i, xs = [.int i] ∧ i.natAbs.log2 < 1920 ∧ Q (.str (toString i)) H) reprD := by
  intro F H vs as z Q s ra e q
  unfold reprD at e
  split at e
  · obtain ⟨v, rfl, r⟩ := rep1 ra
    obtain ⟨p, xs, rfl, _⟩ := r.tup s
    exact .inl (reprD1_ok s r ⟨p, rfl⟩ e q)
  · obtain ⟨v, rfl, r⟩ := rep1 ra
    obtain ⟨p, xs, rfl, _⟩ := r.lst
    exact .inl (reprD1_ok s r ⟨p, rfl⟩ e q)
  · obtain ⟨v, rfl, r⟩ := rep1 ra
    obtain rfl := r.int
    split at e
    · rename_i h
      cases e
      exact .inr ⟨_, rfl, h, vn_str s q⟩
    · cases e
  · cases e
end
/-! ### sorted(set(..)) -/
section
variable {P : Program} {w : World} {A : Around} {E : Value → Shared → Prop} {s : Shared} {a : Addr}
theorem sorted_setN {S : Int → Bool} {n : Nat} {Q : Value → Shared → Prop} (R : SetR w s.heap a S n) (hh : A.handled = none)
    (hQ : ∀ s' p (out : Array Value) (c : Nat) (ns : List Int), (∀ b o, s.heap.get? b = some o → s'.heap.get? b = some o) → s'.gens = s.gens → s'.os = s.os → s.heap.objs.size ≤ p → s'.heap.get? p = some (seqObj "list" out c) → IntsAre out.toList ns → ns.Pairwise (· < ·) → (∀ k, k ∈ ns ↔ S k = true) → ns.length = n → n < scanBound → Q (.ref p) s') :
    wpAny (model P w) A (call (.builtin "sorted") [.ref a]) Q E s := by
  obtain ⟨o, es, ep, t, ho, hex, hd, g, nd, hm, hb, hf, hn, hr, hl⟩ := R
  refine Calls.call_function_entry kind_sorted plain_sorted entry_sorted (args_sorted1 _) ?_
  unfold Builtin.«sorted»
  refine wpAny_bind (m := checkCount "sorted" 1 1 _) (wpAny_pure ?_)
  refine wpAny_bind (collect_set (A := A.in1) hh ⟨o, ho, hex.1, hd⟩ hf hb hr hl fun s1 vs k1 hz g1 o1 pm => ?_)
  have lv : vs.length = n := by rw [pm.length_eq, List.length_map, Array.length_toList]; exact hn
  have hsz : vs.length ≤ sizeLine := by rw [lv, ← hn]; exact fits_of_scanBound hb
  have hI0 : IntsAre vs (vs.map Builtin.Re.reRawOf) := L2.ints_of vs fun v hv => by
    obtain ⟨e, he, q⟩ := List.mem_map.mp (pm.mem_iff.mp hv)
    obtain ⟨k, tk, e1, _⟩ := g e he
    exact ⟨k, tk, by rw [← q]; exact e1⟩
  have pk : (vs.map Builtin.Re.reRawOf).Perm (es.toList.map keyOf) := by
    have q := pm.map Builtin.Re.reRawOf
    rw [List.map_map] at q
    exact q
  refine wpAny_bind (wpAny_newList ?_ hsz)
  have oL : (s1.heap.push (seqObj "list" vs.toArray 0)).get? s1.heap.objs.size = some (seqObj "list" vs.toArray 0) := Heap.get?_push_size _ rfl
  refine wpAny_bind (wpAny_holding (wpAny_call_entry slot_list_sort ⟨_, oL, rfl⟩ entry_list_sort (SrtO.list_sort_ord SrtO.swo_int oL hsz (fun h2 => SrtO.ints_sortable hI0 h2) fun out e1 e2 => ⟨_, rfl, ?_⟩) (args_list_sort _)))
  obtain ⟨k2, k3, k4⟩ := SrtO.ints_out hI0 e1 e2
  obtain ⟨c, hc⟩ := sortedHeap_at (vs := vs) (out := out.toArray) oL
  have pn : (out.map SrtO.iv).Perm (es.toList.map keyOf) := k3.trans pk
  refine wpAny_pure ⟨_, rfl, hQ _ s1.heap.objs.size out.toArray c _ (fun b u e => ?_) g1 o1 hz hc (by simpa using k2) (lt_of_le_nodup _ k4 (pn.nodup_iff.mpr nd)) (fun k => by rw [pn.mem_iff, ← hm k]) ?_ (hn ▸ hb)⟩
  · have q := k1 b u e
    have lt1 := Heap.lt_size q
    show (sortedHeap (s1.heap.push (seqObj "list" vs.toArray 0)) s1.heap.objs.size vs out.toArray).get? b = some u
    rw [sortedHeap_old (Nat.ne_of_lt lt1) (by rw [Heap.size_push]; exact Nat.lt_succ_of_lt lt1)]
    exact Heap.get?_push_of_some _ q
  · rw [pn.length_eq, List.length_map, Array.length_toList]; exact hn
end
/-- the ints, ascending, each once -/
def insI (k : Int) : List Int → List Int
  | [] => [k]
  | x :: xs => if k < x then k :: x :: xs else if k = x then x :: xs else x :: insI k xs
def sortSetI : List Int → List Int
  | [] => []
  | k :: ks => insI k (sortSetI ks)
theorem mem_insI {k y : Int} : ∀ {xs : List Int}, y ∈ insI k xs ↔ y = k ∨ y ∈ xs
  | [] => by simp [insI]
  | x :: xs => by
    unfold insI
    split
    · simp
    · split
      · rename_i h; subst h; simp
      · rw [List.mem_cons, mem_insI, List.mem_cons]
        constructor
        · rintro (h | h | h)
          · exact .inr (.inl h)
          · exact .inl h
          · exact .inr (.inr h)
        · rintro (h | h | h)
          · exact .inr (.inl h)
          · exact .inl h
          · exact .inr (.inr h)
theorem mem_sortSetI {y : Int} : ∀ {xs : List Int}, y ∈ sortSetI xs ↔ y ∈ xs
  | [] => by simp [sortSetI]
  | x :: xs => by unfold sortSetI; rw [mem_insI, mem_sortSetI, List.mem_cons]
theorem insI_pw {k : Int} : ∀ {xs : List Int}, xs.Pairwise (· < ·) → (insI k xs).Pairwise (· < ·)
  | [], _ => List.pairwise_singleton _ _
  | x :: xs, h => by
    obtain ⟨h1, h2⟩ := List.pairwise_cons.mp h
    unfold insI
    split
    · rename_i hk
      refine List.pairwise_cons.mpr ⟨fun y hy => ?_, h⟩
      rcases List.mem_cons.mp hy with rfl | z
      · exact hk
      · have := h1 y z; omega
    · split
      · exact h
      · refine List.pairwise_cons.mpr ⟨fun y hy => ?_, insI_pw h2⟩
        rcases mem_insI.mp hy with rfl | z
        · omega
        · exact h1 y z
theorem sortSetI_pw : ∀ (xs : List Int), (sortSetI xs).Pairwise (· < ·)
  | [] => .nil
  | x :: xs => insI_pw (sortSetI_pw xs)
theorem pw_ext : ∀ {xs ys : List Int}, xs.Pairwise (· < ·) → ys.Pairwise (· < ·) → (∀ k, k ∈ xs ↔ k ∈ ys) → xs = ys
  | [], [], _, _, _ => rfl
  | [], y :: ys, _, _, h => by have := (h y).mpr List.mem_cons_self; simp at this
  | x :: xs, [], _, _, h => by have := (h x).mp List.mem_cons_self; simp at this
  | x :: xs, y :: ys, hx, hy, h => by
    obtain ⟨a1, a2⟩ := List.pairwise_cons.mp hx
    obtain ⟨b1, b2⟩ := List.pairwise_cons.mp hy
    have e : x = y := by
      rcases List.mem_cons.mp ((h x).mp List.mem_cons_self) with z | z
      · exact z
      · rcases List.mem_cons.mp ((h y).mpr List.mem_cons_self) with z' | z'
        · exact z'.symm
        · have := b1 x z; have := a1 y z'; omega
    subst e
    refine congrArg (x :: ·) (pw_ext a2 b2 fun k => ⟨fun hk => ?_, fun hk => ?_⟩)
    · rcases List.mem_cons.mp ((h k).mp (List.mem_cons_of_mem _ hk)) with z | z
      · subst z; exact absurd (a1 _ hk) (by omega)
      · exact z
    · rcases List.mem_cons.mp ((h k).mpr (List.mem_cons_of_mem _ hk)) with z | z
      · subst z; exact absurd (b1 _ hk) (by omega)
      · exact z
def rSetL (K : PySem.W.Frag) (w : World) : List V → Hp → VK → Prop := fun xs H Q => ∃ (l : Addr) (ns : List Int), xs = [.ref l] ∧ SqL K H l (ns.map V.int) ∧ ns.length + 1 < scanBound ∧ ∀ p c, H p = none → Q (.ref p) (upd H p (SetO w p (fun j => decide (j ∈ ns)) c))
section
variable {X : Cx}
theorem cr_setL (hc : X.calm = true) : CallR X (.type "set") (rSetL X.K X.w) := by
  intro pins s σ H vs us Q I r h
  obtain ⟨l, ns, rfl, hs, hb, q⟩ := h
  rw [Vals.ref1 r]
  obtain ⟨its, rv, pl, hz⟩ := I.list hs
  refine call_set_listI ns (I.ok.hd hc) pl.isList (by simpa using rv.ints) hb fun h' tk c R hle k => ?_
  have new : H s.heap.objs.size = none := I.hok.fresh (Nat.le_refl _)
  exact ⟨.ref s.heap.objs.size, _, I.laid (o := SetO X.w s.heap.objs.size (fun j => decide (j ∈ ns)) c) k (Nat.le_refl _) (setO_new R), rfl, q _ c new⟩
def rSortN (w : World) : List V → Hp → VK → Prop := fun vs H Q => ∃ (a : Addr) (S : Int → Bool) (n : Nat), vs = [V.ref a] ∧ H a = some (SetO w a S n) ∧
  ∀ (ns : List Int) (p : Addr), ns.Pairwise (· < ·) → (∀ k : Int, k ∈ ns ↔ S k = true) → H p = none → Q (.ref p) (upd H p (.lst (ns.map V.int)))
theorem cr_sortN (hc : X.calm = true) : CallR X (.builtin "sorted") (rSortN X.w) := by
  intro pins s σ H vs us Q I r h
  obtain ⟨a, S, n, rfl, ha, q⟩ := h
  have R := setO_get I ha
  rw [Vals.ref1 r]
  refine sorted_setN R (I.ok.hd hc) fun s' p out c ns k g o hp hg hi hs hm hl hb => ?_
  have hlen : (ns.map V.int).length ≤ sizeLine := by rw [List.length_map, hl]; exact fits_of_scanBound hb
  have hn : H p = none := I.hok.fresh hp
  have J : Inv X pins σ (upd H p (.lst (ns.map V.int))) { s with heap := s'.heap, gens := s'.gens, drawn := s'.drawn, toks := s'.toks } :=
    I.call (ch := []) (Un.laid k hp hn) (I.hok.laid k hp ⟨hlen, out.toList, c, vals_of_ints hi, hg⟩) (by rw [g]; exact I.bare) (fun _ z => nomatch z)
  have e : s' = { s with heap := s'.heap, gens := s'.gens, drawn := s'.drawn, toks := s'.toks } := by cases s'; cases s; cases o; rfl
  rw [e]
  exact ⟨.ref p, _, J, rfl, q ns p hs hm hn⟩
variable {E : WX} {a : Expr} {f : EM} {pos p p2 q : Pos}
def setI (x : D) : Option (List Int) := match x with
  | .lst ds => match intsD ds with
    | some ns => if ns.length < 4000 then some ns else none
    | none => none
  | _ => none
def eSortSet (f : EM) : EM := eUn (fun x => (setI x).map fun ns => .fr (.lst ((sortSetI ns).map D.int))) f
theorem same_upd' {F H : Hp} {p : Addr} {o : HO} (s : Same F H) (n : H p = none) : Same F (upd H p o) := fun b u e => by rw [upd_ne (ne_of_none (s _ _ e) n)]; exact s _ _ e
theorem setI_ok {K : PySem.W.Frag} {F H : Hp} {v : V} {x : D} {ns : List Int} (e : setI x = some ns) (r : RepT K F H v x) : ∃ l, v = .ref l ∧ SqL K H l (ns.map V.int) ∧ ns.length + 1 < scanBound := by
  unfold setI at e
  split at e
  · split at e
    · rename_i ms h
      split at e
      · rename_i hl
        cases e
        obtain ⟨l, xs, rfl, hx, rl⟩ := r.lst
        rw [intsD_ok h] at rl
        rw [rl.intsV] at hx
        exact ⟨l, rfl, .inl (.inl hx), by unfold scanBound; omega⟩
      · cases e
    · cases e
  · cases e
theorem us_sortSet {K : PySem.W.Frag} {w : World} : UnS K (fun v H Q => rSetL K w [v] H fun u H' => rSortN w [u] H' Q) (fun x => (setI x).map fun ns => .fr (.lst ((sortSetI ns).map D.int))) := by
  intro F H v a z Q s r e q
  dsimp only at e
  cases h : setI a with
  | none => rw [h] at e; cases e
  | some ns =>
    rw [h] at e; cases e
    obtain ⟨l, rfl, hs, hb⟩ := setI_ok h r
    refine ⟨l, ns, rfl, hs, hb, fun p c hp => ⟨p, _, c, rfl, upd_same, fun ns' p2 hpw hm hp2 => ?_⟩⟩
    have e2 : ns' = sortSetI ns := pw_ext hpw (sortSetI_pw ns) fun k => by rw [hm k, mem_sortSetI]; exact decide_eq_true_iff
    subst e2
    have ne : p2 ≠ p := fun z => by rw [z, upd_same] at hp2; cases hp2
    rw [upd_ne ne] at hp2
    have hp2' : (upd H p (SetO w p (fun j => decide (j ∈ ns)) c)) p2 = none := by rw [upd_ne ne]; exact hp2
    exact q (.ref p2) F _ ((Gr.fresh s hp).trans (Gr.fresh (same_upd' s hp) hp2')) ⟨p2, rfl, hp2, Same.free s hp2, _, upd_same, .ints⟩
theorem de_sortSet (hc : X.calm = true) (hg : Gl X "sorted") (hm : X.mg "sorted" = none) (hg2 : Gl X "set") (hm2 : X.mg "set" = none) (ha : DE X E a f) (hsa : starEach [a] X.env = (false, eval a X.env) :: starEach [] X.env := by rfl) : DE X E (.Call (.Name "sorted" p) [.Call (.Name "set" p2) [a] [] q] [] pos) (eSortSet f) :=
  pe_conseq (pe_callB (cr_sortN hc) hg hm boot_sorted (pa_cons (pe_callTy (cr_setL hc) hg2 hm2 PyProof.Rows.boot_set (pa_cons ha pa_nil hsa) (he := hsa)) pa_nil (by rfl)) (he := by rfl)) fun _ _ _ => one1 us_sortSet
/-! ### len(set(..)) -/
def rLenN (w : World) : List V → Hp → VK → Prop := fun vs H Q => ∃ (a : Addr) (S : Int → Bool) (n : Nat), vs = [V.ref a] ∧ H a = some (SetO w a S n) ∧ ∀ (ks : List Int), ks.Nodup → (∀ k, k ∈ ks ↔ S k = true) → Q (.int (ks.length : Nat)) H
theorem cr_lenN : CallR X (.builtin "len") (rLenN X.w) := by
  intro pins s σ H vs us Q I r h
  obtain ⟨a, S, n, rfl, ha, q⟩ := h
  obtain ⟨o, es, ep, t, ho, hex, hd, g, nd, hm, hb, hf, hn, hr, hl⟩ := setO_get I ha
  rw [Vals.ref1 r]
  refine call_len_set ho hex hd hf (by unfold scanBound at hb; omega) (show EP X pins σ Q (.int es.size _) _ from ⟨.int ((es.toList.map keyOf).length : Nat), H, I.tok (s.toks + 1 + 1), ⟨s.toks + 1, by rw [List.length_map, Array.length_toList]⟩, q _ nd fun k => (hm k).symm⟩)
def eLenSet (f : EM) : EM := eUn (fun x => (setI x).map fun ns => .d (.int ((sortSetI ns).length : Nat))) f
theorem us_lenSet {K : PySem.W.Frag} {w : World} : UnS K (fun v H Q => rSetL K w [v] H fun u H' => rLenN w [u] H' Q) (fun x => (setI x).map fun ns => .d (.int ((sortSetI ns).length : Nat))) := by
  intro F H v a z Q s r e q
  dsimp only at e
  cases h : setI a with
  | none => rw [h] at e; cases e
  | some ns =>
    rw [h] at e; cases e
    obtain ⟨l, rfl, hs, hb⟩ := setI_ok h r
    refine ⟨l, ns, rfl, hs, hb, fun p c hp => ⟨p, _, c, rfl, upd_same, fun ks nd hm => ?_⟩⟩
    have hn : (sortSetI ns).Nodup := (sortSetI_pw ns).imp fun {a b} h e => by omega
    have pm : ks.Perm (sortSetI ns) := (List.perm_ext_iff_of_nodup nd hn).mpr fun k => by rw [hm k, mem_sortSetI]; exact decide_eq_true_iff
    rw [pm.length_eq]
    exact q _ F _ (Gr.fresh s hp) (.int _)
theorem de_lenSet (hc : X.calm = true) (hg : Gl X "len") (hm : X.mg "len" = none) (hg2 : Gl X "set") (hm2 : X.mg "set" = none) (ha : DE X E a f) (hsa : starEach [a] X.env = (false, eval a X.env) :: starEach [] X.env := by rfl) : DE X E (.Call (.Name "len" p) [.Call (.Name "set" p2) [a] [] q] [] pos) (eLenSet f) :=
  pe_conseq (pe_callB cr_lenN hg hm PySem.boot_len (pa_cons (pe_callTy (cr_setL hc) hg2 hm2 PyProof.Rows.boot_set (pa_cons ha pa_nil hsa) (he := hsa)) pa_nil (by rfl)) (he := by rfl)) fun _ _ _ => one1 us_lenSet
/-! ### list(range(..)), tuple(range(..)) -/
def rgL (i j : Int) : List D := (List.range (j - i).toNat).map fun k => D.int (i + (k : Nat))
def rgIn (i j : Int) : Bool := decide (-1000000000000000000 ≤ i ∧ i ≤ 1000000000000000000 ∧ -1000000000000000000 ≤ j ∧ j ≤ 1000000000000000000 ∧ (j - i).toNat ≤ 10000000)
theorem rgIn_ok {i j : Int} (h : rgIn i j = true) : RgOk i j := by
  have h := of_decide_eq_true h
  unfold RgOk
  refine ⟨?_, ?_, ?_, ?_, ?_⟩
  · have : (-(2 ^ 62) : Int) ≤ -1000000000000000000 := by decide
    omega
  · have : (1000000000000000000 : Int) < 2 ^ 62 := by decide
    omega
  · have : (-(2 ^ 62) : Int) ≤ -1000000000000000000 := by decide
    omega
  · have : (1000000000000000000 : Int) < 2 ^ 62 := by decide
    omega
  · have : 10000000 ≤ 2 ^ 24 := by decide
    omega
theorem rg_rep {K : PySem.W.Frag} {F : Hp} {i j : Int} : RepL K F (rgV i j) (rgL i j) := by
  unfold rgV rgL
  generalize List.range (j - i).toNat = l
  induction l with
  | nil => exact .nil
  | cons x l ih => exact .cons (.int _) ih
def lrgD : D → D → Option Val
  | .int i, .int j => if rgIn i j = true then some (.fr (.lst (rgL i j))) else none
  | _, _ => none
def trgD : D → D → Option Val
  | .int i, .int j => if rgIn i j = true then some (.d (.tup (rgL i j))) else none
  | _, _ => none
def rLrg (i j : Int) : Hp → VK → Prop := fun H Q => RgOk i j ∧ ∀ q, H q = none → Q (.ref q) (upd H q (.lst (rgV i j)))
def rTrg (i j : Int) : Hp → VK → Prop := fun H Q => RgOk i j ∧ ∀ q, H q = none → Q (.ref q) (upd H q (.tup (rgV i j)))
theorem os_lrg {K : PySem.W.Frag} : OpS K (fun x y H Q => ∃ i j, x = .int i ∧ y = .int j ∧ rLrg i j H Q) lrgD := by
  intro F H v w a b z Q s ra rb e q
  unfold lrgD at e
  split at e
  · split at e
    · rename_i h
      cases e
      obtain rfl := ra.int; obtain rfl := rb.int
      exact ⟨_, _, rfl, rfl, rgIn_ok h, fun p n => vn_lst s q rg_rep n⟩
    · cases e
  · cases e
theorem os_trg {K : PySem.W.Frag} : OpS K (fun x y H Q => ∃ i j, x = .int i ∧ y = .int j ∧ rTrg i j H Q) trgD := by
  intro F H v w a b z Q s ra rb e q
  unfold trgD at e
  split at e
  · split at e
    · rename_i h
      cases e
      obtain rfl := ra.int; obtain rfl := rb.int
      exact ⟨_, _, rfl, rfl, rgIn_ok h, fun p n => vn_tup s q rg_rep n⟩
    · cases e
  · cases e
theorem us_lrg {K : PySem.W.Frag} : UnS K (fun x H Q => ∃ j, x = .int j ∧ rLrg 0 j H Q) (fun b => lrgD (.int 0) b) := by
  intro F H v b z Q s rb e q
  obtain ⟨i, j, e1, e2, r⟩ := os_lrg (K := K) F H (.int 0) v (.int 0) b z Q s (show Rep K F (.int 0) (.int 0) from .int 0) rb e q
  cases e1
  exact ⟨j, e2, r⟩
theorem us_trg {K : PySem.W.Frag} : UnS K (fun x H Q => ∃ j, x = .int j ∧ rTrg 0 j H Q) (fun b => trgD (.int 0) b) := by
  intro F H v b z Q s rb e q
  obtain ⟨i, j, e1, e2, r⟩ := os_trg (K := K) F H (.int 0) v (.int 0) b z Q s (show Rep K F (.int 0) (.int 0) from .int 0) rb e q
  cases e1
  exact ⟨j, e2, r⟩
variable {b : Expr} {g : EM}
def eLrg (f : EM) : EM := eUn (fun b => lrgD (.int 0) b) f
def eTrg (f : EM) : EM := eUn (fun b => trgD (.int 0) b) f
theorem de_lrg1 (hc : X.calm = true) (hg : Gl X "list") (hm : X.mg "list" = none) (hg2 : Gl X "range") (hm2 : X.mg "range" = none) (ha : DE X E a f) (hsa : starEach [a] X.env = (false, eval a X.env) :: starEach [] X.env := by rfl) : DE X E (.Call (.Name "list" p) [.Call (.Name "range" p2) [a] [] q] [] pos) (eLrg f) :=
  pe_conseq (pe_listRg hc hg hm (prg_1 hg2 hm2 ha hsa)) fun _ _ _ hq => one1 us_lrg hq
theorem de_lrg2 (hc : X.calm = true) (hg : Gl X "list") (hm : X.mg "list" = none) (hg2 : Gl X "range") (hm2 : X.mg "range" = none) (ha : DE X E a f) (hb : DE X E b g) (hsa : starEach [a, b] X.env = (false, eval a X.env) :: starEach [b] X.env := by rfl) (hsb : starEach [b] X.env = (false, eval b X.env) :: starEach [] X.env := by rfl) : DE X E (.Call (.Name "list" p) [.Call (.Name "range" p2) [a, b] [] q] [] pos) (eOp lrgD f g) :=
  pe_conseq (pe_listRg hc hg hm (prg_2 hg2 hm2 ha hb hsa hsb (by rw [hsb]; rfl))) fun _ _ _ hq => two os_lrg hq
theorem de_trg1 (hc : X.calm = true) (hg : Gl X "tuple") (hm : X.mg "tuple" = none) (hg2 : Gl X "range") (hm2 : X.mg "range" = none) (ha : DE X E a f) (hsa : starEach [a] X.env = (false, eval a X.env) :: starEach [] X.env := by rfl) : DE X E (.Call (.Name "tuple" p) [.Call (.Name "range" p2) [a] [] q] [] pos) (eTrg f) :=
  pe_conseq (pe_tupRg hc hg hm (prg_1 hg2 hm2 ha hsa)) fun _ _ _ hq => one1 us_trg hq
theorem de_trg2 (hc : X.calm = true) (hg : Gl X "tuple") (hm : X.mg "tuple" = none) (hg2 : Gl X "range") (hm2 : X.mg "range" = none) (ha : DE X E a f) (hb : DE X E b g) (hsa : starEach [a, b] X.env = (false, eval a X.env) :: starEach [b] X.env := by rfl) (hsb : starEach [b] X.env = (false, eval b X.env) :: starEach [] X.env := by rfl) : DE X E (.Call (.Name "tuple" p) [.Call (.Name "range" p2) [a, b] [] q] [] pos) (eOp trgD f g) :=
  pe_conseq (pe_tupRg hc hg hm (prg_2 hg2 hm2 ha hb hsa hsb (by rw [hsb]; rfl))) fun _ _ _ hq => two os_trg hq
end
end DL
/-! DL17: reading the semantic functions: what they give, step by step. -/
namespace DL
open PySem PySem.Spec PyProof.Rows L2
section
variable {α β : Type}
def R.wp (r : R α) (Q : α → DEnv → Prop) (X : Ex → DEnv → Prop) : Prop := match r with
  | .ok a ρ => Q a ρ
  | .ex x ρ => X x ρ
  | .bad => False
structure Po where
  nx : DEnv → Prop
  rt : Val → DEnv → Prop
  bk : DEnv → Prop := fun _ => False
  ct : DEnv → Prop := fun _ => False
  ex : Ex → DEnv → Prop := fun _ _ => False
def RS.wp (r : RS) (P : Po) : Prop := match r with
  | .nx ρ => P.nx ρ
  | .rt x ρ => P.rt x ρ
  | .bk ρ => P.bk ρ
  | .ct ρ => P.ct ρ
  | .ex x ρ => P.ex x ρ
  | .bad => False
def RF.wp (r : RF) (Q : Val → DEnv → Prop) (X : Ex → DEnv → Prop) : Prop := match r with
  | .ret x as => Q x as
  | .ex x as => X x as
  | .bad => False
theorem RF.wp_ret {r : RF} {Q : Val → DEnv → Prop} (h : r.wp Q fun _ _ => False) : ∃ x as, r = .ret x as ∧ Q x as := by
  cases r with
  | ret x as => exact ⟨x, as, rfl, h⟩
  | ex x as => exact h.elim
  | bad => exact h.elim
theorem RF.wp_mono {r : RF} {Q Q' : Val → DEnv → Prop} {X X' : Ex → DEnv → Prop} (h : r.wp Q X) (hq : ∀ x as, Q x as → Q' x as) (hx : ∀ x as, X x as → X' x as) : r.wp Q' X' := by
  cases r with
  | ret x as => exact hq _ _ h
  | ex x as => exact hx _ _ h
  | bad => exact h.elim
theorem R.wp_mono {r : R α} {Q Q' : α → DEnv → Prop} {X X' : Ex → DEnv → Prop} (h : r.wp Q X) (hq : ∀ x as, Q x as → Q' x as) (hx : ∀ x as, X x as → X' x as) : r.wp Q' X' := by
  cases r with
  | ok x as => exact hq _ _ h
  | ex x as => exact hx _ _ h
  | bad => exact h.elim
theorem b_bind {r : R α} {g : α → DEnv → R β} {Q : β → DEnv → Prop} {X : Ex → DEnv → Prop} (h : r.wp (fun a ρ => (g a ρ).wp Q X) X) : (r.bind g).wp Q X := by cases r <;> exact h
theorem b_bindS {r : R α} {g : α → DEnv → RS} {P : Po} (h : r.wp (fun a ρ => (g a ρ).wp P) P.ex) : (r.bindS g).wp P := by cases r <;> exact h
theorem b_ok {a : α} {ρ : DEnv} {Q : α → DEnv → Prop} {X : Ex → DEnv → Prop} (h : Q a ρ) : (R.ok a ρ).wp Q X := h
end
section
variable {ρ ρ' as : DEnv} {i : Nat} {x y : Val} {d a b : D} {c : Cont} {m : Md} {f g h : EM} {t u : M Bool} {op : D → D → Option Val} {Q : Val → DEnv → Prop} {QB : Bool → DEnv → Prop} {QL : List Val → DEnv → Prop} {X : Ex → DEnv → Prop} {P : Po} {s : SM} {gl : M (List Val)}
theorem b_var_d (e : ρ[i]? = some (.d d)) (q : Q (.d d) ρ) : (eVar i ρ).wp Q X := by unfold eVar; rw [e]; exact q
theorem b_var_o (e : ρ[i]? = some (.ow c m)) (q : Q (.sl i) ρ) : (eVar i ρ).wp Q X := by unfold eVar; rw [e]; exact q
theorem b_C (q : Q (.d d) ρ) : (eC d ρ).wp Q X := q
theorem b_op (q : (f ρ).wp (fun x ρ1 => (g ρ1).wp (fun y ρ2 => (opV op x y ρ2).wp Q X) X) X) : (eOp op f g ρ).wp Q X := b_bind (R.wp_mono q (fun _ _ h => b_bind h) fun _ _ h => h)
theorem b_un {op : D → Option Val} (q : (f ρ).wp (fun x ρ1 => (unV op x ρ1).wp Q X) X) : (eUn op f ρ).wp Q X := b_bind q
theorem b_cb {op : List D → Option Val} (q : (gl ρ).wp (fun x ρ1 => (callV op x ρ1).wp Q X) X) : (eCallB op gl ρ).wp Q X := b_bind q
theorem b_opV {z : Val} (h1 : x.peek ρ = some a) (h2 : y.peek ρ = some b) (e : op a b = some z) (q : Q z ρ) : (opV op x y ρ).wp Q X := by
  unfold opV
  rw [h1, h2]
  show (ret1 (op a b) ρ).wp Q X
  rw [e]
  exact q
theorem b_unV {op : D → Option Val} {z : Val} (h1 : x.peek ρ = some a) (e : op a = some z) (q : Q z ρ) : (unV op x ρ).wp Q X := by
  unfold unV
  rw [h1]
  show (ret1 (op a) ρ).wp Q X
  rw [e]
  exact q
theorem b_callV {op : List D → Option Val} {z : Val} {xs : List Val} {ds : List D} (h1 : peekL ρ xs = some ds) (e : op ds = some z) (q : Q z ρ) : (callV op xs ρ).wp Q X := by
  unfold callV
  rw [h1]
  show (ret1 (op ds) ρ).wp Q X
  rw [e]
  exact q
theorem b_nil (q : QL [] ρ) : (aNil ρ).wp QL X := q
theorem b_cons (q : (f ρ).wp (fun x ρ1 => (gl ρ1).wp (fun xs ρ2 => QL (x :: xs) ρ2) X) X) : (aCons f gl ρ).wp QL X := b_bind (R.wp_mono q (fun _ _ h => b_bind (R.wp_mono h (fun _ _ h => h) fun _ _ h => h)) fun _ _ h => h)
theorem b_fz (q : (f ρ).wp (fun x ρ1 => (x.fzA ρ1).wp Q X) X) : (DL.fz f ρ).wp Q X := b_bind q
def nslV (x : Val) : EM := fun ρ => match x with
  | .sl i => (Val.sl i).fz ρ
  | x => .ok x ρ
theorem b_nsl (q : (f ρ).wp (fun x ρ1 => (nslV x ρ1).wp Q X) X) : (DL.nsl f ρ).wp Q X := by
  refine b_bind (R.wp_mono q (fun x ρ1 h => ?_) fun _ _ h => h)
  cases x <;> exact h
theorem b_nslD (q : Q (.d d) ρ) : (nslV (.d d) ρ).wp Q X := q
theorem b_nslF (q : Q (.fr c) ρ) : (nslV (.fr c) ρ).wp Q X := q
theorem b_nslS (q : ((Val.sl i).fz ρ).wp Q X) : (nslV (.sl i) ρ).wp Q X := q
theorem b_tup (q : (gl ρ).wp (fun x ρ1 => (mkTup x ρ1).wp Q X) X) : (eTup gl ρ).wp Q X := b_bind q
theorem b_lst (q : (gl ρ).wp (fun x ρ1 => (mkLst x ρ1).wp Q X) X) : (eLst gl ρ).wp Q X := b_bind q
theorem b_mkTup {xs : List Val} {ds : List D} (e : dsL xs = some ds) (hl : ds.length ≤ 16777216) (q : Q (.d (.tup ds)) ρ) : (mkTup xs ρ).wp Q X := by
  unfold mkTup
  rw [e]
  first | exact q | (dsimp only; rw [if_pos hl]; exact q)
theorem b_mkLst {xs : List Val} {ds : List D} (e : dsL xs = some ds) (hl : ds.length ≤ 16777216) (q : Q (.fr (.lst ds)) ρ) : (mkLst xs ρ).wp Q X := by
  unfold mkLst
  rw [e]
  first | exact q | (dsimp only; rw [if_pos hl]; exact q)
theorem b_call {Fm : FM} (q : (gl ρ).wp (fun x ρ1 => (callF Fm x ρ1).wp Q X) X) : (eCall Fm gl ρ).wp Q X := b_bind q
theorem b_callF {Fm : FM} {xs : List Val} (h1 : argSlots ρ xs = some as) (h2 : lentOnce xs = true) (q : (Fm as).wp (fun x as' => Q x (putBack ρ xs as')) (fun x as' => X x (putBack ρ xs as'))) : (callF Fm xs ρ).wp Q X := by
  unfold callF
  rw [h1]
  dsimp only
  rw [if_pos h2]
  cases hh : Fm as <;> rw [hh] at q <;> exact q
theorem b_tst (q : (f ρ).wp (fun x ρ1 => (bT x ρ1).wp QB X) X) : (tst f ρ).wp QB X := b_bind q
theorem b_bT {k : Bool} (q : QB k ρ) : (bT (.d (.bl k)) ρ).wp QB X := q
theorem b_and (q : (t ρ).wp (fun k ρ1 => (k = true → (u ρ1).wp QB X) ∧ (k = false → QB false ρ1)) X) : (tAndM t u ρ).wp QB X := by
  refine b_bind (R.wp_mono q (fun k ρ1 h => ?_) fun _ _ h => h)
  cases k
  · exact h.2 rfl
  · exact h.1 rfl
theorem b_or (q : (t ρ).wp (fun k ρ1 => (k = true → QB true ρ1) ∧ (k = false → (u ρ1).wp QB X)) X) : (tOrM t u ρ).wp QB X := by
  refine b_bind (R.wp_mono q (fun k ρ1 h => ?_) fun _ _ h => h)
  cases k
  · exact h.2 rfl
  · exact h.1 rfl
theorem b_not (q : (t ρ).wp (fun k ρ1 => QB (!k) ρ1) X) : (tNotM t ρ).wp QB X := b_bind q
theorem b_eIf (q : (t ρ).wp (fun k ρ1 => (k = true → (f ρ1).wp Q X) ∧ (k = false → (g ρ1).wp Q X)) X) : (eIf t f g ρ).wp Q X := by
  refine b_bind (R.wp_mono q (fun k ρ1 h => ?_) fun _ _ h => h)
  cases k
  · exact h.2 rfl
  · exact h.1 rfl
theorem b_eAnd (q : (f ρ).wp (fun x ρ1 => ∃ k, x = .d (.bl k) ∧ (k = true → (g ρ1).wp Q X) ∧ (k = false → Q (.d (.bl false)) ρ1)) X) : (eAnd f g ρ).wp Q X := by
  refine b_bind (R.wp_mono q (fun x ρ1 h => ?_) fun _ _ h => h)
  obtain ⟨k, rfl, h1, h2⟩ := h
  cases k
  · exact h2 rfl
  · exact h1 rfl
theorem b_eOr (q : (f ρ).wp (fun x ρ1 => ∃ k, x = .d (.bl k) ∧ (k = true → Q (.d (.bl true)) ρ1) ∧ (k = false → (g ρ1).wp Q X)) X) : (eOr f g ρ).wp Q X := by
  refine b_bind (R.wp_mono q (fun x ρ1 h => ?_) fun _ _ h => h)
  obtain ⟨k, rfl, h1, h2⟩ := h
  cases k
  · exact h2 rfl
  · exact h1 rfl
theorem b_eNot (q : (f ρ).wp (fun x ρ1 => ∃ k, x = .d (.bl k) ∧ Q (.d (.bl !k)) ρ1) X) : (eNot f ρ).wp Q X := by
  refine b_bind (R.wp_mono q (fun x ρ1 h => ?_) fun _ _ h => h)
  obtain ⟨k, rfl, h1⟩ := h
  exact h1
def AndK (QB : Bool → DEnv → Prop) (k : Bool) (ρ1 : DEnv) : Bool → DEnv → Prop := fun k2 ρ2 => ρ2 = ρ1 ∧ QB (k && k2) ρ1
def OrK (QB : Bool → DEnv → Prop) (k : Bool) (ρ1 : DEnv) : Bool → DEnv → Prop := fun k2 ρ2 => ρ2 = ρ1 ∧ QB (k || k2) ρ1
theorem b_andK {k k2 : Bool} (q : QB (k && k2) ρ) : AndK QB k ρ k2 ρ := ⟨rfl, q⟩
theorem b_orK {k k2 : Bool} (q : QB (k || k2) ρ) : OrK QB k ρ k2 ρ := ⟨rfl, q⟩
theorem b_and2 (q : (t ρ).wp (fun k ρ1 => (u ρ1).wp (AndK QB k ρ1) fun _ _ => False) X) : (tAndM t u ρ).wp QB X := by
  refine b_bind (R.wp_mono q (fun k ρ1 h => ?_) fun _ _ h => h)
  cases e : u ρ1 with
  | ok k2 ρ2 =>
    rw [e] at h
    obtain ⟨rfl, h⟩ := h
    cases k
    · exact h
    · exact h
  | ex x ρ2 => rw [e] at h; exact h.elim
  | bad => rw [e] at h; exact h.elim
theorem b_or2 (q : (t ρ).wp (fun k ρ1 => (u ρ1).wp (OrK QB k ρ1) fun _ _ => False) X) : (tOrM t u ρ).wp QB X := by
  refine b_bind (R.wp_mono q (fun k ρ1 h => ?_) fun _ _ h => h)
  cases e : u ρ1 with
  | ok k2 ρ2 =>
    rw [e] at h
    obtain ⟨rfl, h⟩ := h
    cases k
    · exact h
    · exact h
  | ex x ρ2 => rw [e] at h; exact h.elim
  | bad => rw [e] at h; exact h.elim
theorem rng_at {n j : Nat} {f : Nat → D} {dd : D} (h : ((List.range n).map f)[j]? = some dd) : j < n ∧ dd = f j := by
  rw [List.getElem?_map] at h
  have hj : j < n := by
    rcases Nat.lt_or_ge j n with z | z
    · exact z
    · rw [List.getElem?_eq_none (by simpa using z)] at h; cases h
  rw [List.getElem?_range hj] at h
  exact ⟨hj, by simpa using h.symm⟩
/-! statements -/
theorem s_seq {s1 s2 : SM} (q : (s1 ρ).wp { P with nx := fun ρ1 => (s2 ρ1).wp P }) : (sSeq s1 s2 ρ).wp P := by
  unfold sSeq
  cases e : s1 ρ <;> rw [e] at q <;> exact q
theorem s_seqN {s1 s2 : SM} (e : ρ = ρ') (q : (s1 ρ').wp { P with nx := fun ρ1 => (s2 ρ1).wp P }) : (sSeq s1 s2 ρ).wp P := by subst e; exact s_seq q
theorem s_ifN {s1 s2 : SM} (e : ρ = ρ') (q : (sIf t s1 s2 ρ').wp P) : (sIf t s1 s2 ρ).wp P := by subst e; exact q
theorem s_nN {g : SM} (e : ρ = ρ') (q : (g ρ').wp P) : (g ρ).wp P := by subst e; exact q
theorem b_nN {α : Type} {g : M α} {QA : α → DEnv → Prop} (e : ρ = ρ') (q : (g ρ').wp QA X) : (g ρ).wp QA X := by subst e; exact q
theorem s_skip (q : P.nx ρ) : (sSkip ρ).wp P := q
theorem s_drop (q : (f ρ).wp (fun _ ρ1 => P.nx ρ1) P.ex) : (sDrop f ρ).wp P := b_bindS q
theorem s_ret (q : (f ρ).wp (fun x ρ1 => P.rt x ρ1) P.ex) : (sRet f ρ).wp P := b_bindS q
theorem s_retN (q : P.rt (.d .non) ρ) : (sRetN ρ).wp P := q
theorem s_break (q : P.bk ρ) : (sBreak ρ).wp P := q
theorem s_cont (q : P.ct ρ) : (sCont ρ).wp P := q
theorem s_if {s1 s2 : SM} (q : (t ρ).wp (fun k ρ1 => (k = true → (s1 ρ1).wp P) ∧ (k = false → (s2 ρ1).wp P)) P.ex) : (sIf t s1 s2 ρ).wp P := by
  refine b_bindS (R.wp_mono q (fun k ρ1 h => ?_) fun _ _ h => h)
  cases k
  · exact h.2 rfl
  · exact h.1 rfl
theorem s_asg (q : (f ρ).wp (fun x ρ1 => (asgV i x ρ1).wp P) P.ex) : (sAsg i f ρ).wp P := b_bindS q
theorem s_asgV (e : asgV i x ρ = .nx ρ') (q : P.nx ρ') : (asgV i x ρ).wp P := by rw [e]; exact q
theorem s_par {is : List Nat} (q : (gl ρ).wp (fun xs ρ1 => (asgs is xs ρ1).wp P) P.ex) : (sPar is gl ρ).wp P := b_bindS q
theorem s_asgs {is : List Nat} {xs : List Val} (e : asgs is xs ρ = .nx ρ') (q : P.nx ρ') : (asgs is xs ρ).wp P := by rw [e]; exact q
theorem s_tgt {G : Val → SM} (q : (f ρ).wp (fun x ρ1 => (G x ρ1).wp P) P.ex) : (sTgt f G ρ).wp P := b_bindS q
theorem s_of (r : RS) (e : r = .nx ρ') (q : P.nx ρ') : r.wp P := by rw [e]; exact q
/-! defs -/
theorem f_fn {np nl : Nat} {body : SM} (hl : as.length = np) (q : (body (as ++ List.replicate nl .un)).wp { nx := fun ρ => (finish (.d .non) as ρ).wp Q X, rt := fun x ρ => (finish x as ρ).wp Q X, ex := fun x ρ => X x (argsBack as ρ) }) : (fnD np nl body as).wp Q X := by
  unfold fnD
  rw [if_pos hl]
  cases e : body (as ++ List.replicate nl .un) <;> rw [e] at q <;> first | exact q | exact q.elim
theorem f_d (q : Q (.d d) (argsBack as ρ)) : (finish (.d d) as ρ).wp Q X := q
theorem f_fr (q : Q (.fr c) (argsBack as ρ)) : (finish (.fr c) as ρ).wp Q X := q
theorem f_sl (e : ρ[i]? = some (.ow c .own)) (q : Q (.fr c) (argsBack as ρ)) : (finish (.sl i) as ρ).wp Q X := by
  unfold finish
  dsimp only
  rw [e]
  exact q
theorem f_sld (e : ρ[i]? = some (.d d)) (q : Q (.d d) (argsBack as ρ)) : (finish (.sl i) as ρ).wp Q X := by
  unfold finish
  dsimp only
  rw [e]
  exact q
/-! loops -/
theorem loop_inv {tg : Val → SM} {body : SM} (I : Nat → DEnv → Prop) : ∀ (ds : List D) (k : Nat) (ρ : DEnv), I k ρ → (∀ j dd ρ, ds[j]? = some dd → I (k + j) ρ → (tg (.d dd) ρ).wp { nx := fun ρ1 => (body ρ1).wp { P with nx := I (k + j + 1), ct := I (k + j + 1), bk := P.nx }, rt := fun _ _ => False }) → (∀ ρ, I (k + ds.length) ρ → P.nx ρ) → (loopD tg body ds ρ).wp P
  | [], k, ρ, h0, hs, he => he ρ h0
  | dd :: ds, k, ρ, h0, hs, he => by
    unfold loopD
    have h1 := hs 0 dd ρ rfl h0
    cases e1 : tg (.d dd) ρ with
    | nx ρ1 =>
      rw [e1] at h1
      have h1 : (body ρ1).wp _ := h1
      have rest : ∀ ρ2, I (k + 0 + 1) ρ2 → (loopD tg body ds ρ2).wp P := fun ρ2 h2 => loop_inv I ds (k + 1) ρ2 h2 (fun j d ρ e h => by
        have := hs (j + 1) d ρ (by simpa using e) (by rw [show k + (j + 1) = k + 1 + j by omega]; exact h)
        rw [show k + (j + 1) = k + 1 + j by omega] at this
        exact this) fun ρ h => he ρ (by rw [List.length_cons, show k + (ds.length + 1) = k + 1 + ds.length by omega]; exact h)
      dsimp only
      cases e2 : body ρ1 with
      | nx ρ2 => rw [e2] at h1; exact rest ρ2 h1
      | ct ρ2 => rw [e2] at h1; exact rest ρ2 h1
      | bk ρ2 => rw [e2] at h1; exact h1
      | rt x ρ2 => rw [e2] at h1; exact h1
      | ex x ρ2 => rw [e2] at h1; exact h1
      | bad => rw [e2] at h1; exact h1.elim
    | rt x ρ1 => rw [e1] at h1; exact h1.elim
    | bk ρ1 => rw [e1] at h1; exact h1.elim
    | ct ρ1 => rw [e1] at h1; exact h1.elim
    | ex x ρ1 => rw [e1] at h1; exact h1.elim
    | bad => rw [e1] at h1; exact h1.elim
theorem s_for {fi : IM} {tg : Val → SM} {body : SM} (q : (fi ρ).wp (fun src ρ1 => (unlkS src.2 ρ1 (loopD tg body src.1 (lockS src.2 ρ1))).wp P) P.ex) : (sFor fi tg body ρ).wp P := b_bindS q
theorem s_loop {tg : Val → SM} {body : SM} {ds : List D} (q : (loopD tg body ds ρ).wp P) : (unlkS none ρ' (loopD tg body ds ρ)).wp P := by
  cases e : loopD tg body ds ρ <;> rw [e] at q <;> exact q
def rngV : List Val → DEnv → R Src := fun xs ρ1 => match xs with
  | [.d (.int j)] => if -(2 ^ 62) ≤ j ∧ j < 2 ^ 62 then .ok ((List.range j.toNat).map fun k : Nat => D.int (0 + (k : Int)), none) ρ1 else .bad
  | [.d (.int i), .d (.int j)] => if -(2 ^ 62) ≤ i ∧ i < 2 ^ 62 ∧ -(2 ^ 62) ≤ j ∧ j < 2 ^ 62 then .ok ((List.range (j - i).toNat).map fun k : Nat => D.int (i + (k : Int)), none) ρ1 else .bad
  | _ => .bad
theorem b_rng {QI : Src → DEnv → Prop} (q : (gl ρ).wp (fun xs ρ1 => (rngV xs ρ1).wp QI X) X) : (iRng gl ρ).wp QI X := b_bind q
theorem b_rng1 {n : Int} {QI : Src → DEnv → Prop} (hn : -(2 ^ 62) ≤ n ∧ n < 2 ^ 62) (q : QI ((List.range n.toNat).map fun k : Nat => D.int (0 + (k : Int)), none) ρ) : (rngV [.d (.int n)] ρ).wp QI X := by
  unfold rngV
  dsimp only
  rw [if_pos hn]
  exact q
theorem b_rng2 {n k : Int} {QI : Src → DEnv → Prop} (hn : -(2 ^ 62) ≤ k ∧ k < 2 ^ 62 ∧ -(2 ^ 62) ≤ n ∧ n < 2 ^ 62) (q : QI ((List.range (n - k).toNat).map fun i : Nat => D.int (k + (i : Int)), none) ρ) : (rngV [.d (.int k), .d (.int n)] ρ).wp QI X := by
  unfold rngV
  dsimp only
  rw [if_pos hn]
  exact q
theorem while_inv {body : SM} (I : DEnv → Nat → Prop) : ∀ (n : Nat) (ρ : DEnv) (k : Nat), k < n → I ρ k → (∀ ρ k, I ρ k → (t ρ).wp (fun b ρ1 => (b = false → P.nx ρ1) ∧ (b = true → (body ρ1).wp { P with nx := fun ρ2 => ∃ k', k' < k ∧ I ρ2 k', ct := fun ρ2 => ∃ k', k' < k ∧ I ρ2 k', bk := P.nx })) P.ex) → (whileD t body n ρ).wp P
  | 0, ρ, k, h, _, _ => absurd h (Nat.not_lt_zero _)
  | n + 1, ρ, k, h, h0, hs => by
    unfold whileD
    refine b_bindS (R.wp_mono (hs ρ k h0) (fun b ρ1 h1 => ?_) fun _ _ h => h)
    cases b with
    | false => exact h1.1 rfl
    | true =>
      rw [if_pos rfl]
      have h2 := h1.2 rfl
      cases e2 : body ρ1 with
      | nx ρ2 => rw [e2] at h2; obtain ⟨k', hk, h3⟩ := h2; exact while_inv I n ρ2 k' (by omega) h3 hs
      | ct ρ2 => rw [e2] at h2; obtain ⟨k', hk, h3⟩ := h2; exact while_inv I n ρ2 k' (by omega) h3 hs
      | bk ρ2 => rw [e2] at h2; exact h2
      | rt x ρ2 => rw [e2] at h2; exact h2
      | ex x ρ2 => rw [e2] at h2; exact h2
      | bad => rw [e2] at h2; exact h2.elim
/-! comprehensions -/
theorem comp_inv {own : List Nat} {tg : Val → SM} {tt : M Bool} {el : EM} {QD : List D → DEnv → Prop} {XD : Ex → DEnv → Prop} (I : Nat → List D → DEnv → Prop) : ∀ (ds : List D) (k : Nat) (acc : List D) (ρ : DEnv), I k acc ρ →
    (∀ j dd acc ρ, ds[j]? = some dd → I (k + j) acc ρ → (tg (.d dd) ρ).wp { nx := fun ρ1 => (tt ρ1).wp (fun b ρ2 => (b = false → I (k + j + 1) acc (wipeD ρ2 own)) ∧ (b = true → (el ρ2).wp (fun y ρ3 => ∃ yd, y = .d yd ∧ I (k + j + 1) (acc ++ [yd]) (wipeD ρ3 own)) fun _ _ => False)) fun _ _ => False, rt := fun _ _ => False }) →
    (∀ acc ρ, I (k + ds.length) acc ρ → QD acc ρ) → (compD own tg tt el ds acc ρ).wp QD XD
  | [], k, acc, ρ, h0, hs, he => he acc ρ h0
  | dd :: ds, k, acc, ρ, h0, hs, he => by
    have h1 := hs 0 dd acc ρ rfl h0
    have rest : ∀ acc ρ2, I (k + 0 + 1) acc ρ2 → (compD own tg tt el ds acc ρ2).wp QD XD := fun acc ρ2 h2 => comp_inv I ds (k + 1) acc ρ2 h2 (fun j d acc ρ e h => by
        have := hs (j + 1) d acc ρ (by simpa using e) (by rw [show k + (j + 1) = k + 1 + j by omega]; exact h)
        rw [show k + (j + 1) = k + 1 + j by omega] at this
        exact this) fun acc ρ h => he acc ρ (by rw [List.length_cons, show k + (ds.length + 1) = k + 1 + ds.length by omega]; exact h)
    unfold compD
    cases e1 : tg (.d dd) ρ with
    | nx ρ1 =>
      rw [e1] at h1
      have h1 : (tt ρ1).wp _ _ := h1
      dsimp only
      cases e2 : tt ρ1 with
      | ok b ρ2 =>
        rw [e2] at h1
        have h1 : _ ∧ _ := h1
        dsimp only
        cases b with
        | false => rw [if_neg (by decide)]; exact rest _ _ (h1.1 rfl)
        | true =>
          rw [if_pos rfl]
          have h2 := h1.2 rfl
          cases e3 : el ρ2 with
          | ok y ρ3 =>
            rw [e3] at h2
            obtain ⟨yd, rfl, h3⟩ := h2
            exact rest _ _ h3
          | ex x ρ3 => rw [e3] at h2; exact h2.elim
          | bad => rw [e3] at h2; exact h2.elim
      | ex x ρ2 => rw [e2] at h1; exact h1.elim
      | bad => rw [e2] at h1; exact h1.elim
    | rt x ρ1 => rw [e1] at h1; exact h1.elim
    | bk ρ1 => rw [e1] at h1; exact h1.elim
    | ct ρ1 => rw [e1] at h1; exact h1.elim
    | ex x ρ1 => rw [e1] at h1; exact h1.elim
    | bad => rw [e1] at h1; exact h1.elim
theorem b_lc {own : List Nat} {fi : IM} {tg : Val → SM} {tt : M Bool} {el : EM} (q : (fi ρ).wp (fun src ρ1 => inB own ρ1 = true ∧ src.1.length < 16777216 ∧ (compD own tg tt el src.1 [] (wipeD (lockS src.2 ρ1) own)).wp (fun ys ρ2 => Q (.fr (.lst ys)) (unlk src.2 ρ1 (backD (lockS src.2 ρ1) ρ2 own))) fun _ _ => False) X) : (eLc own fi tg tt el ρ).wp Q X := by
  refine b_bind (R.wp_mono q (fun src ρ1 h => ?_) fun _ _ h => h)
  obtain ⟨h1, h2, h3⟩ := h
  rw [if_pos ⟨h1, h2⟩]
  cases e : compD own tg tt el src.1 [] (wipeD (lockS src.2 ρ1) own) with
  | ok ys ρ2 => rw [e] at h3; exact h3
  | ex x ρ2 => rw [e] at h3; exact h3.elim
  | bad => rw [e] at h3; exact h3.elim
theorem b_iseq {QI : Src → DEnv → Prop} (q : (f ρ).wp (fun x ρ1 => (seqSrc x ρ1).wp QI X) X) : (iSeq f ρ).wp QI X := b_bind q
theorem b_yes (q : QB true ρ) : (tYesD ρ).wp QB X := q
def StoreK (i : Nat) (k : EM) (P : Po) (x : Val) (ρ1 : DEnv) : Prop := ∃ c m, ρ1[i]? = some (.ow c m) ∧ (k ρ1).wp (fun y ρ2 => (storeV i x y ρ2).wp P) P.ex
theorem s_storeK {k : EM} (e : ρ[i]? = some (.ow c m)) (q : (k ρ).wp (fun y ρ2 => (storeV i x y ρ2).wp P) P.ex) : StoreK i k P x ρ := ⟨c, m, e, q⟩
theorem s_store {k : EM} (q : (f ρ).wp (StoreK i k P) P.ex) : (sStore i k f ρ).wp P := by
  refine b_bindS (R.wp_mono q (fun x ρ1 h => ?_) fun _ _ h => h)
  obtain ⟨c, m, e, h⟩ := h
  rw [e]
  exact b_bindS h
theorem s_storeV {k : Val} (e : storeV i x k ρ = .nx ρ') (q : P.nx ρ') : (storeV i x k ρ).wp P := by rw [e]; exact q
theorem s_ite {k : Bool} {r1 r2 : RS} (h1 : k = true → r1.wp P) (h2 : k = false → r2.wp P) : (if k = true then r1 else r2).wp P := by
  cases k
  · exact h2 rfl
  · exact h1 rfl
/-! methods -/
theorem b_methL {op : Cont → List D → Option (Cont × D)} {ds : List D} (e : ρ[i]? = some (.ow (.lst ds) m)) (q : (gl ρ).wp (fun xs ρ1 => (methV i op xs ρ1).wp Q X) X) : (eMethL i op gl ρ).wp Q X := by
  unfold eMethL
  rw [e]
  exact b_bind q
theorem b_methV {op : Cont → List D → Option (Cont × D)} {xs : List Val} {r : Val} (e : methV i op xs ρ = .ok r ρ') (q : Q r ρ') : (methV i op xs ρ).wp Q X := by rw [e]; exact q
theorem b_fzv {r : Val} (e : x.fz ρ = .ok r ρ') (q : Q r ρ') : (x.fz ρ).wp Q X := by rw [e]; exact q
theorem b_fzvA {r : Val} (e : x.fzA ρ = .ok r ρ') (q : Q r ρ') : (x.fzA ρ).wp Q X := by rw [e]; exact q
theorem b_eqr {r : R Val} {v : Val} (e : r = .ok v ρ') (q : Q v ρ') : r.wp Q X := by rw [e]; exact q
/-! operations -/
theorem x_mul {i j : Int} (h1 : x.peek ρ = some (.int i)) (h2 : y.peek ρ = some (.int j)) (h : ((-18446744073709551616 : Int) < i ∧ i < 18446744073709551616) ∨ ((-18446744073709551616 : Int) < j ∧ j < 18446744073709551616)) (q : Q (.d (.int (i * j))) ρ) : (opV mulD x y ρ).wp Q X :=
  b_opV h1 h2 (by
    show (match intV mulI (.int i) (.int j) with | some z => some z | none => repL _ _) = some _
    rw [show intV mulI (.int i) (.int j) = some (.d (.int (i * j))) from by
      show (mulI i j).map _ = _
      unfold mulI
      rw [if_pos (by
        rcases h with h | h
        · exact .inl (by simpa using h)
        · exact .inr (.inl (by simpa using h)))]
      rfl]) q
theorem x_mod {i j : Int} (h1 : x.peek ρ = some (.int i)) (h2 : y.peek ρ = some (.int j)) (h : 0 < j) (q : Q (.d (.int (i % j))) ρ) : (opV modD x y ρ).wp Q X :=
  b_opV h1 h2 (by
    show (modI i j).map _ = _
    unfold modI
    rw [if_pos h]
    rfl) q
theorem x_div {i j : Int} (h1 : x.peek ρ = some (.int i)) (h2 : y.peek ρ = some (.int j)) (h : 0 < j ∧ j < 18446744073709551616) (q : Q (.d (.int (i / j))) ρ) : (opV divD x y ρ).wp Q X :=
  b_opV h1 h2 (by
    show (divI i j).map _ = _
    unfold divI
    have h3 : j.natAbs < 2 ^ 64 := by have := h.2; omega
    have h4 : j.natAbs ≠ 0 := by have := h.1; omega
    have h5 := (Nat.log2_lt h4).mpr h3
    rw [if_pos ⟨h.1, by omega⟩]
    rfl) q
theorem x_pow {i j : Int} (h1 : x.peek ρ = some (.int i)) (h2 : y.peek ρ = some (.int j)) (hp : powI i j = some (i ^ j.toNat)) (q : Q (.d (.int (i ^ j.toNat))) ρ) : (opV powD x y ρ).wp Q X :=
  b_opV h1 h2 (by
    show (powI i j).map _ = _
    rw [hp]
    rfl) q
theorem x_modG {i j : Int} (h1 : x.peek ρ = some (.int i)) (h2 : y.peek ρ = some (.int j)) (h : 0 < j) (q : ∀ r, 0 ≤ r → r < j → r = i % j → Q (.d (.int r)) ρ) : (opV modD x y ρ).wp Q X :=
  x_mod h1 h2 h (q _ (Int.emod_nonneg _ (by omega)) (Int.emod_lt_of_pos _ h) rfl)
theorem x_idx {xs : List D} {i : Int} (h1 : x.peek ρ = some (.lst xs)) (h2 : y.peek ρ = some (.int i)) (e : atI xs i = some d) (q : Q (.d d) ρ) : (opV idxD x y ρ).wp Q X :=
  b_opV h1 h2 (by
    show (match (match (atI xs i).map Val.d with | some z => some z | none => idxD3 _ _) with | some z => some z | none => idxD2 _ _) = some _
    rw [e]
    rfl) q
theorem x_idxT {xs : List D} {i : Int} (h1 : x.peek ρ = some (.tup xs)) (h2 : y.peek ρ = some (.int i)) (e : atI xs i = some d) (q : Q (.d d) ρ) : (opV idxD x y ρ).wp Q X :=
  b_opV h1 h2 (by
    show (match (match (atI xs i).map Val.d with | some z => some z | none => idxD3 _ _) with | some z => some z | none => idxD2 _ _) = some _
    rw [e]
    rfl) q
theorem x_idxS {xs : List Int} {i j : Int} (h1 : x.peek ρ = some (.scr xs)) (h2 : y.peek ρ = some (.int i)) (e : atI xs i = some j) (q : Q (.d (.int j)) ρ) : (opV idxD x y ρ).wp Q X :=
  b_opV h1 h2 (by
    show (match (match (atI xs i).map (fun k => Val.d (.int k)) with | some z => some z | none => idxD3 _ _) with | some z => some z | none => idxD2 _ _) = some _
    rw [e]
    rfl) q
theorem x_ne {k : Bool} (h1 : x.peek ρ = some a) (h2 : y.peek ρ = some b) (e : eqD a b = some k) (q : Q (.d (.bl !k)) ρ) : (opV neV' x y ρ).wp Q X :=
  b_opV h1 h2 (by show bV ((eqD a b).map _) = _; rw [e]; rfl) q
theorem x_eq {k : Bool} (h1 : x.peek ρ = some a) (h2 : y.peek ρ = some b) (e : eqD a b = some k) (q : Q (.d (.bl k)) ρ) : (opV eqV' x y ρ).wp Q X :=
  b_opV h1 h2 (by show bV (eqD a b) = _; rw [e]; rfl) q
theorem x_append {xs : List D} (e : ρ[i]? = some (.ow (.lst xs) m)) (hm : m = .own ∨ m = .bor) (hl : xs.length < 16777216) (q : Q (.d .non) (ρ.set i (.ow (.lst (xs ++ [d])) m))) : (methV i appendO [.d d] ρ).wp Q X := by
  refine b_methV (r := .d .non) (ρ' := ρ.set i (.ow (.lst (xs ++ [d])) m)) ?_ q
  unfold methV
  rw [e]
  show (match appendO (.lst xs) [d] with | some (c', r) => (mutS i c' ρ).bind (fun _ ρ' => (R.ok (Val.d r) ρ' : R Val)) | none => .bad) = _
  rw [show appendO (.lst xs) [d] = some (.lst (xs ++ [d]), .non) from if_pos hl]
  show (mutS i (.lst (xs ++ [d])) ρ).bind _ = _
  unfold mutS
  rw [e]
  rcases hm with rfl | rfl <;> rfl
theorem x_popAt {xs : List D} {r : Int} (e : ρ[i]? = some (.ow (.lst xs) m)) (hm : m = .own ∨ m = .bor) (h0 : 0 ≤ r) (h1 : r < xs.length) (hl : xs.length < 16777216) (q : ∀ d, xs[r.toNat]? = some d → Q (.d d) (ρ.set i (.ow (.lst (xs.eraseIdx r.toNat)) m))) : (methV i popAtO [.d (.int r)] ρ).wp Q X := by
  have hj : r.toNat < xs.length := by omega
  refine b_methV (r := .d xs[r.toNat]) (ρ' := ρ.set i (.ow (.lst (xs.eraseIdx r.toNat)) m)) ?_ (q _ (List.getElem?_eq_getElem hj))
  unfold methV
  rw [e]
  show (match popAtO (.lst xs) [.int r] with | some (c', r) => (mutS i c' ρ).bind (fun _ ρ' => (R.ok (Val.d r) ρ' : R Val)) | none => .bad) = _
  unfold popAtO
  dsimp only
  rw [if_pos ⟨h0, h1, by omega⟩, List.getElem?_eq_getElem hj]
  show (mutS i (.lst (xs.eraseIdx r.toNat)) ρ).bind _ = _
  unfold mutS
  rw [e]
  rcases hm with rfl | rfl <;> rfl
/-! slots that may be stored in -/
def Fr (s : Slot) : Prop := s = .un ∨ (∃ d, s = .d d) ∨ ∃ c, s = .ow c .own
theorem Fr.un : Fr .un := .inl rfl
theorem Fr.dat {d : D} : Fr (.d d) := .inr (.inl ⟨d, rfl⟩)
theorem Fr.own {c : Cont} : Fr (.ow c .own) := .inr (.inr ⟨c, rfl⟩)
theorem put_fr {s s0 : Slot} (e : ρ[i]? = some s0) (hf : Fr s0) : put i s ρ = .nx (ρ.set i s) := by
  unfold put
  rw [e]
  rcases hf with rfl | ⟨d, rfl⟩ | ⟨c, rfl⟩ <;> rfl
theorem s_asgF {s0 : Slot} (e : ρ[i]? = some s0) (hf : Fr s0) (q : P.nx (ρ.set i (.d d))) : (asgV i (.d d) ρ).wp P := by
  unfold asgV
  show (put i (.d d) ρ).wp P
  rw [put_fr e hf]
  exact q
theorem s_asgFO {s0 : Slot} (e : ρ[i]? = some s0) (hf : Fr s0) (q : P.nx (ρ.set i (.ow c .own))) : (asgV i (.fr c) ρ).wp P := by
  unfold asgV
  show (put i (.ow c .own) ρ).wp P
  rw [put_fr e hf]
  exact q
theorem s_asgsN (q : P.nx ρ) : (asgs [] [] ρ).wp P := by unfold asgs; exact q
theorem s_asgsD {is : List Nat} {xs : List Val} {s0 : Slot} (e : ρ[i]? = some s0) (hf : Fr s0) (q : (asgs is xs (ρ.set i (.d d))).wp P) : (asgs (i :: is) (.d d :: xs) ρ).wp P := by
  show ((put i (.d d) ρ).thenS (asgs is xs)).wp P
  rw [put_fr e hf]
  exact q
theorem s_asgsO {is : List Nat} {xs : List Val} {s0 : Slot} (e : ρ[i]? = some s0) (hf : Fr s0) (q : (asgs is xs (ρ.set i (.ow c .own))).wp P) : (asgs (i :: is) (.fr c :: xs) ρ).wp P := by
  show ((put i (.ow c .own) ρ).thenS (asgs is xs)).wp P
  rw [put_fr e hf]
  exact q
end
end DL
/-! DL18: data that can be compared and shown. -/
namespace DL
open PySem PySem.Spec PyProof.Rows L2
mutual
def D.good : D → Bool
  | .non => true
  | .bl _ => true
  | .int _ => true
  | .str x => PyData.strOk x
  | .tup xs => goodL xs
  | .lst xs => goodL xs
  | _ => false
def goodL : List D → Bool
  | [] => true
  | x :: xs => x.good && goodL xs
end
mutual
def D.dep : D → Nat
  | .tup xs => depL xs + 1
  | .lst xs => depL xs + 1
  | _ => 0
def depL : List D → Nat
  | [] => 0
  | x :: xs => max x.dep (depL xs)
end
mutual
def D.cnt : D → Nat
  | .tup xs => cntL xs + 1
  | .lst xs => cntL xs + 1
  | _ => 1
def cntL : List D → Nat
  | [] => 0
  | x :: xs => x.cnt + cntL xs
end
mutual
def D.short : D → Bool
  | .int i => decide (i.natAbs < 2 ^ 200)
  | .str x => decide (x.length ≤ 50)
  | .tup xs => shortL xs
  | .lst xs => shortL xs
  | _ => true
def shortL : List D → Bool
  | [] => true
  | x :: xs => x.short && shortL xs
end
theorem strOk_lt {x : Str} (h : PyData.strOk x = true) : ∀ c ∈ x.cps.toList, c < 16 ^ 8 := fun c hc => by
  unfold PyData.strOk at h
  rw [Array.all_eq_true'] at h
  have := h c (by simpa using hc)
  have h2 : c < 1114112 := by simpa using this
  omega
theorem int_short {i : Int} (h : i.natAbs < 2 ^ 200) : (PyData.int i).showable = true ∧ (PyData.int i).shown.length ≤ 1921 := by
  have h2 : i.natAbs.log2 < 200 := by
    by_cases h0 : i.natAbs = 0
    · rw [h0]; decide
    · exact (Nat.log2_lt h0).mpr h
  refine ⟨?_, ?_⟩
  · unfold PyData.showable
    exact decide_eq_true (by omega)
  · unfold PyData.shown
    have := int_text_len_1921 (i := i) (by omega)
    exact this
mutual
theorem good_py : ∀ (d : D), d.good = true → ∃ p, d.toPy = some p ∧ p.canLay0 = true ∧ p.depth = d.dep ∧ p.hasDict = false ∧ (d.short = true → p.showable = true ∧ p.shown.length + 2 ≤ 2000 * d.cnt)
  | .non, _ => ⟨.none, rfl, rfl, rfl, by simp only [PyData.hasDict], fun _ => ⟨by simp only [PyData.showable], by simp only [PyData.shown]; decide⟩⟩
  | .bl b, _ => ⟨.bool b, rfl, rfl, rfl, by simp only [PyData.hasDict], fun _ => ⟨by simp only [PyData.showable], by simp only [PyData.shown]; cases b <;> decide⟩⟩
  | .int i, _ => ⟨.int i, rfl, rfl, rfl, by simp only [PyData.hasDict], fun h => by
      have := int_short (i := i) (by simpa [D.short] using h)
      exact ⟨this.1, by have := this.2; simp only [D.cnt]; omega⟩⟩
  | .str x, h => ⟨.str x, rfl, by simpa [PyData.canLay0, D.good] using h, rfl, by simp only [PyData.hasDict], fun hs => ⟨by simp only [PyData.showable], by
      simp only [PyData.shown]
      have h1 := StrLaws.reprText_len x (strOk_lt (by simpa [D.good] using h))
      have h2 : x.length ≤ 50 := by simpa [D.short] using hs
      simp only [D.cnt]
      omega⟩⟩
  | .tup xs, h => by
    obtain ⟨ps, h1, h2, h3, h4, h5, h6⟩ := goodL_py xs (by simpa [D.good] using h)
    refine ⟨.tuple ps, by simp [D.toPy, h1], by simpa [PyData.canLay0] using h2, by simp [PyData.depth, D.dep, h3], by simpa [PyData.hasDict] using h4, fun hs => ?_⟩
    obtain ⟨g1, g2⟩ := h6 (by simpa [D.short] using hs)
    refine ⟨by simpa [PyData.showable] using g1, ?_⟩
    have := tupleText_len_le (PyData.shownAll ps)
    simp only [PyData.shown, D.cnt]
    rw [h5] at this
    omega
  | .lst xs, h => by
    obtain ⟨ps, h1, h2, h3, h4, h5, h6⟩ := goodL_py xs (by simpa [D.good] using h)
    refine ⟨.list ps, by simp [D.toPy, h1], by simpa [PyData.canLay0] using h2, by simp [PyData.depth, D.dep, h3], by simpa [PyData.hasDict] using h4, fun hs => ?_⟩
    obtain ⟨g1, g2⟩ := h6 (by simpa [D.short] using hs)
    refine ⟨by simpa [PyData.showable] using g1, ?_⟩
    have := listText_len_le (PyData.shownAll ps)
    simp only [PyData.shown, D.cnt]
    rw [h5] at this
    omega
  | .dic _ _, h => by simp [D.good] at h
  | .set _, h => by simp [D.good] at h
  | .scr _, h => by simp [D.good] at h
  | .ty _, h => by simp [D.good] at h
  | .obj _ _ _, h => by simp [D.good] at h
theorem goodL_py : ∀ (ds : List D), goodL ds = true → ∃ ps, toPyL ds = some ps ∧ PyData.canLayAll0 ps = true ∧ PyData.depthAll ps = depL ds ∧ PyData.hasDictAll ps = false ∧ (PyData.shownAll ps).length = ds.length ∧ (shortL ds = true → PyData.showableAll ps = true ∧ ((PyData.shownAll ps).map (·.length)).sum + 2 * ds.length ≤ 2000 * cntL ds)
  | [], _ => ⟨[], rfl, rfl, rfl, by simp only [PyData.hasDictAll], by simp [PyData.shownAll], fun _ => ⟨by simp only [PyData.showableAll], by simp [PyData.shownAll, cntL]⟩⟩
  | d :: ds, h => by
    have h : d.good = true ∧ goodL ds = true := by simpa [goodL] using h
    obtain ⟨p, a1, a2, a3, a4, a5⟩ := good_py d h.1
    obtain ⟨ps, b1, b2, b3, b4, b5, b6⟩ := goodL_py ds h.2
    refine ⟨p :: ps, by simp [toPyL, a1, b1], by simp [PyData.canLayAll0, a2, b2], by simp [PyData.depthAll, depL, a3, b3], by simp [PyData.hasDictAll, a4, b4], by simp [PyData.shownAll, b5], fun hs => ?_⟩
    have hs : d.short = true ∧ shortL ds = true := by simpa [shortL] using hs
    obtain ⟨c1, c2⟩ := a5 hs.1
    obtain ⟨e1, e2⟩ := b6 hs.2
    refine ⟨by simp [PyData.showableAll, c1, e1], ?_⟩
    have hc : 1 ≤ d.cnt := by cases d <;> simp [D.cnt]
    simp only [PyData.shownAll, List.map_cons, List.sum_cons, List.length_cons, cntL]
    omega
end
/-! ### == -/
def eqG (a b : D) : Bool := match a.toPy, b.toPy with
  | some p, some q => PyData.eqv p q
  | _, _ => false
theorem good_shaped {d : D} (h : d.good = true) (hd : d.dep ≤ 64) : ∃ p, d.toPy = some p ∧ SeqAt.shaped p = true := by
  obtain ⟨p, h1, h2, h3, _⟩ := good_py d h
  exact ⟨p, h1, by unfold SeqAt.shaped; rw [h2, decide_eq_true (by omega)]; rfl⟩
theorem eqD_good {a b : D} (ha : a.good = true) (hb : b.good = true) (da : a.dep ≤ 64) (db : b.dep ≤ 64) : eqD a b = some (eqG a b) := by
  obtain ⟨p, h1, h2⟩ := good_shaped ha da
  obtain ⟨q, h3, h4⟩ := good_shaped hb db
  have gen : (match a.toPy, b.toPy with | some p, some q => if SeqAt.shaped p = true ∧ SeqAt.shaped q = true then some (PyData.eqv p q) else none | _, _ => none) = some (eqG a b) := by
    unfold eqG
    rw [h1, h3]
    dsimp only
    rw [if_pos ⟨h2, h4⟩]
  unfold eqD
  split
  · unfold eqG; simp [D.toPy, PyData.eqv]; rfl
  · unfold eqG; simp [D.toPy, PyData.eqv]; rfl
  · unfold eqG; simp [D.toPy, PyData.eqv]
  · unfold eqG; simp [D.toPy, PyData.eqv]
  · unfold eqG; simp [D.toPy, PyData.eqv]
  · unfold eqG; simp [D.toPy, PyData.eqv]
  · unfold eqG; simp [D.toPy, PyData.eqv]
  · unfold eqG; simp [D.toPy, PyData.eqv]
  · unfold eqG; simp [D.toPy, PyData.eqv]
  · unfold eqG; simp [D.toPy, PyData.eqv]
  · exact gen
theorem eqG_refl {a : D} (h : a.good = true) : eqG a a = true := by
  obtain ⟨p, h1, h2, _⟩ := good_py a h
  unfold eqG
  rw [h1]
  exact PySem.SeqAt.eqv_refl p h2
theorem toPyL_nil {ds : List D} : toPyL ds = some [] → ds = [] := fun h => by
  cases ds with
  | nil => rfl
  | cons x xs =>
    unfold toPyL at h
    split at h
    · cases h
    · cases h
theorem eqG_nil {ds : List D} (h : goodL ds = true) : eqG (.lst ds) (.lst []) = ds.isEmpty := by
  obtain ⟨ps, h1, _⟩ := goodL_py ds h
  unfold eqG
  simp only [D.toPy, toPyL, h1, Option.map_some]
  cases ds with
  | nil => cases h1; simp [PyData.eqv, PyData.eqvAll]
  | cons x xs =>
    cases ps with
    | nil => cases toPyL_nil h1
    | cons p ps => simp [PyData.eqv, PyData.eqvAll]
theorem eqG_nilT {ds : List D} (h : goodL ds = true) : eqG (.tup ds) (.tup []) = ds.isEmpty := by
  obtain ⟨ps, h1, _⟩ := goodL_py ds h
  unfold eqG
  simp only [D.toPy, toPyL, h1, Option.map_some]
  cases ds with
  | nil => cases h1; simp [PyData.eqv, PyData.eqvAll]
  | cons x xs =>
    cases ps with
    | nil => cases toPyL_nil h1
    | cons p ps => simp [PyData.eqv, PyData.eqvAll]
/-! ### lists of data -/
theorem goodL_iff {ds : List D} : goodL ds = true ↔ ∀ x ∈ ds, x.good = true := by
  induction ds with
  | nil => simp [goodL]
  | cons x xs ih => simp [goodL, ih]
theorem shortL_iff {ds : List D} : shortL ds = true ↔ ∀ x ∈ ds, x.short = true := by
  induction ds with
  | nil => simp [shortL]
  | cons x xs ih => simp [shortL, ih]
theorem depL_le {ds : List D} {n : Nat} : depL ds ≤ n ↔ ∀ x ∈ ds, x.dep ≤ n := by
  induction ds with
  | nil => simp [depL]
  | cons x xs ih => simp [depL, Nat.max_le, ih]
theorem cntL_le {ds : List D} {n : Nat} (h : ∀ x ∈ ds, x.cnt ≤ n) : cntL ds ≤ n * ds.length := by
  induction ds with
  | nil => simp [cntL]
  | cons x xs ih =>
    have h1 := h x List.mem_cons_self
    have h2 := ih fun y hy => h y (List.mem_cons_of_mem _ hy)
    simp only [cntL, List.length_cons, Nat.mul_add]
    omega
/-- data that can be compared and shown, no deeper than k, of at most n parts -/
structure Gd (k n : Nat) (d : D) : Prop where
  good : d.good = true
  short : d.short = true
  dep : d.dep ≤ k
  cnt : d.cnt ≤ n
theorem Gd.mono {k n k' n' : Nat} {d : D} (h : Gd k n d) (hk : k ≤ k') (hn : n ≤ n') : Gd k' n' d := ⟨h.good, h.short, Nat.le_trans h.dep hk, Nat.le_trans h.cnt hn⟩
theorem Gd.tup {k n : Nat} {ds : List D} (h : ∀ x ∈ ds, Gd k n x) : Gd (k + 1) (n * ds.length + 1) (.tup ds) :=
  ⟨by simpa [D.good] using goodL_iff.mpr fun x hx => (h x hx).good, by simpa [D.short] using shortL_iff.mpr fun x hx => (h x hx).short, by simpa [D.dep] using depL_le.mpr fun x hx => (h x hx).dep, by have := cntL_le (n := n) fun x hx => (h x hx).cnt; simp only [D.cnt]; omega⟩
theorem Gd.lst {k n : Nat} {ds : List D} (h : ∀ x ∈ ds, Gd k n x) : Gd (k + 1) (n * ds.length + 1) (.lst ds) :=
  ⟨by simpa [D.good] using goodL_iff.mpr fun x hx => (h x hx).good, by simpa [D.short] using shortL_iff.mpr fun x hx => (h x hx).short, by simpa [D.dep] using depL_le.mpr fun x hx => (h x hx).dep, by have := cntL_le (n := n) fun x hx => (h x hx).cnt; simp only [D.cnt]; omega⟩
theorem Gd.int {i : Int} (h : i.natAbs < 2 ^ 200) : Gd 0 1 (.int i) := ⟨rfl, by simpa [D.short] using h, Nat.le_refl _, Nat.le_refl _⟩
theorem Gd.eq {a b : D} {k n k' n' : Nat} (ha : Gd k n a) (hb : Gd k' n' b) (hk : k ≤ 64) (hk' : k' ≤ 64) : eqD a b = some (eqG a b) := eqD_good ha.good hb.good (Nat.le_trans ha.dep hk) (Nat.le_trans hb.dep hk')
/-! ### repr -/
def shownD (d : D) : Str := match d.toPy with
  | some p => p.shown
  | none => ""
theorem Gd.repr1 {a : D} {k n : Nat} (h : Gd k n a) (hk : k ≤ 60) (hn : n ≤ 8000) : reprD1 a = some (.d (.str (shownD a))) := by
  obtain ⟨p, h1, h2, h3, h4, h5⟩ := good_py a h.good
  obtain ⟨g1, g2⟩ := h5 h.short
  unfold reprD1 shownD
  rw [h1]
  dsimp only
  have := h.cnt
  have := h.dep
  rw [if_pos ⟨g1, h4, by omega, by unfold sizeLine; omega⟩]
theorem Gd.reprT {xs : List D} {k n : Nat} (h : Gd k n (.tup xs)) (hk : k ≤ 60) (hn : n ≤ 8000) : reprD [.tup xs] = some (.d (.str (shownD (.tup xs)))) := h.repr1 hk hn
theorem Gd.reprL {xs : List D} {k n : Nat} (h : Gd k n (.lst xs)) (hk : k ≤ 60) (hn : n ≤ 8000) : reprD [.lst xs] = some (.d (.str (shownD (.lst xs)))) := h.repr1 hk hn
/-! ### more rules of reading -/
section
variable {ρ ρ' as : DEnv} {i : Nat} {x y : Val} {d a b : D} {c : Cont} {m : Md} {Q : Val → DEnv → Prop} {X : Ex → DEnv → Prop} {P : Po}
theorem inS_int {v : Int} : ∀ {ws : List Int}, inS (.int v) (ws.map D.int) = decide (v ∈ ws)
  | [] => by simp [inS]
  | w :: ws => by
    have ih := inS_int (v := v) (ws := ws)
    unfold inS at ih ⊢
    rw [List.map_cons, List.any_cons, ih]
    show (w == v || decide (v ∈ ws)) = _
    by_cases h : w = v
    · subst h; simp
    · simp [h, show ¬ v = w from fun z => h z.symm]
theorem flat_ints : ∀ {ws : List Int}, (ws.map D.int).all flatD = true
  | [] => rfl
  | w :: ws => by rw [List.map_cons, List.all_cons, flat_ints]; rfl
theorem x_ninI {v : Int} {ws : List Int} (h1 : x.peek ρ = some (.int v)) (h2 : y.peek ρ = some (.lst (ws.map D.int))) (q : Q (.d (.bl (!decide (v ∈ ws)))) ρ) : (opV ninD x y ρ).wp Q X :=
  b_opV (z := .d (.bl (!decide (v ∈ ws)))) h1 h2 (by
    have e : inSeqD true (.int v) (.lst (ws.map D.int)) = some (.d (.bl (!decide (v ∈ ws)))) := by
      unfold inSeqD
      dsimp only
      rw [if_pos ⟨rfl, flat_ints⟩, inS_int]
      rfl
    unfold ninD orOp
    rw [e]) q
theorem x_inI {v : Int} {ws : List Int} (h1 : x.peek ρ = some (.int v)) (h2 : y.peek ρ = some (.lst (ws.map D.int))) (q : Q (.d (.bl (decide (v ∈ ws)))) ρ) : (opV inD x y ρ).wp Q X :=
  b_opV (z := .d (.bl (decide (v ∈ ws)))) h1 h2 (by
    have e : inSeqD false (.int v) (.lst (ws.map D.int)) = some (.d (.bl (decide (v ∈ ws)))) := by
      unfold inSeqD
      dsimp only
      rw [if_pos ⟨rfl, flat_ints⟩, inS_int]
      rfl
    unfold inD orOp
    rw [e]) q
theorem x_ninIT {v : Int} {ws : List Int} (h1 : x.peek ρ = some (.int v)) (h2 : y.peek ρ = some (.tup (ws.map D.int))) (q : Q (.d (.bl (!decide (v ∈ ws)))) ρ) : (opV ninD x y ρ).wp Q X :=
  b_opV (z := .d (.bl (!decide (v ∈ ws)))) h1 h2 (by
    have e : inSeqD true (.int v) (.tup (ws.map D.int)) = some (.d (.bl (!decide (v ∈ ws)))) := by
      unfold inSeqD
      dsimp only
      rw [if_pos ⟨rfl, flat_ints⟩, inS_int]
      rfl
    unfold ninD orOp
    rw [e]) q
theorem x_inIT {v : Int} {ws : List Int} (h1 : x.peek ρ = some (.int v)) (h2 : y.peek ρ = some (.tup (ws.map D.int))) (q : Q (.d (.bl (decide (v ∈ ws)))) ρ) : (opV inD x y ρ).wp Q X :=
  b_opV (z := .d (.bl (decide (v ∈ ws)))) h1 h2 (by
    have e : inSeqD false (.int v) (.tup (ws.map D.int)) = some (.d (.bl (decide (v ∈ ws)))) := by
      unfold inSeqD
      dsimp only
      rw [if_pos ⟨rfl, flat_ints⟩, inS_int]
      rfl
    unfold inD orOp
    rw [e]) q
theorem x_addL {xs ys : List D} (h1 : x.peek ρ = some (.lst xs)) (h2 : y.peek ρ = some (.lst ys)) (hl : xs.length + ys.length ≤ 16777216) (q : Q (.fr (.lst (xs ++ ys))) ρ) : (opV addD x y ρ).wp Q X :=
  b_opV h1 h2 (by
    show (match (if xs.length + ys.length ≤ sizeLine then some (Val.fr (.lst (xs ++ ys))) else none) with | some z => some z | none => addT _ _) = _
    rw [if_pos (show xs.length + ys.length ≤ sizeLine by unfold sizeLine; omega)]) q
theorem x_addT {xs ys : List D} (h1 : x.peek ρ = some (.tup xs)) (h2 : y.peek ρ = some (.tup ys)) (hl : xs.length + ys.length ≤ 16777216) (q : Q (.d (.tup (xs ++ ys))) ρ) : (opV addD x y ρ).wp Q X :=
  b_opV h1 h2 (by
    show (if xs.length + ys.length ≤ sizeLine then some (Val.d (.tup (xs ++ ys))) else none) = _
    rw [if_pos (show xs.length + ys.length ≤ sizeLine by unfold sizeLine; omega)]) q
theorem x_repL {xs : List D} {k : Int} (h1 : x.peek ρ = some (.lst xs)) (h2 : y.peek ρ = some (.int k)) (hk : -1000000000 ≤ k ∧ k < 1000000000) (hl : xs.length * k.toNat ≤ 16777216) (q : Q (.fr (.lst (List.replicate k.toNat xs).flatten)) ρ) : (opV mulD x y ρ).wp Q X :=
  b_opV h1 h2 (by
    show (if -(2 ^ 63) ≤ k ∧ k < 2 ^ 63 ∧ xs.length * k.toNat ≤ sizeLine then some (Val.fr (.lst (List.replicate k.toNat xs).flatten)) else none) = _
    rw [if_pos ⟨by omega, by omega, by unfold sizeLine; omega⟩]) q
end
end DL
set_option maxHeartbeats 2000000
/-! DL19: type names, isinstance, set comprehensions of ints, dict comprehensions. -/
namespace DL
open PySem PySem.Spec PyProof.Rows L2
section
variable {X : Cx} {W : WX} {pos : Pos}
theorem de_bty {x : Str} {n : String} (hg : Gl X x) (hm : X.mg x = none) (hv : bootBuiltins x = some (.type n)) (hn : x ≠ "__name__" := by decide) (hd : (x == ("__debug__" : Str)) = false := by decide) : DE X W (.Name x pos) (eC (.ty n)) :=
  de_const (t := tC .non) (pe_bltn (v := .ty n) hg hm hv rfl hn hd) fun _ => .ty n
end
/-! ### isinstance -/
def tyN : D → Option String
  | .non => some "NoneType"
  | .bl _ => some "bool"
  | .int _ => some "int"
  | .str _ => some "str"
  | .tup _ => some "tuple"
  | .lst _ => some "list"
  | .dic _ _ => some "dict"
  | _ => none
/-- the answer, for the types that the texts ask for -/
def isB (t n : String) : Option Bool :=
  if n = "int" then some (t == "int" || t == "bool") else if n = "bool" ∨ n = "str" ∨ n = "tuple" ∨ n = "list" ∨ n = "dict" then some (t == n) else none
def isiD : List D → Option Val
  | [a, .ty n] => match tyN a with
    | some t => (isB t n).map fun b => .d (.bl b)
    | none => none
  | _ => none
theorem isB_ok {a : D} {t n : String} {b : Bool} (e : tyN a = some t) (h : isB t n = some b) : kitB t n = some b := by
  have ht : t = "NoneType" ∨ t = "bool" ∨ t = "int" ∨ t = "str" ∨ t = "tuple" ∨ t = "list" ∨ t = "dict" := by
    cases a <;> simp_all [tyN]
  have hn : n = "int" ∨ n = "bool" ∨ n = "str" ∨ n = "tuple" ∨ n = "list" ∨ n = "dict" := by
    unfold isB at h
    split at h
    · rename_i z; exact .inl z
    · split at h
      · rename_i z; exact .inr z
      · cases h
  rcases ht with rfl | rfl | rfl | rfl | rfl | rfl | rfl <;> rcases hn with rfl | rfl | rfl | rfl | rfl | rfl <;> (revert h; revert b; decide +kernel)
theorem tyX_of {K : PySem.W.Frag} {F H : Hp} {v : V} {a : D} {t : String} (s : Same F H) (r : RepT K F H v a) (e : tyN a = some t) : TyX K H v (.type t) := by
  cases a with
  | non => cases e; obtain rfl := r.non; exact .base .non
  | bl b => cases e; obtain rfl := r.bl; exact .base (.bl b)
  | int i => cases e; obtain rfl := r.int; exact .base (.int i)
  | str x => cases e; obtain rfl := r.str; exact .base (.str x)
  | tup ds =>
    cases e
    obtain ⟨p, xs, rfl, q, _⟩ := r.tup s
    rcases q with (q | ⟨o, q⟩) | ⟨o, its, n, q, c, _⟩
    · exact .base (.tup q)
    · exact .fTuple q
    · exact .kTuple q c
  | lst ds => cases e; obtain ⟨p, xs, rfl, q, _⟩ := r.lst; exact .base (.lst q)
  | dic ks ds =>
    cases e
    obtain ⟨p, xs, rfl, q, _⟩ := r.dic
    rcases q with q | ⟨o, q⟩
    · exact .base (.dK q)
    · exact .fDict q
  | _ => cases e
theorem cs_isi {K : PySem.W.Frag} : CallS K (rIsi K) isiD := by
  intro F H vs as z Q s ra e q
  unfold isiD at e
  split at e
  · rename_i a n
    obtain ⟨v, w, rfl, r1, r2⟩ := rep2 ra
    have hw : w = .ty n := by cases (show Rep K F w (.ty n) from r2); rfl
    subst hw
    split at e
    · rename_i t ht
      cases hb : isB t n with
      | none => rw [hb] at e; cases e
      | some b =>
        rw [hb] at e; cases e
        exact ⟨v, .ty n, .type t, .type n, b, rfl, .ty n, tyX_of s r1 ht, kit_ty (isB_ok ht hb), vn_bl s q⟩
    · cases e
  · cases e

/-! ### set comprehensions of ints -/
section
variable {X : Cx}
theorem addI_ok {pins : List (Addr × Obj)} {σ : L2.St} {H : Hp} {s : Shared} {E : Value → Shared → Prop} {D : Addr} {S : Int → Bool} {n : Nat} {y : Int} {tk : Tok} {Q : Value → Shared → Prop} (I : Inv X pins σ H s) (q : H D = some (SetO X.w D S n)) (room : n + 1 < scanBound)
    (k : ∀ z, Inv X pins σ (upd H D (SetO X.w D (fun j => S j || decide (j = y)) (if S y = true then n else n + 1))) z → Q .none z) : wpAny (model X.prog X.w) X.A (call (.builtin "set.add") [.ref D, .int y tk]) Q E s :=
  setR_add (setO_get I q) room fun hz sb nw => k _ (I.write (e := D) (t' := s.toks + 1) (by rw [q]; trivial) (.inl rfl) (fun b u hb hu => (sb.2 b hb).trans hu) (let ⟨o, _, _, _, ho, _⟩ := nw; ⟨o, ho⟩) (setO_new nw))
/-- {elt for target in iter if ..}, elt an int -/
def tScI (w : World) (wi : TI) (g : TG) (tt : TT) (te : TE) (vs : List Nat) : TE := fun σ H Q => wi σ H fun J Ha => ∀ D, Ha D = none →
  ∃ W : Nat → Nat → Hp → Prop, (∃ m, W 0 m (upd Ha D (SetO w D (fun _ => false) 0))) ∧ ∀ i m Hb, W i m Hb →
    (J.stop i Hb ∧ Q (.ref D) Hb) ∨ (J.go i Hb ∧ ∃ Nx : Hp → Prop, (∀ Hc, Nx Hc → ∃ k, k < m ∧ W (i + 1) k Hc) ∧ ∀ x Hc, J.yld i Hb x Hc → g x (wipe σ vs) Hc fun τ Hd => wipe τ vs = wipe σ vs ∧ tt τ Hd fun b He =>
      if b = true then te τ He fun y Hf => ∃ (c : Int) (S : Int → Bool) (n : Nat), y = .int c ∧ Hf D = some (SetO w D S n) ∧ n + 1 < scanBound ∧ Nx (upd Hf D (SetO w D (fun j => S j || decide (j = c)) (if S c = true then n else n + 1))) else Nx He)
abbrev clo (X : Cx) (s : Shared) (sc : Scope) : Env := compEnvC sc (cellsFrom (s.heap.objs.size + 1) sc.names (cloFrom X.env.cells sc.names [])) s.heap.objs.size X.env
theorem pe_scI {elt tg iter : Expr} {ifs : List Expr} {scope : Scope} {own : List (PySem.Str × Nat)} {pos : Pos} {wi : TI} {g : TG} {tt : TT} {te : TE} (calm : X.calm = true) (nd : X.N.Nodup) (pi : PI X tg iter wi) (bk : BlkOk X.N X.env.scope scope own)
    (pgs : ∀ (s : Shared) (H : Hp) (C : Addr) (cl : List (PySem.Str × Addr)) (fp : List Addr), PG (X.blk s H scope (compEnvC scope cl C X.env) fp) tg g)
    (pts : ∀ (s : Shared) (H : Hp) (C : Addr) (cl : List (PySem.Str × Addr)) (fp : List Addr), PTs (X.blk s H scope (compEnvC scope cl C X.env) fp) ifs tt)
    (pes : ∀ (s : Shared) (H : Hp) (C : Addr) (cl : List (PySem.Str × Addr)) (fp : List Addr), PE (X.blk s H scope (compEnvC scope cl C X.env) fp) elt te) (fold : ∀ x, foldedSetIterable iter X.env x = pure x := by intro _; rfl) :
    PE X (.SetComp elt [⟨tg, iter, ifs, 0⟩] scope pos) (tScI X.w wi g tt te (own.map (·.2))) := ⟨fun pins s σ H Q I hq => by
  rw [PpSet.eval_SetComp]
  refine wpAny_comprehension_free rfl fold (closure_ok fun y hy e => (bk.free y hy e).elim (fun k => I.ok.has _ (.inl k)) fun k => I.ok.has _ (.inr k)) bk.kind (fun y hy e => by rw [bk.uniq y hy, e]) (thn (pi.run pins s σ H _ I hq) fun _ sa ha => thn ha fun _ sb ⟨it, fp, tn, J, Ha, e, Ia, T, sta, fpa, qa⟩ => ?_)
  subst e
  refine PpSet.newSet_ok (newEnv_comp ?_)
  obtain ⟨D, hD⟩ : ∃ D, D = sb.heap.objs.size := ⟨_, rfl⟩
  rw [← hD]
  have nD : Ha D = none := Ia.hok.fresh (Nat.le_of_eq hD.symm)
  obtain ⟨Wp, ⟨m0, w0⟩, turn⟩ := qa D nD
  obtain ⟨Hz, hHz⟩ : ∃ Hz, Hz = upd Ha D (SetO X.w D (fun _ => false) 0) := ⟨_, rfl⟩
  obtain ⟨sc, hsc⟩ : ∃ sc : Shared, sc = { sb with heap := sb.heap.push { cls := .type "set", dict := none, data := .set #[] 0 (.fresh 0 0 (!X.w.params.followText "set-order")) } } := ⟨_, rfl⟩
  have up : ∀ b o, sb.heap.get? b = some o → sc.heap.get? b = some o := fun b o e => by rw [hsc]; exact Heap.get?_push_of_some _ e
  have Ic : Inv X pins σ Hz sc := by
    rw [hsc, hHz]
    exact Ia.laid (t' := sb.toks) (fun _ _ e => Heap.get?_push_of_some _ e) (Nat.le_of_eq hD.symm) (by rw [hD]; exact setO_new (setR_fresh X.w))
  have fpc : ∀ b ∈ fp, FpOk X pins Hz b ∧ b < sc.heap.objs.size := fun b hb => by
    obtain ⟨o, e, _⟩ := T.obj _ _ sta b hb
    have lt := Heap.lt_size e
    exact ⟨⟨by rw [hHz, upd_ne (by rw [hD]; exact Nat.ne_of_lt lt)]; exact (fpa b hb).1, (fpa b hb).2⟩, Heap.lt_size (up _ _ e)⟩
  rw [← hHz] at w0
  have stc : tn 0 sc.heap := T.keep _ _ _ sta fun b _ o e => up b o e
  have Id := block_start Ic bk nd fpc
  rw [show ({ sb with heap := sb.heap.push { cls := .type "set", dict := none, data := .set #[] 0 (.fresh 0 0 (!X.w.params.followText "set-order")) } } : Shared) = sc from hsc.symm]
  change codeAny _ _ (.compStart (.SetComp elt [⟨tg, iter, ifs, 0⟩] scope pos) 0 (.ref it) (.ref D) (clo X sc scope)) _ { sc with heap := pushCells (sc.heap.push { cls := .type "dict", data := .dict #[] }) scope.names }
  have pg := pgs sc Hz sc.heap.objs.size (cellsFrom (sc.heap.objs.size + 1) scope.names (cloFrom X.env.cells scope.names [])) fp
  have pt := pts sc Hz sc.heap.objs.size (cellsFrom (sc.heap.objs.size + 1) scope.names (cloFrom X.env.cells scope.names [])) fp
  have pe := pes sc Hz sc.heap.objs.size (cellsFrom (sc.heap.objs.size + 1) scope.names (cloFrom X.env.cells scope.names [])) fp
  obtain ⟨ce, hce⟩ : ∃ ce, ce = clo X sc scope := ⟨_, rfl⟩
  have lC : ce.locals = sc.heap.objs.size := by rw [hce]; rfl
  change Inv (X.blk sc Hz scope (clo X sc scope) fp) _ _ _ _ at Id
  change PG (X.blk sc Hz scope (clo X sc scope) fp) tg g at pg
  change PTs (X.blk sc Hz scope (clo X sc scope) fp) ifs tt at pt
  change PE (X.blk sc Hz scope (clo X sc scope) fp) elt te at pe
  rw [← hce] at Id pg pt pe ⊢
  obtain ⟨sd, hsd⟩ : ∃ sd : Shared, sd = { sc with heap := pushCells (sc.heap.push { cls := .type "dict", data := .dict #[] }) scope.names } := ⟨_, rfl⟩
  rw [← hsd] at Id ⊢
  have std : tn 0 sd.heap := T.keep _ _ _ stc fun b _ o e => by rw [hsd]; exact pushCells_keeps _ _ _ _ (Heap.get?_push_of_some _ e)
  have fz0 : ∀ b ∈ fp, Hz b = none := fun b hb => (fpc b hb).1.1
  have ok0 : ∀ {τ : L2.St} {Hy : Hp} {sy : Shared}, Inv (X.blk sc Hz scope ce fp) [] τ Hy sy → (∀ b ∈ fp, Hy b = none) → ∀ b ∈ fp, FpOk (X.blk sc Hz scope ce fp) [] Hy b := fun {τ Hy sy} Iy n b hb =>
    ⟨n b hb, (Iy.ok.exf b hb).1, Iy.ok.exfs b hb, .inl hb, fun x c e => (Iy.ok.exf b hb).2 x c e, fun p hp => absurd (show p ∈ ([] : List (Addr × Obj)) ++ [] from hp) (by simp)⟩
  refine (fun lp => PpSet.codeAny_compStart_set lp (T.self X.A 0 _ _ _ std lp)) (PpSet.compLoopS_any (fun n sy => ∃ i Hy, Inv (X.blk sc Hz scope ce fp) [] (wipe σ (own.map (·.2))) Hy sy ∧ tn i sy.heap ∧ (∀ b ∈ fp, Hy b = none) ∧ Wp i n Hy) ?_ m0 ⟨0, Hz, Id, std, fz0, w0⟩)
  rintro n se ⟨i, He, Ie, ste, fze, we⟩
  rcases turn i n He we with ⟨stop, hQ⟩ | ⟨go, Nx, less, step⟩
  · refine thnF (T.done (X.blk sc Hz scope ce fp) rfl rfl rfl calm i [] se _ He (fun _ _ => False) Ie (ok0 Ie fze) ste stop) fun r sf ⟨hr, If⟩ => ?_
    subst hr
    have Ig : Inv X pins σ He sf := Ic.call' (ch := fp) If.os If.base If.hok If.bare fun b hb => let z := (fpc b hb).1.2; ⟨z.2.2.1, z.1, z.2.2.2.1, z.2.2.2.2⟩
    have nC : He sc.heap.objs.size = none := by rw [← lC]; exact If.free
    obtain ⟨m, hn, _⟩ := If.loc
    have hn : sf.heap.Ns ce.locals m := hn
    rw [lC] at hn
    refine ⟨m, hn, fun hh sb' => ?_⟩
    obtain ⟨f0, f1, f2, f3, f4, f5⟩ := Ic.fpOk (Nat.le_refl _) nC
    exact ⟨.ref D, He, Ig.turned (t' := sf.toks) (fun b o hb e => (sb'.2 b hb).trans e) f0 f1 f3 f4 f5, rfl, hQ⟩
  · refine thnF (T.item (X.blk sc Hz scope ce fp) rfl rfl rfl calm i [] se _ He (fun _ _ => False) Ie (ok0 Ie fze) ste go) fun r sf ⟨u, hr, hf⟩ => ?_
    subst hr
    refine thnF hf fun _ sg ⟨x, Hg, Ig, rg, yg, stg, fzg⟩ => ?_
    refine thnF (pg.run _ sg _ Hg x u _ (Ig.pinned (ok0 Ig fzg) (T.obj _ _ stg)) rg (step x Hg yg)) fun _ sh ⟨τ, Hh, Ih, ew, qh⟩ => ?_
    refine thnF (pt.run _ sh τ Hh _ Ih qh) fun b si ⟨Hi, Ii, qi⟩ => ?_
    have back : ∀ {sy : Shared} {Hy : Hp}, Inv (X.blk sc Hz scope ce fp) ([] ++ pinsAt fp sg.heap) τ Hy sy → Nx Hy → ∃ m, m < n ∧ ∃ i Hy, Inv (X.blk sc Hz scope ce fp) [] (wipe σ (own.map (·.2))) Hy sy ∧ tn i sy.heap ∧ (∀ b ∈ fp, Hy b = none) ∧ Wp i m Hy := fun {sy Hy} Iy nx => by
      obtain ⟨k, hk, wk⟩ := less Hy nx
      have pin : ∀ b ∈ fp, ∀ o, sg.heap.get? b = some o → sy.heap.get? b = some o ∧ Hy b = none := fun b hb o e => let z := Iy.pin (b, o) (List.mem_append_right _ (List.mem_append_right _ (mem_pinsAt hb e))); ⟨z.1, z.2.1⟩
      refine ⟨k, hk, i + 1, Hy, (Iy.unpinned (pins := [])).weak (by rw [← ew, wipe_length]) (fun j v e => by rw [← ew] at e; exact (wipe_some e).1), T.keep _ _ _ stg fun b hb o e => (pin b hb o e).1, fun b hb => ?_, wk⟩
      obtain ⟨o, e, _⟩ := T.obj _ _ stg b hb
      exact (pin b hb o e).2
    cases b with
    | false =>
      rw [if_neg Bool.false_ne_true] at qi
      exact back Ii qi
    | true =>
      rw [if_pos rfl] at qi
      refine thnF (pe.run _ si τ Hi _ Ii qi) fun z sj ⟨yv, Hj, Ij, rj, c, S, k, ey, hDj, room, nx⟩ => ?_
      subst ey
      obtain ⟨tk, rfl⟩ := rj
      exact addI_ok (X := X.blk sc Hz scope ce fp) Ij hDj room fun sk Ik => back Ik nx⟩
end
/-! ### comprehensions, whatever they fill -/
def compA {α : Type} (own : List Nat) (tg : Val → SM) (tt : M Bool) (step : α → M α) : List D → α → M α
  | [], acc, ρ => .ok acc ρ
  | d :: ds, acc, ρ => match tg (.d d) ρ with
    | .nx ρ1 => match tt ρ1 with
      | .ok b ρ2 => if b = true then (match step acc ρ2 with
        | .ok acc' ρ3 => compA own tg tt step ds acc' (wipeD ρ3 own)
        | _ => .bad) else compA own tg tt step ds acc (wipeD ρ2 own)
      | _ => .bad
    | _ => .bad
def eGc {α : Type} (own : List Nat) (f : IM) (tg : Val → SM) (tt : M Bool) (step : α → M α) (a0 : α) : M α := fun ρ => (f ρ).bind fun src ρ1 =>
  if inB own ρ1 = true ∧ src.1.length < 16777216 then
    (match compA own tg tt step src.1 a0 (wipeD (lockS src.2 ρ1) own) with
    | .ok ys ρ2 => .ok ys (unlk src.2 ρ1 (backD (lockS src.2 ρ1) ρ2 own))
    | _ => .bad)
  else .bad
def tGc (wi : TI) (g : TG) (tt : TT) (o0 : Addr → HO) (ST : Addr → L2.St → Hp → (Hp → Prop) → Prop) (vs : List Nat) : TE := fun σ H Q => wi σ H fun J Ha => ∀ D, Ha D = none →
  ∃ W : Nat → Nat → Hp → Prop, (∃ m, W 0 m (upd Ha D (o0 D))) ∧ ∀ i m Hb, W i m Hb →
    (J.stop i Hb ∧ Q (.ref D) Hb) ∨ (J.go i Hb ∧ ∃ Nx : Hp → Prop, (∀ Hc, Nx Hc → ∃ k, k < m ∧ W (i + 1) k Hc) ∧ ∀ x Hc, J.yld i Hb x Hc → g x (wipe σ vs) Hc fun τ Hd => wipe τ vs = wipe σ vs ∧ tt τ Hd fun b He =>
      if b = true then ST D τ He Nx else Nx He)
/-- how the object at D bears what is filled -/
structure Fill {α : Type} (K : PySem.W.Frag) (mg : Str → Option Value) (o0 : Addr → HO) (a0 : α) (AR : Addr → Hp → HO → α → Prop) (μ : α → Nat) (step : α → M α) (ST : Addr → L2.St → Hp → (Hp → Prop) → Prop) : Prop where
  new : ∀ D F, AR D F (o0 D) a0
  new0 : μ a0 = 0
  mono : ∀ D F F' o a, RdLe F F' → AR D F o a → AR D F' o a
  step : ∀ D a a' σ ρ ρ' F H o i Nx, SR K F H σ ρ → H D = some o → AR D F o a → ¬ Ow σ ρ D → F D = none → μ a ≤ i → i < 16777216 → step a ρ = .ok a' ρ' →
    (∀ F' H' o', SR K F' H' σ ρ' → Ev σ ρ F H σ ρ' F' H' → AR D F' o' a' → μ a' ≤ i + 1 → Nx (upd H' D o')) → ST D σ H Nx
def relG {α : Type} (σ : L2.St) (AR : Addr → Hp → HO → α → Prop) : RelT V α := fun Hb F' H' ρ' v a => ∃ D o, v = .ref D ∧ Hb D = none ∧ F' D = none ∧ H' D = some o ∧ AR D F' o a ∧ ¬ Ow σ ρ' D
theorem relG_from {α : Type} {σ : L2.St} {AR : Addr → Hp → HO → α → Prop} {ρ ρ1 : DEnv} {F H F1 H1 : Hp} (ev : Ev σ ρ F H σ ρ1 F1 H1) : ∀ F' H' ρ' v x, relG σ AR H1 F' H' ρ' v x → relG σ AR H F' H' ρ' v x := fun F' H' ρ' v x ⟨D, o, e, n, r⟩ => by
  refine ⟨D, o, e, ?_, r⟩
  cases q : H D with
  | none => rfl
  | some u => exact absurd n (ev.dom D (by rw [q]; simp))
section
variable {X : Cx} {W : WX} {tg iter elt : Expr} {ifs : List Expr} {fi : IM} {h : Val → SM} {tt : M Bool} {S : List Nat} {own : List (Str × Nat)} {scope : Scope} {pos : Pos}
variable {α : Type} {o0 : Addr → HO} {a0 : α} {AR : Addr → Hp → HO → α → Prop} {μ : α → Nat} {step : α → M α} {ST : Addr → L2.St → Hp → (Hp → Prop) → Prop}
theorem gc_ok {σ : L2.St} {H : Hp} {Q : VK} (fl : Fill X.K X.mg o0 a0 AR μ step ST) (hS : ∀ i ∈ S, i ∈ own.map (·.2)) (hq : ∃ F ρ, SR X.K F H σ ρ ∧ Out X.K X.mg (fun c d H => W c d σ H) (relG σ AR) σ ρ F H (eGc (own.map (·.2)) fi h tt step a0 ρ) Q) :
    tGc (tI X.K X.mg W fi) (tG X.K S h) (tT X.K X.mg W0 tt) o0 ST (own.map (·.2)) σ H Q := by
  generalize own.map (·.2) = vs at *
  obtain ⟨F, ρ, sr, q⟩ := hq
  refine ⟨F, ρ, sr, (Out.bind (rel := relI X.K σ) q).mono fun J H1 ⟨src, F1, ρ1, e1, s1, ev1, ⟨its, hk⟩, o1⟩ => ?_⟩
  obtain ⟨ds, lk⟩ := src
  have o2 := o1.from ev1 (relG_from ev1)
  dsimp only at o2 its hk
  split at o2
  rotate_left
  · exact o2.elim
  rename_i hcond
  obtain ⟨hin, hlen⟩ := hcond
  have sL := lock_sr (lk := lk) s1
  have hvs : ∀ v ∈ vs, v < (lockS lk ρ1).length := fun v hv => by
    have := List.all_eq_true.mp hin v hv
    have := of_decide_eq_true this
    rw [← sL.len, s1.len]; exact this
  have sW := sr_wipe (vs := vs) sL
  -- what is to be shown of the list that comes out
  have fin : ∀ {ys : α} {ρ2 : DEnv} {F2 H2 : Hp} {D : Addr} {yv : HO}, compA vs h tt step ds a0 (wipeD (lockS lk ρ1) vs) = .ok ys ρ2 → SR X.K F2 H2 (wipe σ vs) ρ2 → Ev (wipe σ vs) (wipeD (lockS lk ρ1) vs) F1 H1 (wipe σ vs) ρ2 F2 H2 → (∀ i ∈ vs, ∀ c m, ρ2[i]? ≠ some (.ow c m)) →
      H1 D = none → F2 D = none → H2 D = some yv → AR D F2 yv ys → ¬ Ow (wipe σ vs) ρ2 D → Q (.ref D) H2 := fun {ys ρ2 F2 H2 D yv} e s ev hu nD nF hD ry no => by
    rw [e] at o2
    obtain ⟨s3, ev3⟩ := out_wipe sL hvs s ev hu
    obtain ⟨s4, ev4⟩ := unlk_ok s1 s3 ev3
    refine o2 (.ref D) F2 H2 s4 ev4 ⟨D, yv, rfl, nD, nF, hD, ry, fun z => ?_⟩
    rcases ev4.own' D z with z1 | ⟨i, c, m, z1, z2⟩
    · obtain ⟨i, c, m, q1, q2⟩ := z
      -- an owner of D in the end: it is one of the block's end or one ahead of it
      have g : Ow σ (backD (lockS lk ρ1) ρ2 vs) D := by
        refine ow_mode (ρ := unlk lk ρ1 (backD (lockS lk ρ1) ρ2 vs)) (fun j c1 m1 q' => ?_) ⟨i, c, m, q1, q2⟩
        unfold unlk at q'
        split at q'
        · exact ⟨_, q'⟩
        · rename_i k
          split at q'
          · rename_i c' m' hk'
            by_cases hj : k = j
            · subst hj
              have hkl : k < ρ1.length := (List.getElem?_eq_some_iff.mp hk').1
              obtain ⟨b1, c2, b2, b3⟩ := ev3.bor k c' .lck (by unfold lockS; dsimp only; rw [hk']; exact List.getElem?_set_self hkl) (by decide)
              rw [List.getElem?_set_self (List.getElem?_eq_some_iff.mp b2).1] at q'
              cases q'
              exact ⟨_, by rw [b2, b3 rfl]⟩
            · rw [List.getElem?_set_ne hj] at q'; exact ⟨_, q'⟩
          · exact ⟨_, q'⟩
      obtain ⟨i, c, m, q1, q2⟩ := g
      rcases backD_get q1 hvs with ⟨w, _⟩ | ⟨w, n⟩
      · obtain ⟨ov, g1, a, g2, _, g4⟩ := sL.slot i _ w
        rw [q2] at g1; cases g1; cases g2
        obtain ⟨o, ho⟩ := g4.some
        rw [nD] at ho; cases ho
      · exact no ⟨i, c, m, w, by rw [wipeS_keep n]; exact q2⟩
    · obtain ⟨ov, g1, a, g2, _, g4⟩ := s1.slot i _ z1
      rw [z2] at g1; cases g1; cases g2
      obtain ⟨o, ho⟩ := g4.some
      rw [nD] at ho; cases ho
  have noD : ∀ {D : Addr}, H1 D = none → ¬ Ow (wipe σ vs) (wipeD (lockS lk ρ1) vs) D := fun {D} nD ⟨i, c, m, z1, z2⟩ => by
    obtain ⟨ov, g1, a, g2, _, g4⟩ := sW.slot i _ z1
    rw [z2] at g1; cases g1; cases g2
    obtain ⟨o, ho⟩ := g4.some
    rw [nD] at ho; cases ho
  have unW : ∀ i ∈ vs, ∀ c m, (wipeD (lockS lk ρ1) vs)[i]? ≠ some (.ow c m) := fun i hi c m z => by
    rcases wipeD_get z with ⟨w, _⟩ | ⟨_, n⟩
    · cases w
    · exact n hi
  intro D nD
  refine ⟨fun i m H' => m = ds.length - i ∧ i ≤ ds.length ∧ ∃ F' ρ' yv ys, SR X.K F' H' (wipe σ vs) ρ' ∧ Ev (wipe σ vs) (wipeD (lockS lk ρ1) vs) F1 H1 (wipe σ vs) ρ' F' H' ∧ H' D = some yv ∧ AR D F' yv ys ∧ F' D = none ∧ ¬ Ow (wipe σ vs) ρ' D ∧ μ ys ≤ i ∧ (∀ i ∈ vs, ∀ c m, ρ'[i]? ≠ some (.ow c m)) ∧
    compA vs h tt step (ds.drop i) ys ρ' = compA vs h tt step ds a0 (wipeD (lockS lk ρ1) vs), ⟨ds.length, rfl, Nat.zero_le _, F1, wipeD (lockS lk ρ1) vs, o0 D, a0, sr_other sW (Same.free sW.sub nD) (noD nD), ev_other .refl nD, upd_same, fl.new _ _, Same.free sW.sub nD, noD nD, Nat.le_of_eq fl.new0, unW, rfl⟩, ?_⟩
  rintro i m H' ⟨rfl, hi', F', ρ', yv, ys, s', ev', hD, ry, nF, no, hyl, hu, eq'⟩
  have pre : PreI σ lk F1 H1 F' H' := by
    refine ⟨ev'.ext, fun i e a o q1 q2 => ev'.keep a o q2 fun ⟨j, c1, m1, z1, z2, z3⟩ => ?_⟩
    subst e
    rcases wipeD_get z1 with ⟨w, _⟩ | ⟨z1, nj⟩
    · cases w
    · rw [wipeS_keep nj] at z3
      obtain ⟨c, m, qk⟩ := hk i rfl
      have hl : i < ρ1.length := (List.getElem?_eq_some_iff.mp qk).1
      unfold lockS at z1
      dsimp only at z1
      rw [qk] at z1
      dsimp only at z1
      by_cases hj : i = j
      · subst hj; rw [List.getElem?_set_self hl] at z1; cases z1; exact z2 rfl
      · rw [List.getElem?_set_ne hj] at z1
        exact hj (s1.dist i j _ _ _ _ a qk z1 q1 z3)
  by_cases hlt : i < ds.length
  · refine .inr ⟨its.go i F' H' hlt s'.sub pre, fun H2 => ∃ F2 ρ2 yv2 ys2, SR X.K F2 H2 (wipe σ vs) ρ2 ∧ Ev (wipe σ vs) (wipeD (lockS lk ρ1) vs) F1 H1 (wipe σ vs) ρ2 F2 H2 ∧ H2 D = some yv2 ∧ AR D F2 yv2 ys2 ∧ F2 D = none ∧ ¬ Ow (wipe σ vs) ρ2 D ∧ μ ys2 ≤ i + 1 ∧ (∀ i ∈ vs, ∀ c m, ρ2[i]? ≠ some (.ow c m)) ∧
      compA vs h tt step (ds.drop (i + 1)) ys2 ρ2 = compA vs h tt step ds a0 (wipeD (lockS lk ρ1) vs), fun H2 hN => ⟨ds.length - (i + 1), by omega, rfl, hlt, hN⟩, fun x H3 hy => ?_⟩
    obtain ⟨d, F3, hd, gr, rx⟩ := its.yld i x F' H' H3 hlt s'.sub pre hy
    have s3 := gr.sr s'
    have ev3 := ev'.trans gr.ev
    have e3 : ds.drop i = d :: ds.drop (i + 1) := by
      have e4 : ds[i] = d := by rw [List.getElem?_eq_getElem hlt] at hd; exact Option.some.inj hd
      rw [List.drop_eq_getElem_cons hlt, e4]
    -- the list so far through each step
    have keepD : ∀ {σ2 : L2.St} {ρ2 : DEnv} {F2 H2 : Hp}, Ev (wipe σ vs) ρ' F3 H3 σ2 ρ2 F2 H2 → H2 D = some yv ∧ AR D F2 yv ys ∧ F2 D = none ∧ ¬ Ow σ2 ρ2 D := fun {σ2 ρ2 F2 H2} ev => by
      have hD3 : H3 D = some yv := gr.all _ _ hD
      have nF3 : F3 D = none := by
        cases hF : F3 D with
        | none => rfl
        | some u =>
          have := gr.newF D nF (by rw [hF]; simp)
          rw [hD] at this; cases this
      refine ⟨ev.keep D _ hD3 fun z => no z.ow, fl.mono _ _ _ _ _ (.of (gr.ext.trans ev.ext)) ry, ?_, fun z => ?_⟩
      · cases hF : F2 D with
        | none => rfl
        | some u =>
          rcases ev.newF D nF3 (by rw [hF]; simp) with z | z
          · rw [hD3] at z; cases z
          · exact absurd z no
      · rcases ev.own' D z with z | z
        · rw [hD3] at z; cases z
        · exact no z
    -- the block's outcome is no failure
    have good : ∃ zs ρz, compA vs h tt step (ds.drop i) ys ρ' = .ok zs ρz := by
      rw [eq']
      cases hcd : compA vs h tt step ds a0 (wipeD (lockS lk ρ1) vs) with
      | ok zs ρz => exact ⟨zs, ρz, rfl⟩
      | ex x ρz => rw [hcd] at o2; exact o2.elim
      | bad => rw [hcd] at o2; exact o2.elim
    rw [e3] at eq' good
    dsimp only [compA] at eq' good
    cases ht : h (.d d) ρ' with
    | nx ρ4 =>
      rw [ht] at eq' good
      dsimp only at eq' good
      refine ⟨wipe σ vs, ρ', F3, H3, F3, ρ', .d d, s3, .refl, rx, ?_⟩
      rw [ht]
      refine fun σ4 F4 H4 s4 ev4 of4 => ⟨wipe_off of4 hS, F4, ρ4, s4, ?_⟩
      cases htt : tt ρ4 with
      | bad => rw [htt] at good; obtain ⟨_, _, z⟩ := good; cases z
      | ex x ρ5 => rw [htt] at good; obtain ⟨_, _, z⟩ := good; cases z
      | ok b ρ5 =>
        rw [htt] at eq' good
        dsimp only at eq' good
        refine fun b' F5 H5 s5 ev5 eb => ?_
        have eb : b' = b := eb
        subst eb
        have ev45 := ev4.trans ev5
        have e4 := wipe_off of4 hS
        have sl : ∀ {σx : L2.St} {ρx : DEnv} {Fx Hx : Hp}, σx = σ4 → SR X.K Fx Hx σx ρx → Ev (wipe σ vs) ρ' F3 H3 σx ρx Fx Hx → SR X.K Fx Hx (wipe σ vs) (wipeD ρx vs) ∧ Ev (wipe σ vs) (wipeD (lockS lk ρ1) vs) F1 H1 (wipe σ vs) (wipeD ρx vs) Fx Hx ∧ ∀ i ∈ vs, ∀ c m, (wipeD ρx vs)[i]? ≠ some (.ow c m) := fun {σx ρx Fx Hx} ex sx evx => by
          subst ex
          obtain ⟨w1, w2⟩ := in_wipe e4 sx evx (fun i c m q hi => hu i hi c m q)
          refine ⟨w1, ev3.trans w2, fun i hi c m z => ?_⟩
          rcases wipeD_get z with ⟨w, _⟩ | ⟨_, n⟩
          · cases w
          · exact n hi
        cases b' with
        | false =>
          refine iteF ?_
          rw [if_neg Bool.false_ne_true] at eq'
          obtain ⟨k1, k2, k3, k4⟩ := keepD ev45
          obtain ⟨w1, w2, w3⟩ := sl rfl s5 ev45
          exact ⟨F5, wipeD ρ5 vs, yv, ys, w1, w2, k1, k2, k3, fun z => k4 (by rw [← e4] at z; exact ow_wipe z), by omega, w3, eq'⟩
        | true =>
          refine iteT ?_
          rw [if_pos rfl] at eq' good
          cases he : step ys ρ5 with
          | bad => rw [he] at good; obtain ⟨_, _, z⟩ := good; cases z
          | ex x ρ6 => rw [he] at good; obtain ⟨_, _, z⟩ := good; cases z
          | ok ys' ρ6 =>
            rw [he] at eq'
            dsimp only at eq'
            obtain ⟨k1, k2, k3, k4⟩ := keepD ev45
            refine fl.step D ys ys' σ4 ρ5 ρ6 F5 H5 yv i _ s5 k1 k2 k4 k3 hyl (by omega) he fun F6 H6 o' s6 ev6 r6 hm => ?_
            have ev46 := ev45.trans ev6
            obtain ⟨k1, k2, k3, k4⟩ := keepD ev46
            obtain ⟨w1, w2, w3⟩ := sl rfl s6 ev46
            have k4' : ¬ Ow (wipe σ vs) (wipeD ρ6 vs) D := fun z => k4 (by rw [← e4] at z; exact ow_wipe z)
            exact ⟨F6, wipeD ρ6 vs, o', ys', sr_other w1 k3 k4', ev_other w2 nD, upd_same, r6, k3, k4', hm, w3, eq'⟩
    | rt x ρ4 => rw [ht] at good; obtain ⟨_, _, z⟩ := good; cases z
    | bk ρ4 => rw [ht] at good; obtain ⟨_, _, z⟩ := good; cases z
    | ct ρ4 => rw [ht] at good; obtain ⟨_, _, z⟩ := good; cases z
    | ex x ρ4 => rw [ht] at good; obtain ⟨_, _, z⟩ := good; cases z
    | bad => rw [ht] at good; obtain ⟨_, _, z⟩ := good; cases z
  · have e : i = ds.length := by omega
    subst e
    refine .inl ⟨its.stop _ F' H' (Nat.le_refl _) s'.sub pre, ?_⟩
    rw [List.drop_length] at eq'
    exact fin eq'.symm s' ev' hu nD nF hD ry no
end
/-- through a step, what stands at D stays -/
theorem ev_keepD {σ : L2.St} {ρ ρ' : DEnv} {F H F' H' : Hp} {D : Addr} {o : HO} (ev : Ev σ ρ F H σ ρ' F' H') (hD : H D = some o) (no : ¬ Ow σ ρ D) (nF : F D = none) : H' D = some o ∧ ¬ Ow σ ρ' D ∧ F' D = none := by
  refine ⟨ev.keep D o hD fun z => no z.ow, fun z => ?_, ?_⟩
  · rcases ev.own' D z with z | z
    · rw [hD] at z; cases z
    · exact no z
  · cases hF : F' D with
    | none => rfl
    | some u =>
      rcases ev.newF D nF (by rw [hF]; simp) with z | z
      · rw [hD] at z; cases z
      · exact absurd z no
/-! ### dict comprehensions -/
def dcStep (kx vx : EM) (acc : List Key × List D) : M (List Key × List D) := fun ρ => (kx ρ).bind fun y ρ1 => (vx ρ1).bind fun z ρ2 => match y, z with
  | .d y, .d z => match keyD y with
    | some k => if acc.1.any (fun j => decide (j = k)) = true then .ok (acc.1, dSet acc.1 acc.2 k z) ρ2 else .ok (acc.1 ++ [k], acc.2 ++ [z]) ρ2
    | none => .bad
  | _, _ => .bad
def dcSt (td tv : TE) : Addr → L2.St → Hp → (Hp → Prop) → Prop := fun D σ H Nx => td σ H fun y H4 => tv σ H4 fun z H5 => ∃ kvs k, y = kV k ∧ H5 D = some (.dK kvs) ∧ kvs.length < sizeLine ∧ Nx (upd H5 D (.dK (putK kvs k z)))
def dcAR (K : PySem.W.Frag) : Addr → Hp → HO → List Key × List D → Prop := fun D F o a => ∃ vs, o = .dK (a.1.zip vs) ∧ a.1.length = vs.length ∧ RepL K F vs a.2
theorem dSet_len {k : Key} {d : D} : ∀ {ks : List Key} {ds : List D}, (dSet ks ds k d).length = ds.length ∨ True := .inr trivial
theorem dc_fill {K : PySem.W.Frag} {mg : Str → Option Value} {kx vx : EM} : Fill K mg (fun _ => .dK []) (([], []) : List Key × List D) (dcAR K) (fun a => a.1.length) (dcStep kx vx) (dcSt (tD K mg W0 kx) (tD K mg W0 vx)) where
  new := fun D F => ⟨[], rfl, rfl, .nil⟩
  new0 := rfl
  mono := fun D F F' o a h ⟨vs, e, l, r⟩ => ⟨vs, e, l, r.mono h⟩
  step := fun D a a' σ ρ ρ' F H o i Nx s hD ⟨vs, eo, hl, rl⟩ no nF hm hi hst nx => by
    subst eo
    unfold dcStep at hst
    refine ⟨F, ρ, s, ?_⟩
    cases hk : kx ρ with
    | bad => rw [hk] at hst; cases hst
    | ex x ρ1 => rw [hk] at hst; cases hst
    | ok y ρ1 =>
      rw [hk] at hst
      refine fun u F1 H1 s1 ev1 r1 => ⟨F1, ρ1, s1, ?_⟩
      have hst : ((vx ρ1).bind fun z ρ2 => match y, z with
        | .d y, .d z => match keyD y with
          | some k => if a.1.any (fun j => decide (j = k)) = true then .ok (a.1, dSet a.1 a.2 k z) ρ2 else .ok (a.1 ++ [k], a.2 ++ [z]) ρ2
          | none => .bad
        | _, _ => .bad) = .ok a' ρ' := hst
      cases hv : vx ρ1 with
      | bad => rw [hv] at hst; cases hst
      | ex x ρ2 => rw [hv] at hst; cases hst
      | ok z ρ2 =>
        rw [hv] at hst
        dsimp only [R.bind] at hst
        cases y with
        | fr c => cases hst
        | sl i => cases hst
        | d y =>
        cases z with
        | fr c => cases hst
        | sl i => cases hst
        | d z =>
        dsimp only at hst
        cases hky : keyD y with
        | none => rw [hky] at hst; cases hst
        | some k =>
          rw [hky] at hst
          dsimp only at hst
          refine fun u2 F2 H2 s2 ev2 r2 => ?_
          have ev := ev1.trans ev2
          obtain ⟨k1, k2, k3⟩ := ev_keepD ev hD no nF
          have zl : (a.1.zip vs).length = a.1.length := by rw [List.length_zip, hl, Nat.min_self]
          refine ⟨_, k, keyD_ok (K := K) (F := F1) r1 hky, k1, by rw [zl, sizeLine_eq]; omega, ?_⟩
          have cr := dPut_ok (K := K) (F := F2) (H := H2) (a := D) (k := k) (v := u2) (d := z) hl (rl.mono (.of ev.ext)) r2
          unfold dPut at cr
          split at hst
          · rename_i ha
            cases hst
            rw [if_pos ha] at cr
            obtain ⟨ws, e1, l1, q1⟩ := cr
            rw [upd_same] at e1
            rw [HO.dK.inj (Option.some.inj e1)]
            exact nx F2 H2 _ s2 ev ⟨ws, rfl, l1, q1⟩ (by show a.1.length ≤ i + 1; omega)
          · rename_i ha
            cases hst
            rw [if_neg ha] at cr
            obtain ⟨ws, e1, l1, q1⟩ := cr
            rw [upd_same] at e1
            rw [HO.dK.inj (Option.some.inj e1)]
            refine nx F2 H2 _ s2 ev ⟨ws, rfl, l1, q1⟩ ?_
            rw [List.length_append]
            show _ + 1 ≤ _
            omega
def eDc (own : List Nat) (f : IM) (tg : Val → SM) (tt : M Bool) (kx vx : EM) : EM := fun ρ => (eGc own f tg tt (dcStep kx vx) ([], []) ρ).bind fun a ρ' => .ok (.fr (.dic a.1 a.2)) ρ'
/-! ### set comprehensions -/
def scStep (el : EM) (acc : List Int) : M (List Int) := fun ρ => (el ρ).bind fun y ρ1 => match y with
  | .d (.int k) => if acc.length + 1 < 4096 then .ok (acc ++ [k]) ρ1 else .bad
  | _ => .bad
def scSt (w : World) (te : TE) : Addr → L2.St → Hp → (Hp → Prop) → Prop := fun D σ H Nx => te σ H fun y Hf => ∃ (c : Int) (S : Int → Bool) (n : Nat), y = .int c ∧ Hf D = some (SetO w D S n) ∧ n + 1 < scanBound ∧ Nx (upd Hf D (SetO w D (fun j => S j || decide (j = c)) (if S c = true then n else n + 1)))
def scAR (w : World) : Addr → Hp → HO → List Int → Prop := fun D F o a => ∃ n, n ≤ a.length ∧ o = SetO w D (fun j => decide (j ∈ a)) n
theorem scan_big : 4096 ≤ scanBound := by decide
theorem sc_fill {K : PySem.W.Frag} {mg : Str → Option Value} {w : World} {el : EM} : Fill K mg (fun D => SetO w D (fun _ => false) 0) ([] : List Int) (scAR w) (fun _ => 0) (scStep el) (scSt w (tD K mg W0 el)) where
  new := fun D F => ⟨0, Nat.le_refl _, by first | (congr 1; done) | (congr 1; funext j; simp)⟩
  new0 := rfl
  mono := fun D F F' o a h r => r
  step := fun D a a' σ ρ ρ' F H o i Nx s hD ⟨n, hn, eo⟩ no nF hm hi hst nx => by
    subst eo
    unfold scStep at hst
    refine ⟨F, ρ, s, ?_⟩
    cases hk : el ρ with
    | bad => rw [hk] at hst; cases hst
    | ex x ρ1 => rw [hk] at hst; cases hst
    | ok y ρ1 =>
      rw [hk] at hst
      dsimp only [R.bind] at hst
      refine fun u F1 H1 s1 ev1 r1 => ?_
      split at hst
      · rename_i k
        split at hst
        · rename_i hlen
          cases hst
          obtain rfl : u = .int k := by cases (show Rep K F1 u (.int k) from r1); rfl
          obtain ⟨k1, k2, k3⟩ := ev_keepD ev1 hD no nF
          have := scan_big
          refine ⟨k, _, n, rfl, k1, by omega, nx F1 H1 _ s1 ev1 ⟨if decide (k ∈ a) = true then n else n + 1, ?_, ?_⟩ (Nat.zero_le _)⟩
          · rw [List.length_append]; show _ ≤ _ + 1; split <;> omega
          · congr 1
            funext j
            simp [List.mem_append]
        · cases hst
      · cases hst
def eSc (own : List Nat) (f : IM) (tg : Val → SM) (tt : M Bool) (el : EM) : M (List Int) := eGc own f tg tt (scStep el) []
/-- sorted({..}), len({..}) -/
def eSortSc (own : List Nat) (f : IM) (tg : Val → SM) (tt : M Bool) (el : EM) : EM := fun ρ => (eSc own f tg tt el ρ).bind fun ns ρ' => .ok (.fr (.lst ((sortSetI ns).map D.int))) ρ'
section
variable {X : Cx} {W : WX} {tg iter elt kx vx : Expr} {ifs : List Expr} {fi : IM} {h : Val → SM} {tt : M Bool} {el mk mv : EM} {S : List Nat} {own : List (Str × Nat)} {scope : Scope} {pos p q : Pos}
theorem de_dc (hc : X.calm = true) (hN : X.N.Nodup) (hi : DI X W tg iter fi) (ok : BlkOk X.N X.env.scope scope own) (hS : ∀ i ∈ S, i ∈ own.map (·.2))
    (hg : ∀ (s : Shared) (H : Hp) (C : Addr) (cl : List (Str × Addr)) (fp : List Addr), DG (X.blk s H scope (compEnvC scope cl C X.env) fp) tg S h) (ht : ∀ (s : Shared) (H : Hp) (C : Addr) (cl : List (Str × Addr)) (fp : List Addr), DTs (X.blk s H scope (compEnvC scope cl C X.env) fp) W0 ifs tt)
    (hk : ∀ (s : Shared) (H : Hp) (C : Addr) (cl : List (Str × Addr)) (fp : List Addr), DE (X.blk s H scope (compEnvC scope cl C X.env) fp) W0 kx mk) (he : ∀ (s : Shared) (H : Hp) (C : Addr) (cl : List (Str × Addr)) (fp : List Addr), DE (X.blk s H scope (compEnvC scope cl C X.env) fp) W0 vx mv)
    (hs : ∀ x, foldedSetIterable iter X.env x = pure x := by intro _; rfl) :
    DE X W (.DictComp kx vx [⟨tg, iter, ifs, 0⟩] scope pos) (eDc (own.map (·.2)) fi h tt mk mv) :=
  pe_conseq (pe_dc (g := tG X.K S h) (tt := tT X.K X.mg W0 tt) (tk := tD X.K X.mg W0 mk) (tv := tD X.K X.mg W0 mv) hc hN hi ok hg ht hk he hs) fun σ H Q ⟨F, ρ, sr, o⟩ => by
    refine gc_ok (α := List Key × List D) (ST := dcSt (tD X.K X.mg W0 mk) (tD X.K X.mg W0 mv)) dc_fill hS ⟨F, ρ, sr, (Out.bind (rel := relG σ (dcAR X.K)) o).mono fun v H1 ⟨a, F1, ρ1, e1, s1, ev1, ⟨D, ob, e, n1, n2, hD, ⟨vs, eo, l, r⟩, no⟩, o1⟩ => ?_⟩
    subst e; subst eo
    exact o1 _ F1 H1 s1 ev1 ⟨D, rfl, n1, n2, ⟨vs, hD, l, r⟩, no⟩
theorem de_sortSc (hc : X.calm = true) (hN : X.N.Nodup) (hgs : Gl X "sorted") (hms : X.mg "sorted" = none) (hi : DI X W tg iter fi) (ok : BlkOk X.N X.env.scope scope own) (hS : ∀ i ∈ S, i ∈ own.map (·.2))
    (hg : ∀ (s : Shared) (H : Hp) (C : Addr) (cl : List (Str × Addr)) (fp : List Addr), DG (X.blk s H scope (compEnvC scope cl C X.env) fp) tg S h) (ht : ∀ (s : Shared) (H : Hp) (C : Addr) (cl : List (Str × Addr)) (fp : List Addr), DTs (X.blk s H scope (compEnvC scope cl C X.env) fp) W0 ifs tt)
    (he : ∀ (s : Shared) (H : Hp) (C : Addr) (cl : List (Str × Addr)) (fp : List Addr), DE (X.blk s H scope (compEnvC scope cl C X.env) fp) W0 elt el)
    (hs : ∀ x, foldedSetIterable iter X.env x = pure x := by intro _; rfl) (hsa : starEach [.SetComp elt [⟨tg, iter, ifs, 0⟩] scope pos] X.env = (false, eval (.SetComp elt [⟨tg, iter, ifs, 0⟩] scope pos) X.env) :: starEach [] X.env := by rfl) :
    DE X W (.Call (.Name "sorted" p) [.SetComp elt [⟨tg, iter, ifs, 0⟩] scope pos] [] q) (eSortSc (own.map (·.2)) fi h tt el) :=
  pe_conseq (pe_callB (cr_sortN hc) hgs hms PyProof.Rows.boot_sorted (pa_cons (pe_scI (g := tG X.K S h) (tt := tT X.K X.mg W0 tt) (te := tD X.K X.mg W0 el) hc hN hi ok hg ht he hs) pa_nil hsa)) fun σ H Q ⟨F, ρ, sr, o⟩ => by
    have key := gc_ok (α := List Int) (tt := tt) (h := h) (S := S) (Q := fun v H1 => rSortN X.w [v] H1 Q) (ST := scSt X.w (tD X.K X.mg W0 el)) sc_fill hS ⟨F, ρ, sr, (Out.bind (rel := relG σ (scAR X.w)) o).mono fun v H1 ⟨a, F1, ρ1, e1, s1, ev1, ⟨D, ob, e, n1, n2, hD, ⟨n, hn, eo⟩, no⟩, o1⟩ => by
      subst e; subst eo
      refine ⟨D, _, n, rfl, hD, fun ns p hpw hm hp => ?_⟩
      have e2 : ns = sortSetI a := pw_ext hpw (sortSetI_pw a) fun k => by rw [hm k, mem_sortSetI]; exact decide_eq_true_iff
      subst e2
      have gr : Gr F1 H1 F1 (upd H1 p (.lst ((sortSetI a).map V.int))) := Gr.fresh s1.sub hp
      refine o1 (.ref p) F1 _ (gr.sr s1) (ev1.trans gr.ev) ?_
      exact VR.base (fr_vr s1 hp (Same.free s1.sub hp) ⟨_, upd_same, .ints⟩) fun b hb => ev1.dom b hb⟩
    exact key
end
end DL
set_option maxHeartbeats 2000000
namespace PySem
open Sem (wp)
open AutoSeq1 (wpAny_loadPart')
set_option maxHeartbeats 1000000 in
theorem enumNew {v : Value} {o : Obj} {H : Heap → Prop} (B : Begins v o H) :
    Meets (Builtin.«enumerate.__new__» ⟨[.type "enumerate", v], []⟩) (fun _ R s => H s.heap ∧
      R (.ok (.ret (.ref (s.heap.push o).objs.size))) { s with heap := (s.heap.push o).push { cls := .type "enumerate", data := .fields #[.none, .bool false, .ref s.heap.objs.size, rawInt 0, .none, .none] } }) :=
  .of_wp fun prog w A R s h => by
    obtain ⟨hp, gs, dr, tk, os⟩ := s; obtain ⟨hH, hR⟩ := h
    have sub := sub_enumerate
    have begin : ∀ {A2 : Around} {E : Value → Shared → Prop} {Q : Value → Shared → Prop}, Q (.ref hp.objs.size) ⟨hp.push o, gs, dr, tk, os⟩ → wpAny (model prog w) A2 (pyIter v) Q E ⟨hp, gs, dr, tk, os⟩ :=
      fun q => B.iter prog w _ _ ⟨hp, gs, dr, tk, os⟩ _ hH q
    wp_walk using begin
    refine wpAny_stack_any fun st => wpAny_pure ?_
    split
    · rename_i c _ _ _ _ _
      cases (c == Value.type "enumerate")
      · wp_walk using begin
        exact ⟨_, rfl, hR⟩
      · wp_walk using begin
        exact ⟨_, rfl, hR⟩
    · wp_walk using begin
      exact ⟨_, rfl, hR⟩
theorem enumCall {prog : Program} {w : World} {A : Around} {E : Value → Shared → Prop} {s : Shared} {v : Value} {o : Obj} {H : Heap → Prop} {Q : Value → Shared → Prop} (B : Begins v o H) (hH : H s.heap)
    (k : ∀ h2, IsEnum h2 (s.heap.objs.size + 1) s.heap.objs.size 0 .none → h2.get? s.heap.objs.size = some o → (∀ b u, s.heap.get? b = some u → h2.get? b = some u) → Q (.ref (s.heap.objs.size + 1)) { s with heap := h2 }) :
    wpAny (model prog w) A (call (.type "enumerate") [v]) Q E s := by
  refine callType_new F.called_enumerate (by decide) (F.typeCall_enumerate_1 _) (F.newCall_enumerate_1 _) (fun obj => F.args_object_init_2 obj _) F.entry_enumerate_new (enumNew B) ⟨hH, ?_⟩
  have sz : (s.heap.push o).objs.size = s.heap.objs.size + 1 := Heap.size_push ..
  show _ ∧ _
  rw [sz]
  have new := Heap.get?_push_size (s.heap.push o) (o := { cls := .type "enumerate", data := .fields #[.none, .bool false, .ref s.heap.objs.size, rawInt 0, .none, .none] }) rfl
  rw [sz] at new
  exact ⟨⟨_, new, rfl⟩, k _ new (Heap.get?_push_of_some _ (Heap.get?_push_size _ B.free)) fun b u x => Heap.get?_push_of_some _ (Heap.get?_push_of_some _ x)⟩
theorem enumEndT {prog : Program} {w : World} {A : Around} {E : Value → Shared → Prop} {s : Shared} {e it t : Addr} {i : Nat} {c : Int} {items : Array Value} {old : Value} {Q : Option Value → Shared → Prop} (hA : A.in1.handled = none)
    (en : IsEnum s.heap e it c old) (ti : s.heap.IsTupleIter it t i) (tu : s.heap.IsTuple t items) (no : items[i]? = none) (q : ∀ h2, Heap.ExtBut it s.heap h2 → Q none { s with heap := h2 }) : wpAny (model prog w) A (pyNext (.ref e)) Q E s := by
  have ty : s.TypeIs (.ref e) "enumerate" := ⟨_, en, rfl⟩
  unfold pyNext
  refine wpAny_bind (wpAny_attempt (wpAny_callSpecial?_slot (name := Str.ofString "__next__") ty F.slot_enumerate_next (wpAny_call_entry F.slot_enumerate_next ty F.entry_enumerate_next ?_ (F.args_enumerate_next_1 _))))
  show wpAny _ _ (field (.ref e) 2 >>= _) _ _ _
  refine wpAny_bind (wpAny_field en rfl (x := .ref it) rfl (wpAny_bind (wpAny_nextOf_tuple_end hA ti tu no fun h2 x eb ⟨o, ho, cls⟩ => ?_)))
  exact wpAny_bind (wpAny_isInstance (T := "StopIteration") (b := true) ⟨o, ho, cls⟩ isSubtype_stop (wpAny_pure (q _ eb)))
end PySem
/-! DL20: enumerate, zip, what is walked in a dict. -/
namespace DL
open PySem PySem.Spec PyProof.Rows L2
/-- the tuple at a, each item in a new pair -/
def IteT (K : PySem.W.Frag) (a : Addr) : It :=
  ⟨fun i H => ∃ (xs : List V) (x : V), SqT K H a xs ∧ xs[i]? = some x, fun i H v H' => ∃ T x, v = .ref T ∧ H T = none ∧ H' = upd H T (.tup [.int (i : Nat), x]) ∧ ∀ xs, SqT K H a xs → xs[i]? = some x, fun i H => ∃ xs : List V, SqT K H a xs ∧ xs.length ≤ i⟩
theorem turn_enumT {P : Program} {w : World} {K : PySem.W.Frag} {elts : List Expr} {kk : Nat} {tpos : Pos} (a e it : Addr) (n1 : e ≠ it) (n2 : e ≠ a) (n3 : a ≠ it) :
    Turn P w K (.Tuple elts kk tpos) (IteT K a) [e, it] e (fun i h => (∃ old, IsEnum h e it ((i : Nat) : Int) old) ∧ h.IsTupleIter it a i) where
  mem := by simp
  obj := fun i h st b hb => by
    obtain ⟨⟨old, q⟩, o, ho, hc, hd⟩ := st
    rcases List.mem_cons.mp hb with z | z
    · subst z; exact ⟨_, q, fun v r => nomatch r⟩
    · rw [List.mem_singleton] at z; subst z; exact ⟨o, ho, fun v r => by rw [hd] at r; cases r⟩
  keep := fun i h h' st k => ⟨let ⟨old, q⟩ := st.1; ⟨old, k e (by simp) _ q⟩, st.2.at fun o q => k it (by simp) o q⟩
  item := by
    intro X hP hw hK hc i pins s σ H E I hf st hg
    subst hP hw hK
    obtain ⟨⟨old, he⟩, hit⟩ := st
    obtain ⟨xs, x, sx, ex⟩ := hg
    obtain ⟨us, rv, tu, _⟩ := I.tuple sx
    obtain ⟨u, hu, ru⟩ := rv.get ex
    have le : e < s.heap.objs.size := Heap.lt_size he
    have li : it < s.heap.objs.size := let ⟨_, q, _⟩ := hit; Heap.lt_size q
    have hA : X.A.in1.handled = none := I.ok.hd hc
    have lt : i < us.toArray.size := by
      have := (List.getElem?_eq_some_iff.mp hu).1
      simpa using this
    refine wpAny_pyNext_enum_itemD (Draws.tuple hA it a n3 us.toArray) he ⟨hit, tu⟩ lt n1 (by simp [n1, n2]) fun u2 h2 tk px out st2 hT hsz hk => ?_
    obtain rfl : u2 = u := by
      have z : us[i]? = some u2 := by simpa using px
      rw [hu] at z; exact (Option.some.inj z).symm
    refine ⟨_, rfl, wpAny_letOwnedTupleGo_enum (s := { s with heap := h2, toks := tk + 1 }) out fun h3 he3 sb => ?_⟩
    have new : ObjOk X.prog X.w (upd H s.heap.objs.size (.tup [.int (i : Nat), x])) h3 s.heap.objs.size (.tup [.int (i : Nat), x]) :=
      ⟨by show 2 ≤ sizeLine; decide, [.int i tk, u2], .cons ⟨_, rfl⟩ (.cons ru .nil), ⟨_, (sb.2 _ (Nat.ne_of_gt le)).trans hT, rfl, _, rfl⟩⟩
    have I2 : Inv X pins σ (upd H s.heap.objs.size (.tup [.int (i : Nat), x])) { s with heap := h3, toks := tk + 1 } :=
      I.turnedNew (ch := [e, it]) (fun b ob hb q => (sb.2 b (fun z => hb (by simp [z]))).trans (hk b ob (fun z => hb (by simp [z])) (fun z => hb (by simp [z])) q)) hf (Nat.le_refl _) new
    refine ⟨.ref s.heap.objs.size, _, I2, rfl, ⟨_, x, rfl, I.hok.fresh (Nat.le_refl _), rfl, fun ys hy => by rw [I.tuple_inj hy sx]; exact ex⟩, ⟨⟨u2, ?_⟩, st2.1.at fun o q => (sb.2 it (Ne.symm n1)).trans q⟩, fun b hb => ?_⟩
    · rw [show ((i + 1 : Nat) : Int) = (i : Int) + 1 from by omega]; exact he3
    · have lb : b < s.heap.objs.size := by
        rcases List.mem_cons.mp hb with z | z
        · rw [z]; exact le
        · rw [List.mem_singleton.mp z]; exact li
      rw [upd_ne (Nat.ne_of_lt lb)]
      exact (hf b hb).1
  done := by
    intro X hP hw hK hc i pins s σ H E I hf st hg
    subst hP hw hK
    obtain ⟨⟨old, he⟩, hit⟩ := st
    obtain ⟨xs, sx, hx⟩ := hg
    obtain ⟨us, rv, tu, _⟩ := I.tuple sx
    have hA : X.A.in1.handled = none := I.ok.hd hc
    obtain ⟨f0, f1, f2, f3, f4, f5⟩ := hf it (by simp)
    have hl := rv.length
    have hs : us.toArray.size ≤ i := by simp; omega
    exact enumEndT hA he hit tu (by rw [Array.getElem?_eq_none_iff]; exact hs) fun h2 eb => ⟨rfl, I.turned (t' := s.toks) (fun b o hb q => eb b o hb q) f0 f1 f3 f4 f5⟩
  self := fun A i s Q E st h => let ⟨_, q⟩ := st.1; wpAny_pyIter_enum q h
/-- enumerate over a list or a tuple -/
def iEnumA (K : PySem.W.Frag) (ta : TE) : TI := fun σ H R => ta σ H fun v H1 => ∃ a xs, [v] = [.ref a] ∧ ((SqL K H1 a xs ∧ R (Ite K a) H1) ∨ (SqT K H1 a xs ∧ R (IteT K a) H1))
theorem pi_enumA {X : Cx} {e : Expr} {te : TE} {p pos tpos : Pos} {elts : List Expr} {kk : Nat} (hg : Gl X "enumerate") (hm : X.mg "enumerate" = none) (he : PE X e te) (sa : starEach [e] X.env = [(false, eval e X.env)] := by rfl) :
    PI X (.Tuple elts kk tpos) (.Call (.Name "enumerate" p) [e] [] pos) (iEnumA X.K te) := ⟨fun pins s σ H R I h => by
  have ha := pa_cons he (pa_nil (X := X)) sa
  refine Call_ (ld_blt I hg hm boot_enumerate (PyProof.Rows.callWith_type1 (thn (ha.run pos pins s σ H (fun vs H1 => ∃ a xs, vs = [.ref a] ∧ ((SqL X.K H1 a xs ∧ R (Ite X.K a) H1) ∨ (SqT X.K H1 a xs ∧ R (IteT X.K a) H1))) I ?_) fun us s1 ⟨vs, H1, I1, rv, a, xs, ex, q⟩ => ?_) sa rfl))
  · exact h
  subst ex
  rw [Vals.ref1 rv]
  have two : ∀ b ∈ [s1.heap.objs.size + 1, s1.heap.objs.size], FpOk X pins H1 b := fun b hb => by
    have le : s1.heap.objs.size ≤ b := by
      rcases List.mem_cons.mp hb with z | z
      · rw [z]; exact Nat.le_add_right _ _
      · rw [List.mem_singleton.mp z]; exact Nat.le_refl _
    exact I1.fpOk le (I1.hok.fresh le)
  rcases q with ⟨sl, q⟩ | ⟨st, q⟩
  · obtain ⟨its, _, pl, _⟩ := I1.list sl
    refine call_enumerate_list pl.isList fun h2 en li _ keep => wpAny_pyIter_enum en ?_
    exact ⟨_, _, _, _, H1, rfl, I1.kept (t' := s1.toks) keep, turn_enum a (s1.heap.objs.size + 1) s1.heap.objs.size, ⟨⟨.none, en⟩, li, Nat.succ_ne_self _⟩, two, q⟩
  · obtain ⟨its, _, pt, _⟩ := I1.tuple st
    refine enumCall (begins_tuple a its.toArray) pt fun h2 en ob keep => wpAny_pyIter_enum en ?_
    have la : a < s1.heap.objs.size := pt.lt
    have d2 : (s1.heap.objs.size + 1 : Nat) ≠ a := Nat.ne_of_gt (Nat.lt_succ_of_lt la)
    exact ⟨_, _, _, _, H1, rfl, I1.kept (t' := s1.toks) keep, turn_enumT a (s1.heap.objs.size + 1) s1.heap.objs.size (Nat.succ_ne_self _) d2 (Nat.ne_of_lt la), ⟨⟨.none, en⟩, ⟨_, ob, rfl, rfl⟩⟩, two, q⟩⟩

/-! ### the sources -/
def keyToD : Key → D
  | .inl i => .int i
  | .inr x => .str x
theorem keyToD_rep {K : PySem.W.Frag} {F : Hp} (k : Key) : Rep K F (kV k) (keyToD k) := by cases k with
  | inl i => exact .int i
  | inr x => exact .str x
/-- a sequence as it is walked: its object, what stays -/
def relQ (K : PySem.W.Frag) (σ : L2.St) : RelT V Src := fun _ F H ρ v src => (∀ i, src.2 = some i → ∃ c m, ρ[i]? = some (.ow c m)) ∧ ∃ a xs, v = .ref a ∧ RepL K F xs src.1 ∧
  ((∀ F' H', Same F' H' → PreI σ src.2 F H F' H' → SqL K H' a xs) ∨ (∀ F' H', Same F' H' → PreI σ src.2 F H F' H' → SqT K H' a xs))
section
variable {X : Cx} {W : WX} {tg e e2 : Expr} {f f2 : EM} {es : List Expr} {g : M (List Val)} {p pos : Pos}
/-- what is known of a sequence's value -/
theorem seq_val {K : PySem.W.Frag} {mg : Str → Option Value} {E : XK} {σ : L2.St} {ρ ρ1 : DEnv} {F H F1 H1 Hb : Hp} {x : Val} {v : V} {R : V → Hp → Prop} (s1 : SR K F1 H1 σ ρ1) (ev : Ev σ ρ F H σ ρ1 F1 H1) (r : VR K σ H F1 H1 ρ1 v x) (q : Out K mg E (relQ K σ) σ ρ F H (seqSrc x ρ1) R) : R v H1 := by
  have lst : ∀ {ds : List D} {F2 : Hp} {ρ2 : DEnv}, SR K F2 H1 σ ρ2 → Rep K F2 v (.lst ds) → relQ K σ H F2 H1 ρ2 v (ds, none) := fun {ds F2 ρ2} s r => by
    cases r with
    | lst e r => exact ⟨(fun _ z => by cases z), _, _, rfl, r, .inl fun F' H' s p => .of (s _ _ (p.1 _ _ e))⟩
  have tup : ∀ {ds : List D} {F2 : Hp} {ρ2 : DEnv}, SR K F2 H1 σ ρ2 → Rep K F2 v (.tup ds) → relQ K σ H F2 H1 ρ2 v (ds, none) := fun {ds F2 ρ2} s r => by
    cases r with
    | tup e r => exact ⟨(fun _ z => by cases z), _, _, rfl, r, .inr fun F' H' s p => (RdLe.of s).sqT ((RdLe.of p.1).sqT e)⟩
  cases x with
  | d x =>
    cases x with
    | lst ds => exact q v F1 H1 s1 ev (lst s1 r)
    | tup ds => exact q v F1 H1 s1 ev (tup s1 r)
    | _ => exact q.elim
  | fr c =>
    cases c with
    | dic ks vs => exact q.elim
    | lst ds =>
      obtain ⟨F2, d, e2, s2, ev2, r2⟩ := fz_ok s1 ev r rfl
      cases e2
      exact q v F2 H1 s2 ev2 (lst s2 r2)
  | sl i =>
    unfold seqSrc at q
    dsimp only at q
    have r1 : σ[i]? = some (some v) := r
    split at q
    · rename_i ds hs
      obtain ⟨ov, g1, u, g2, g3⟩ := s1.slot i _ hs
      rw [r1] at g1; cases g1; cases g2
      exact q v F1 H1 s1 ev (lst s1 g3)
    · rename_i ds hs
      obtain ⟨ov, g1, u, g2, g3⟩ := s1.slot i _ hs
      rw [r1] at g1; cases g1; cases g2
      exact q v F1 H1 s1 ev (tup s1 g3)
    · rename_i ds m hs
      obtain ⟨ov, g1, a, g2, g3, xs, g4, g5⟩ := s1.slot i _ hs
      rw [r1] at g1; cases g1; cases g2
      exact q _ F1 H1 s1 ev ⟨fun j z => by cases z; exact ⟨_, _, hs⟩, a, xs, rfl, g5, .inl fun F' H' s p => .of (p.2 i rfl a _ r1 g4)⟩
    · exact q.elim
def enumL (ds : List D) : List D := ds.zipIdx.map fun p => .tup [.int (p.2 : Nat), p.1]
def iEnu (f : EM) : IM := fun ρ => (f ρ).bind fun x ρ1 => (seqSrc x ρ1).bind fun src ρ2 => .ok (enumL src.1, src.2) ρ2
theorem pair_yld {K : PySem.W.Frag} {F H : Hp} {T : Addr} {x y : V} {d d2 : D} (s : Same F H) (n : H T = none) (r : Rep K F x d) (r2 : Rep K F y d2) : ∃ F', Gr F H F' (upd H T (.tup [x, y])) ∧ Rep K F' (.ref T) (.tup [d, d2]) := by
  have gr := Gr.froz (o := .tup [x, y]) s n
  exact ⟨_, gr, .tup (.inl (.inl upd_same)) (.cons (r.mono (.of gr.ext)) (.cons (r2.mono (.of gr.ext)) .nil))⟩
theorem enum_get {ds : List D} {i : Nat} {d : D} (h : ds[i]? = some d) : (enumL ds)[i]? = some (.tup [.int (i : Nat), d]) := by
  unfold enumL
  rw [List.getElem?_map, List.getElem?_zipIdx, h]
  simp
theorem enumL_len {ds : List D} : (enumL ds).length = ds.length := by unfold enumL; rw [List.length_map, List.length_zipIdx]
theorem di_enum {elts : List Expr} {kk : Nat} {tpos : Pos} (hg : Gl X "enumerate") (hm : X.mg "enumerate" = none) (he : DE X W e f) (sa : starEach [e] X.env = [(false, eval e X.env)] := by rfl) :
    DI X W (.Tuple elts kk tpos) (.Call (.Name "enumerate" p) [e] [] pos) (iEnu f) := pi_conseq (pi_enumA hg hm he sa) fun σ H R ⟨F, ρ, sr, q⟩ => by
  refine ⟨F, ρ, sr, (Out.bind (rel := relV X.K σ) q).mono fun v H1 ⟨x, F1, ρ1, e1, s1, ev1, r1, o1⟩ => ?_⟩
  refine seq_val (mg := X.mg) (E := fun c d H => W c d σ H) (R := fun v H1 => ∃ a xs, [v] = [V.ref a] ∧ ((SqL X.K H1 a xs ∧ R (Ite X.K a) H1) ∨ (SqT X.K H1 a xs ∧ R (IteT X.K a) H1))) (Hb := H) s1 ev1 r1 ?_
  refine (Out.bind (rel := relQ X.K σ) o1).mono fun v H2 ⟨src, F2, ρ2, e2, s2, ev2, ⟨hk, a, xs, ea, rl, hq⟩, o2⟩ => ?_
  subst ea
  have pre0 : PreI σ src.2 F2 H2 F2 H2 := ⟨Same.refl _, fun _ _ _ _ _ h => h⟩
  refine ⟨a, xs, rfl, ?_⟩
  rcases hq with hq | hq
  · refine .inl ⟨hq F2 H2 s2.sub pre0, o2 _ F2 H2 s2 ev2 ⟨⟨fun i F3 H3 hi s p => ?_, fun i y F3 H3 H4 hi s p hy => ?_, fun i F3 H3 hi s p => ?_⟩, hk⟩⟩
    · have hl : i < xs.length := by rw [rl.length, ← enumL_len]; exact hi
      exact ⟨xs, xs[i], hq F3 H3 s p, List.getElem?_eq_getElem hl⟩
    · obtain ⟨T, x, rfl, nT, rfl, hx⟩ := hy
      obtain ⟨d, h1, h2⟩ := rl.getV (hx xs (hq F3 H3 s p))
      obtain ⟨F4, gr, rp⟩ := pair_yld s nT (.int (i : Nat)) (h2.mono (.of p.1))
      exact ⟨_, F4, enum_get h1, gr, rp⟩
    · exact ⟨xs, hq F3 H3 s p, by rw [rl.length, ← enumL_len]; exact hi⟩
  · refine .inr ⟨hq F2 H2 s2.sub pre0, o2 _ F2 H2 s2 ev2 ⟨⟨fun i F3 H3 hi s p => ?_, fun i y F3 H3 H4 hi s p hy => ?_, fun i F3 H3 hi s p => ?_⟩, hk⟩⟩
    · have hl : i < xs.length := by rw [rl.length, ← enumL_len]; exact hi
      exact ⟨xs, xs[i], hq F3 H3 s p, List.getElem?_eq_getElem hl⟩
    · obtain ⟨T, x, rfl, nT, rfl, hx⟩ := hy
      obtain ⟨d, h1, h2⟩ := rl.getV (hx xs (hq F3 H3 s p))
      obtain ⟨F4, gr, rp⟩ := pair_yld s nT (.int (i : Nat)) (h2.mono (.of p.1))
      exact ⟨_, F4, enum_get h1, gr, rp⟩
    · exact ⟨xs, hq F3 H3 s p, by rw [rl.length, ← enumL_len]; exact hi⟩
/-! ### a dict's keys; whatever is walked -/
def dicSrc (x : Val) (ρ : DEnv) : R Src := (x.fzA ρ).bind fun y ρ1 => match y with
  | .d (.dic ks _) => .ok (ks.map keyToD, none) ρ1
  | _ => .bad
def isDic (ρ : DEnv) (x : Val) : Bool := match x.peek ρ with
  | some (.dic _ _) => true
  | _ => false
def anySrc (x : Val) (ρ : DEnv) : R Src := if isDic ρ x = true then dicSrc x ρ else seqSrc x ρ
def iAny (f : EM) : IM := fun ρ => (f ρ).bind anySrc
theorem zip_get {ks : List Key} {xs : List V} {i : Nat} {k : Key} {v : V} (h : (ks.zip xs)[i]? = some (k, v)) : ks[i]? = some k ∧ xs[i]? = some v := by
  rw [List.getElem?_zip_eq_some] at h
  exact h
theorem di_any (he : DE X W e f) : DI X W tg e (iAny f) := pi_conseq (pi_or (pi_conseq (di_seq he) fun _ _ _ z => z) (pi_keys (pe_lockP he))) fun σ H Rr ⟨F, ρ, sr, q⟩ => by
  unfold iAny at q
  cases h1 : f ρ with
  | bad => rw [h1] at q; exact q.elim
  | ex x ρ1 => rw [h1] at q; exact .inl ⟨F, ρ, sr, by unfold iSeq; rw [h1]; exact q⟩
  | ok x ρ1 =>
    rw [h1] at q
    replace q : Out X.K X.mg (fun c d H => W c d σ H) (relI X.K σ) σ ρ F H (anySrc x ρ1) Rr := q
    unfold anySrc at q
    split at q
    · refine .inr ⟨F, ρ, sr, ?_⟩
      rw [h1]
      intro v F1 H1 s1 ev1 r1
      unfold dicSrc at q
      have fin : ∀ {a : Addr} {o : Obj} {ks : List Key} {xs : List V} {ds : List D} {F2 H2 : Hp} {ρ2 : DEnv}, F2 a = some (.frz o (.dK (ks.zip xs))) → ks.length = xs.length → SR X.K F2 H2 σ ρ2 → Ev σ ρ F H σ ρ2 F2 H2 →
          Out X.K X.mg (fun c d H => W c d σ H) (relI X.K σ) σ ρ F H (DL.R.ok (ks.map keyToD, none) ρ2) Rr → ∃ d o, V.ref a = .ref d ∧ ((∃ kvs, H2 d = some (.frz o (.dK kvs)) ∧ Rr (Itk d o kvs) H2) ∨ ∃ kvs, H2 d = some (.frz o (.dT kvs)) ∧ Rr (Itkt d o kvs) H2) := fun {a o ks xs ds F2 H2 ρ2} e l s2 ev2 o2 => by
        have zl : (ks.zip xs).length = ks.length := by rw [List.length_zip, ← l, Nat.min_self]
        refine ⟨a, o, rfl, .inl ⟨_, s2.sub _ _ e, o2 _ F2 H2 s2 ev2 ⟨⟨fun i F3 H3 hi s p => ⟨s _ _ (p.1 _ _ e), by rw [zl]; simpa using hi⟩, fun i y F3 H3 H4 hi s p ⟨e4, k, u, hk, ey⟩ => ?_, fun i F3 H3 hi s p => ⟨s _ _ (p.1 _ _ e), by rw [zl]; simpa using hi⟩⟩, fun i z => by cases z⟩⟩⟩
        subst e4; subst ey
        exact ⟨keyToD k, F3, by rw [List.getElem?_map, (zip_get hk).1]; rfl, .refl s, keyToD_rep k⟩
      cases hz : x.fzA ρ1 with
      | bad => rw [hz] at q; exact q.elim
      | ex z ρ2 =>
        exfalso
        cases x with
        | d x => cases hz
        | fr c => cases hz
        | sl i =>
          unfold Val.fzA at hz
          dsimp only at hz
          split at hz <;> cases hz
      | ok y ρ2 =>
        rw [hz] at q
        dsimp only [DL.R.bind] at q
        split at q
        · rename_i ks ds
          rcases fzA_ok s1 ev1 r1 hz with ⟨d, ed, er, r⟩ | ⟨a, c, o, ev, ed, ho, cr, gz⟩
          · cases ed; subst er
            cases r with
            | dic e l rr => exact .inl (fin (ds := ds) e l s1 ev1 q)
          · subst ev
            cases c with
            | lst ds => cases ed
            | dic ks' ds' =>
              cases ed
              obtain ⟨vs, e, l, rr⟩ := id cr
              rw [ho] at e; cases e
              refine .inr ⟨a, _, ho, fun od => ?_⟩
              obtain ⟨s2, ev2, r2⟩ := gz (.frz od (.dK (ks.zip vs))) ⟨od, rfl⟩
              exact fin (ds := ds) upd_same l s2 ev2 q
        · exact q.elim
    · refine .inl ⟨F, ρ, sr, ?_⟩
      unfold iSeq
      rw [h1]
      exact q
end
end DL
set_option maxHeartbeats 2000000
/-! DL21: statements that are not reached; more rules to read by. -/
namespace DL
open PySem PySem.Spec PyProof.Rows L2
section
variable {X : Cx} {W : WX}
/-- a statement that must not be reached -/
def sBad : SM := fun _ => .bad
theorem ds_bad {st : Stmt} : DS X W st sBad := ⟨fun pins s σ H D I ⟨F, ρ, sr, q⟩ => q.elim⟩
end
theorem CR_isi {X : Cx} : CallR X (.builtin "isinstance") (rIsi X.K) := call_isi
end DL
set_option maxHeartbeats 2000000
/-! DL22: reading dicts, sets, enumerate, slices, chains. -/
namespace DL
open PySem PySem.Spec PyProof.Rows L2
section
variable {ρ ρ' as : DEnv} {i : Nat} {x y : Val} {d a b : D} {c : Cont} {m : Md} {f g h : EM} {t u : M Bool} {l r : OM} {op op' : D → D → Option Val} {Q : Val → DEnv → Prop} {QB : Bool → DEnv → Prop} {QO : Option Int → DEnv → Prop} {QI : Src → DEnv → Prop} {X : Ex → DEnv → Prop} {P : Po}
/-! the slots written out anew behind a call, a comprehension -/
def PB (ρ : DEnv) (G : DEnv → Prop) : Prop := G ρ
theorem b_pb {G : DEnv → Prop} (e : ρ = ρ') (q : G ρ') : PB ρ G := by subst e; exact q
theorem b_callFP {Fm : FM} {xs : List Val} (h1 : argSlots ρ xs = some as) (h2 : lentOnce xs = true) (q : (Fm as).wp (fun x as' => PB (putBack ρ xs as') fun ρ1 => Q x ρ1) (fun x as' => X x (putBack ρ xs as'))) : (callF Fm xs ρ).wp Q X := b_callF h1 h2 q
/-! slices -/
theorem b_sl (q : (f ρ).wp (fun x ρ1 => (l ρ1).wp (fun lo ρ2 => (r ρ2).wp (fun hi ρ3 => (unV (fun d => sliceD d lo hi) x ρ3).wp Q X) X) X) X) : (eSl f l r ρ).wp Q X :=
  b_bind (R.wp_mono q (fun _ _ h => b_bind (R.wp_mono h (fun _ _ h => b_bind h) fun _ _ h => h)) fun _ _ h => h)
theorem b_oNone (q : QO none ρ) : (oNone ρ).wp QO X := q
def oV (x : Val) : OM := fun ρ1 => match x with
  | .d (.int k) => .ok (some k) ρ1
  | _ => .bad
theorem b_oSome (q : (f ρ).wp (fun x ρ1 => (oV x ρ1).wp QO X) X) : (oSome f ρ).wp QO X := b_bind (R.wp_mono q (fun x ρ1 h => by cases x <;> first | exact h | (rename_i d; cases d <;> exact h)) fun _ _ h => h)
theorem b_oV {k : Int} (q : QO (some k) ρ) : (oV (.d (.int k)) ρ).wp QO X := q
/-! is None -/
def isnV (x : Val) : EM := fun ρ1 => match x with
  | .sl _ => .bad
  | x => .ok (.d (.bl (isNonV x))) ρ1
def notnV (x : Val) : EM := fun ρ1 => match x with
  | .sl _ => .bad
  | x => .ok (.d (.bl (!isNonV x))) ρ1
theorem b_isN (q : (f ρ).wp (fun x ρ1 => (isnV x ρ1).wp Q X) X) : (eIsN f ρ).wp Q X := b_bind q
theorem b_notN (q : (f ρ).wp (fun x ρ1 => (notnV x ρ1).wp Q X) X) : (eNotN f ρ).wp Q X := b_bind q
theorem b_isnD (q : Q (.d (.bl (isNonV (.d d)))) ρ) : (isnV (.d d) ρ).wp Q X := q
theorem b_notnD (q : Q (.d (.bl !(isNonV (.d d)))) ρ) : (notnV (.d d) ρ).wp Q X := q
/-! chains -/
theorem b_chain (q : (f ρ).wp (fun x ρ1 => (g ρ1).wp (fun y ρ2 => (opV op x y ρ2).wp (fun z ρ3 => ∃ k, z = .d (.bl k) ∧ (k = true → (h ρ3).wp (fun w ρ4 => (opV op' y w ρ4).wp Q X) X) ∧ (k = false → Q (.d (.bl false)) ρ3)) X) X) X) : (eChain op op' f g h ρ).wp Q X :=
  b_bind (R.wp_mono q (fun x ρ1 h1 => b_bind (R.wp_mono h1 (fun y ρ2 h2 => b_bind (R.wp_mono h2 (fun z ρ3 h3 => by
    obtain ⟨k, rfl, h4, h5⟩ := h3
    cases k
    · exact h5 rfl
    · exact b_bind (h4 rfl)) fun _ _ h => h)) fun _ _ h => h)) fun _ _ h => h)
/-! dicts -/
def ikeys (ks : List Int) : List Key := ks.map Sum.inl
theorem dLook_map {v : Int} {g : Int → D} : ∀ {ks : List Int}, v ∈ ks → dLook (ikeys ks) (ks.map g) (.inl v) = some (g v)
  | [], hv => by simp at hv
  | k :: ks, hv => by
    show dLook (.inl k :: ikeys ks) (g k :: ks.map g) (.inl v) = _
    unfold dLook
    by_cases e : k = v
    · subst e; rw [if_pos rfl]
    · rw [if_neg (fun z => e (Sum.inl.inj z))]
      exact dLook_map (by
        rcases List.mem_cons.mp hv with z | z
        · exact absurd z.symm e
        · exact z)
theorem dLook_no {v : Int} {g : Int → D} : ∀ {ks : List Int}, v ∉ ks → dLook (ikeys ks) (ks.map g) (.inl v) = none
  | [], hv => rfl
  | k :: ks, hv => by
    show dLook (.inl k :: ikeys ks) (g k :: ks.map g) (.inl v) = _
    unfold dLook
    rw [if_neg (fun z => hv (by rw [Sum.inl.inj z]; exact List.mem_cons_self))]
    exact dLook_no fun z => hv (List.mem_cons_of_mem _ z)
theorem dSet_map {v : Int} {d : D} {g : Int → D} : ∀ {ks : List Int}, dSet (ikeys ks) (ks.map g) (.inl v) d = ks.map fun w => if w = v then d else g w
  | [] => rfl
  | k :: ks => by
    show dSet (.inl k :: ikeys ks) (g k :: ks.map g) (.inl v) d = _
    unfold dSet
    rw [dSet_map, List.map_cons]
    congr 1
    by_cases e : k = v
    · subst e; rw [if_pos rfl, if_pos rfl]
    · rw [if_neg (fun z => e (Sum.inl.inj z)), if_neg e]
theorem any_key {v : Int} {ks : List Int} : ((ikeys ks).any fun j => decide (j = (Sum.inl v : Key))) = decide (v ∈ ks) := by
  induction ks with
  | nil => simp [ikeys]
  | cons k ks ih =>
    show (decide ((Sum.inl k : Key) = Sum.inl v) || (ikeys ks).any _) = _
    rw [ih]
    by_cases e : k = v
    · subst e; simp
    · have e2 : ¬ (Sum.inl k : Key) = Sum.inl v := fun z => e (Sum.inl.inj z)
      have e3 : ¬ v = k := fun z => e z.symm
      simp [e2, e3]
theorem x_idxD {v : Int} {ks : List Int} {g : Int → D} (h1 : x.peek ρ = some (.dic (ikeys ks) (ks.map g))) (h2 : y.peek ρ = some (.int v)) (hv : v ∈ ks) (q : Q (.d (g v)) ρ) : (opV idxD x y ρ).wp Q X :=
  b_opV h1 h2 (by
    show (match orOp idxD1 idxD3 (D.dic (ikeys ks) (ks.map g)) (.int v) with | some z => some z | none => idxD2 (D.dic (ikeys ks) (ks.map g)) (.int v)) = _
    rw [show orOp idxD1 idxD3 (D.dic (ikeys ks) (ks.map g)) (.int v) = none from rfl]
    show (dLook (ikeys ks) (ks.map g) (.inl v)).map Val.d = _
    rw [dLook_map hv]
    rfl) q
theorem x_inD {v : Int} {ks : List Int} {g : Int → D} (h1 : x.peek ρ = some (.int v)) (h2 : y.peek ρ = some (.dic (ikeys ks) (ks.map g))) (q : Q (.d (.bl (decide (v ∈ ks)))) ρ) : (opV inD x y ρ).wp Q X :=
  b_opV (z := .d (.bl (decide (v ∈ ks)))) h1 h2 (by
    show some (Val.d (.bl (dLook (ikeys ks) (ks.map g) (.inl v)).isSome)) = _
    by_cases e : v ∈ ks
    · rw [dLook_map e]; simp [e]
    · rw [dLook_no e]; simp [e]) q
theorem x_ninD {v : Int} {ks : List Int} {g : Int → D} (h1 : x.peek ρ = some (.int v)) (h2 : y.peek ρ = some (.dic (ikeys ks) (ks.map g))) (q : Q (.d (.bl (!decide (v ∈ ks)))) ρ) : (opV ninD x y ρ).wp Q X :=
  b_opV (z := .d (.bl (!decide (v ∈ ks)))) h1 h2 (by
    show some (Val.d (.bl (!(dLook (ikeys ks) (ks.map g) (.inl v)).isSome))) = _
    by_cases e : v ∈ ks
    · rw [dLook_map e]; simp [e]
    · rw [dLook_no e]; simp [e]) q
theorem x_storeD {v : Int} {ks : List Int} {g : Int → D} (e : ρ[i]? = some (.ow (.dic (ikeys ks) (ks.map g)) m)) (hm : m = .own ∨ m = .bor) (h2 : y.peek ρ = some (.int v)) (hv : v ∈ ks) (hl : ks.length < 16777216)
    (q : P.nx (ρ.set i (.ow (.dic (ikeys ks) (ks.map fun w => if w = v then d else g w)) m))) : (storeV i (.d d) y ρ).wp P := by
  refine s_storeV ?_ q
  unfold storeV
  rw [h2, e]
  dsimp only
  have e2 : storeO (.dic (ikeys ks) (ks.map g)) (.int v) d = some (.dic (ikeys ks) (ks.map fun w => if w = v then d else g w)) := by
    unfold storeO
    show (if (ikeys ks).length < 16777216 then some (dPut (ikeys ks) (ks.map g) (.inl v) d) else none) = _
    rw [if_pos (by unfold ikeys; rw [List.length_map]; exact hl)]
    unfold dPut
    rw [any_key, if_pos (by simpa using hv), dSet_map]
  rw [e2]
  dsimp only
  unfold mutS
  rw [e]
  rcases hm with rfl | rfl <;> rfl
/-- a new key at the end -/
theorem x_storeDn {v : Int} {ks : List Int} {g : Int → D} (e : ρ[i]? = some (.ow (.dic (ikeys ks) (ks.map g)) m)) (hm : m = .own ∨ m = .bor) (h2 : y.peek ρ = some (.int v)) (hv : v ∉ ks) (hl : ks.length < 16777216)
    (q : P.nx (ρ.set i (.ow (.dic (ikeys (ks ++ [v])) (ks.map g ++ [d])) m))) : (storeV i (.d d) y ρ).wp P := by
  refine s_storeV ?_ q
  unfold storeV
  rw [h2, e]
  dsimp only
  have e2 : storeO (.dic (ikeys ks) (ks.map g)) (.int v) d = some (.dic (ikeys (ks ++ [v])) (ks.map g ++ [d])) := by
    unfold storeO
    show (if (ikeys ks).length < 16777216 then some (dPut (ikeys ks) (ks.map g) (.inl v) d) else none) = _
    rw [if_pos (by unfold ikeys; rw [List.length_map]; exact hl)]
    unfold dPut
    rw [any_key, if_neg (by simpa using hv)]
    unfold ikeys
    rw [List.map_append]
    rfl
  rw [e2]
  dsimp only
  unfold mutS
  rw [e]
  rcases hm with rfl | rfl <;> rfl
/-! what is walked -/
theorem b_ienu (q : (f ρ).wp (fun x ρ1 => (seqSrc x ρ1).wp (fun src ρ2 => QI (enumL src.1, src.2) ρ2) X) X) : (iEnu f ρ).wp QI X := b_bind (R.wp_mono q (fun _ _ h => b_bind h) fun _ _ h => h)
theorem b_iany (q : (f ρ).wp (fun x ρ1 => (anySrc x ρ1).wp QI X) X) : (iAny f ρ).wp QI X := b_bind q
theorem b_anyDic {ks : List Key} {vs : List D} (e : x.peek ρ = some (.dic ks vs)) (e2 : x.fzA ρ = .ok (.d (.dic ks vs)) ρ') (q : QI (ks.map keyToD, none) ρ') : (anySrc x ρ).wp QI X := by
  unfold anySrc isDic
  rw [e]
  dsimp only
  rw [if_pos rfl]
  unfold dicSrc
  rw [e2]
  exact q
theorem b_anySeq (e : isDic ρ x = false) (q : (seqSrc x ρ).wp QI X) : (anySrc x ρ).wp QI X := by
  unfold anySrc
  rw [e, if_neg (by decide)]
  exact q
theorem keys_ints {ks : List Int} : (ikeys ks).map keyToD = ks.map D.int := by unfold ikeys; rw [List.map_map]; rfl
theorem b_seqT {ds : List D} (q : QI (ds, none) ρ) : (seqSrc (.d (.tup ds)) ρ).wp QI X := q
theorem b_seqL {ds : List D} (q : QI (ds, none) ρ) : (seqSrc (.d (.lst ds)) ρ).wp QI X := q
theorem b_seqF {ds : List D} (q : QI (ds, none) ρ) : (seqSrc (.fr (.lst ds)) ρ).wp QI X := q
theorem b_seqO {ds : List D} (e : ρ[i]? = some (.ow (.lst ds) m)) (q : QI (ds, some i) ρ) : (seqSrc (.sl i) ρ).wp QI X := by
  unfold seqSrc
  dsimp only
  rw [e]
  exact q
theorem s_loopU {tg : Val → SM} {body : SM} {ds : List D} {lk : Option Nat} (q : (loopD tg body ds ρ).wp { nx := fun ρ2 => P.nx (unlk lk ρ' ρ2), rt := fun x ρ2 => P.rt x (unlk lk ρ' ρ2), bk := fun ρ2 => P.bk (unlk lk ρ' ρ2), ct := fun ρ2 => P.ct (unlk lk ρ' ρ2), ex := fun x ρ2 => P.ex x (unlk lk ρ' ρ2) }) : (unlkS lk ρ' (loopD tg body ds ρ)).wp P := by
  cases e : loopD tg body ds ρ <;> rw [e] at q <;> exact q
theorem s_gsCons {g : Val → SM} {h : List D → SM} {ds : List D} (q : (g (.d d) ρ).wp { P with nx := fun ρ1 => (h ds ρ1).wp P }) : (gsCons g h (d :: ds) ρ).wp P := by
  show ((g (.d d) ρ).thenS (h ds)).wp P
  cases e : g (.d d) ρ <;> rw [e] at q <;> exact q
theorem s_gsNil (q : P.nx ρ) : (gsNil [] ρ).wp P := q
theorem s_tupG {n : Nat} {h : List D → SM} {ds : List D} (e : x.peek ρ = some (.tup ds)) (hl : ds.length = n) (q : (h ds ρ).wp P) : (tupG n h x ρ).wp P := by
  unfold tupG
  rw [e]
  dsimp only
  rw [if_pos hl]
  exact q
/-! comprehensions, whatever they fill -/
theorem compA_inv {α : Type} {own : List Nat} {tg : Val → SM} {tt : M Bool} {st : α → M α} {QD : α → DEnv → Prop} {XD : Ex → DEnv → Prop} (I : Nat → α → DEnv → Prop) : ∀ (ds : List D) (k : Nat) (acc : α) (ρ : DEnv), I k acc ρ →
    (∀ j dd acc ρ, ds[j]? = some dd → I (k + j) acc ρ → (tg (.d dd) ρ).wp { nx := fun ρ1 => (tt ρ1).wp (fun b ρ2 => (b = false → I (k + j + 1) acc (wipeD ρ2 own)) ∧ (b = true → (st acc ρ2).wp (fun y ρ3 => I (k + j + 1) y (wipeD ρ3 own)) fun _ _ => False)) fun _ _ => False, rt := fun _ _ => False }) →
    (∀ acc ρ, I (k + ds.length) acc ρ → QD acc ρ) → (compA own tg tt st ds acc ρ).wp QD XD
  | [], k, acc, ρ, h0, hs, he => he acc ρ h0
  | dd :: ds, k, acc, ρ, h0, hs, he => by
    have h1 := hs 0 dd acc ρ rfl h0
    have rest : ∀ acc ρ2, I (k + 0 + 1) acc ρ2 → (compA own tg tt st ds acc ρ2).wp QD XD := fun acc ρ2 h2 => compA_inv I ds (k + 1) acc ρ2 h2 (fun j d acc ρ e h => by
        have := hs (j + 1) d acc ρ (by simpa using e) (by rw [show k + (j + 1) = k + 1 + j by omega]; exact h)
        rw [show k + (j + 1) = k + 1 + j by omega] at this
        exact this) fun acc ρ h => he acc ρ (by rw [List.length_cons, show k + (ds.length + 1) = k + 1 + ds.length by omega]; exact h)
    unfold compA
    cases e1 : tg (.d dd) ρ with
    | nx ρ1 =>
      rw [e1] at h1
      have h1 : (tt ρ1).wp _ _ := h1
      dsimp only
      cases e2 : tt ρ1 with
      | ok b ρ2 =>
        rw [e2] at h1
        have h1 : _ ∧ _ := h1
        dsimp only
        cases b with
        | false => rw [if_neg (by decide)]; exact rest _ _ (h1.1 rfl)
        | true =>
          rw [if_pos rfl]
          have h2 := h1.2 rfl
          cases e3 : st acc ρ2 with
          | ok y ρ3 => rw [e3] at h2; exact rest _ _ h2
          | ex x ρ3 => rw [e3] at h2; exact h2.elim
          | bad => rw [e3] at h2; exact h2.elim
      | ex x ρ2 => rw [e2] at h1; exact h1.elim
      | bad => rw [e2] at h1; exact h1.elim
    | rt x ρ1 => rw [e1] at h1; exact h1.elim
    | bk ρ1 => rw [e1] at h1; exact h1.elim
    | ct ρ1 => rw [e1] at h1; exact h1.elim
    | ex x ρ1 => rw [e1] at h1; exact h1.elim
    | bad => rw [e1] at h1; exact h1.elim
theorem b_gc {α : Type} {own : List Nat} {fi : IM} {tg : Val → SM} {tt : M Bool} {st : α → M α} {a0 : α} {QA : α → DEnv → Prop} (q : (fi ρ).wp (fun src ρ1 => inB own ρ1 = true ∧ src.1.length < 16777216 ∧ (compA own tg tt st src.1 a0 (wipeD (lockS src.2 ρ1) own)).wp (fun ys ρ2 => QA ys (unlk src.2 ρ1 (backD (lockS src.2 ρ1) ρ2 own))) fun _ _ => False) X) : (eGc own fi tg tt st a0 ρ).wp QA X := by
  refine b_bind (R.wp_mono q (fun src ρ1 h => ?_) fun _ _ h => h)
  obtain ⟨h1, h2, h3⟩ := h
  rw [if_pos ⟨h1, h2⟩]
  cases e : compA own tg tt st src.1 a0 (wipeD (lockS src.2 ρ1) own) with
  | ok ys ρ2 => rw [e] at h3; exact h3
  | ex x ρ2 => rw [e] at h3; exact h3.elim
  | bad => rw [e] at h3; exact h3.elim
/-- {int of d for d in ds}, sorted -/
theorem b_sortSc {own : List Nat} {fi : IM} {tg : Val → SM} {tt : M Bool} {el : EM} (q : (fi ρ).wp (fun src ρ1 => inB own ρ1 = true ∧ src.1.length < 16777216 ∧ (compA own tg tt (scStep el) src.1 [] (wipeD (lockS src.2 ρ1) own)).wp (fun ns ρ2 => Q (.fr (.lst ((sortSetI ns).map D.int))) (unlk src.2 ρ1 (backD (lockS src.2 ρ1) ρ2 own))) fun _ _ => False) X) : (eSortSc own fi tg tt el ρ).wp Q X := b_bind (b_gc q)
theorem b_dc {own : List Nat} {fi : IM} {tg : Val → SM} {tt : M Bool} {kx vx : EM} (q : (fi ρ).wp (fun src ρ1 => inB own ρ1 = true ∧ src.1.length < 16777216 ∧ (compA own tg tt (dcStep kx vx) src.1 ([], []) (wipeD (lockS src.2 ρ1) own)).wp (fun a ρ2 => Q (.fr (.dic a.1 a.2)) (unlk src.2 ρ1 (backD (lockS src.2 ρ1) ρ2 own))) fun _ _ => False) X) : (eDc own fi tg tt kx vx ρ).wp Q X := b_bind (b_gc q)
theorem b_scStep {el : EM} {acc : List Int} {QA : List Int → DEnv → Prop} (hl : acc.length < 4000) (q : (el ρ).wp (fun y ρ1 => ∃ k, y = .d (.int k) ∧ QA (acc ++ [k]) ρ1) X) : (scStep el acc ρ).wp QA X := b_bind (R.wp_mono q (fun y ρ1 h => by
  obtain ⟨k, rfl, h⟩ := h
  dsimp only
  rw [if_pos (by omega)]
  exact h) fun _ _ h => h)
theorem b_dcStep {kx vx : EM} {acc : List Key × List D} {QA : List Key × List D → DEnv → Prop} (q : (kx ρ).wp (fun y ρ1 => ∃ k, y = .d (.int k) ∧ (vx ρ1).wp (fun z ρ2 => ∃ d, z = .d d ∧ QA (if acc.1.any (fun j => decide (j = (Sum.inl k : Key))) = true then (acc.1, dSet acc.1 acc.2 (.inl k) d) else (acc.1 ++ [.inl k], acc.2 ++ [d])) ρ2) X) X) : (dcStep kx vx acc ρ).wp QA X := b_bind (R.wp_mono q (fun y ρ1 h => by
  obtain ⟨k, rfl, h⟩ := h
  refine b_bind (R.wp_mono h (fun z ρ2 h => ?_) fun _ _ h => h)
  obtain ⟨d, rfl, h⟩ := h
  show R.wp (if _ then _ else _) QA X
  split
  · rename_i e; rw [if_pos e] at h; exact h
  · rename_i e; rw [if_neg e] at h; exact h) fun _ _ h => h)
/-- each item by itself, the slots as before -/
theorem comp_pure {own : List Nat} {tg : Val → SM} {tt : M Bool} {el : EM} {QD : List D → DEnv → Prop} {XD : Ex → DEnv → Prop} {ds : List D} (p : D → Bool) (g : D → D)
    (h : ∀ d ∈ ds, (tg (.d d) ρ).wp { nx := fun ρ1 => (tt ρ1).wp (fun b ρ2 => b = p d ∧ (b = false → wipeD ρ2 own = ρ) ∧ (b = true → (el ρ2).wp (fun y ρ3 => y = .d (g d) ∧ wipeD ρ3 own = ρ) fun _ _ => False)) fun _ _ => False, rt := fun _ _ => False })
    (q : QD ((ds.filter p).map g) ρ) : (compD own tg tt el ds [] ρ).wp QD XD := by
  refine comp_inv (fun k acc ρ' => ρ' = ρ ∧ acc = ((ds.take k).filter p).map g) ds 0 [] ρ ⟨rfl, rfl⟩ (fun j dd acc ρ' hj hI => ?_) fun acc ρ' hI => ?_
  · obtain ⟨rfl, rfl⟩ := hI
    have tk : ds.take (0 + j + 1) = ds.take (0 + j) ++ [dd] := by rw [Nat.zero_add, List.take_add_one, hj]; rfl
    have h1 := h dd (List.mem_of_getElem? hj)
    cases e1 : tg (.d dd) ρ' with
    | nx ρ1 =>
      rw [e1] at h1
      refine R.wp_mono (Q' := _) h1 (fun b ρ2 h2 => ?_) fun _ _ h => h
      obtain ⟨hb, h3, h4⟩ := h2
      refine ⟨fun hf => ⟨h3 hf, ?_⟩, fun ht => R.wp_mono (h4 ht) (fun y ρ3 h5 => ?_) fun _ _ h => h⟩
      · rw [tk, List.filter_append]
        subst hf
        simp [hb.symm]
      · obtain ⟨rfl, e⟩ := h5
        refine ⟨_, rfl, e, ?_⟩
        rw [tk, List.filter_append]
        subst ht
        simp [hb.symm]
    | rt x ρ1 => rw [e1] at h1; exact h1.elim
    | bk ρ1 => rw [e1] at h1; exact h1.elim
    | ct ρ1 => rw [e1] at h1; exact h1.elim
    | ex x ρ1 => rw [e1] at h1; exact h1.elim
    | bad => rw [e1] at h1; exact h1.elim
  · obtain ⟨rfl, rfl⟩ := hI
    rw [Nat.zero_add, List.take_length]
    exact q
/-- .. over what a typed list stands for -/
theorem comp_map {β : Type} {own : List Nat} {tg : Val → SM} {tt : M Bool} {el : EM} {QD : List D → DEnv → Prop} {XD : Ex → DEnv → Prop} {bs : List β} {dd : β → D} (p : β → Bool) (g : β → D)
    (h : ∀ b ∈ bs, (tg (.d (dd b)) ρ).wp { nx := fun ρ1 => (tt ρ1).wp (fun k ρ2 => k = p b ∧ (k = false → wipeD ρ2 own = ρ) ∧ (k = true → (el ρ2).wp (fun y ρ3 => y = .d (g b) ∧ wipeD ρ3 own = ρ) fun _ _ => False)) fun _ _ => False, rt := fun _ _ => False })
    (q : QD ((bs.filter p).map g) ρ) : (compD own tg tt el (bs.map dd) [] ρ).wp QD XD := by
  refine comp_inv (fun k acc ρ' => ρ' = ρ ∧ acc = ((bs.take k).filter p).map g) (bs.map dd) 0 [] ρ ⟨rfl, rfl⟩ (fun j d acc ρ' hj hI => ?_) fun acc ρ' hI => ?_
  · obtain ⟨rfl, rfl⟩ := hI
    rw [List.getElem?_map] at hj
    obtain ⟨b, hb, rfl⟩ := Option.map_eq_some_iff.mp hj
    have tk : bs.take (0 + j + 1) = bs.take (0 + j) ++ [b] := by rw [Nat.zero_add, List.take_add_one, hb]; rfl
    have h1 := h b (List.mem_of_getElem? hb)
    cases e1 : tg (.d (dd b)) ρ' with
    | nx ρ1 =>
      rw [e1] at h1
      refine R.wp_mono (Q' := _) h1 (fun b ρ2 h2 => ?_) fun _ _ h => h
      obtain ⟨hb, h3, h4⟩ := h2
      refine ⟨fun hf => ⟨h3 hf, ?_⟩, fun ht => R.wp_mono (h4 ht) (fun y ρ3 h5 => ?_) fun _ _ h => h⟩
      · rw [tk, List.filter_append]
        subst hf
        simp [hb.symm]
      · obtain ⟨rfl, e⟩ := h5
        refine ⟨_, rfl, e, ?_⟩
        rw [tk, List.filter_append]
        subst ht
        simp [hb.symm]
    | rt x ρ1 => rw [e1] at h1; exact h1.elim
    | bk ρ1 => rw [e1] at h1; exact h1.elim
    | ct ρ1 => rw [e1] at h1; exact h1.elim
    | ex x ρ1 => rw [e1] at h1; exact h1.elim
    | bad => rw [e1] at h1; exact h1.elim
  · obtain ⟨rfl, rfl⟩ := hI
    rw [Nat.zero_add, List.length_map, List.take_length]
    exact q
theorem bls_map : ∀ (bs : List Bool), blsD (bs.map D.bl) = some bs
  | [] => rfl
  | b :: bs => by
    show (blsD (bs.map D.bl)).map _ = _
    rw [bls_map bs]
    rfl
theorem all_bls {bs : List Bool} : allD [.lst (bs.map D.bl)] = some (.d (.bl (bs.all id))) := by
  show (blsD _).map _ = _
  rw [bls_map]
  rfl
theorem any_bls {bs : List Bool} : anyD [.lst (bs.map D.bl)] = some (.d (.bl (bs.any id))) := by
  show (blsD _).map _ = _
  rw [bls_map]
  rfl
def SelK (idx : List Nat) (xs : List Val) (G : List Val → Prop) : Prop := ∃ zs, selL idx xs = some zs ∧ G zs
theorem b_selK {idx : List Nat} {xs zs : List Val} {G : List Val → Prop} (e : selL idx xs = some zs) (q : G zs) : SelK idx xs G := ⟨zs, e, q⟩
theorem b_callK {idx : List Nat} {Fm : FM} {gl gk : M (List Val)} (q : (gl ρ).wp (fun xs ρ1 => (gk ρ1).wp (fun ys ρ2 => SelK idx (xs ++ ys) fun zs => (callF Fm zs ρ2).wp Q X) X) X) : (eCallK idx Fm gl gk ρ).wp Q X := by
  refine b_bind (R.wp_mono q (fun xs ρ1 h => b_bind (R.wp_mono h (fun ys ρ2 h => ?_) fun _ _ h => h)) fun _ _ h => h)
  obtain ⟨zs, e, h⟩ := h
  rw [e]
  exact h
/-! truth values in the middle of something -/
def BlK (x : Val) (G : Bool → Prop) : Prop := ∃ k, x = .d (.bl k) ∧ G k
theorem b_blK {k : Bool} {G : Bool → Prop} (q : G k) : BlK (.d (.bl k)) G := ⟨k, rfl, q⟩
def DtK (x : Val) (G : D → Prop) : Prop := ∃ d, x = .d d ∧ G d
theorem b_dtK {d : D} {G : D → Prop} (q : G d) : DtK (.d d) G := ⟨d, rfl, q⟩
def IntK (x : Val) (G : Int → Prop) : Prop := ∃ k, x = .d (.int k) ∧ G k
theorem b_intK {k : Int} {G : Int → Prop} (q : G k) : IntK (.d (.int k)) G := ⟨k, rfl, q⟩
/-- the two ways of a test -/
def Way (k : Bool) (A B : Prop) : Prop := (k = true → A) ∧ (k = false → B)
theorem way_t {k : Bool} {A B : Prop} (e : k = true) (q : A) : Way k A B := ⟨fun _ => q, fun h => by rw [e] at h; cases h⟩
theorem way_f {k : Bool} {A B : Prop} (e : k = false) (q : B) : Way k A B := ⟨fun h => (by rw [e] at h; cases h), fun _ => q⟩
theorem b_eAndK (q : (f ρ).wp (fun x ρ1 => BlK x fun k => Way k ((g ρ1).wp Q X) (Q (.d (.bl false)) ρ1)) X) : (eAnd f g ρ).wp Q X := b_eAnd (R.wp_mono q (fun _ _ ⟨k, e, h⟩ => ⟨k, e, h.1, h.2⟩) fun _ _ h => h)
theorem b_eOrK (q : (f ρ).wp (fun x ρ1 => BlK x fun k => Way k (Q (.d (.bl true)) ρ1) ((g ρ1).wp Q X)) X) : (eOr f g ρ).wp Q X := b_eOr (R.wp_mono q (fun _ _ ⟨k, e, h⟩ => ⟨k, e, h.1, h.2⟩) fun _ _ h => h)
theorem b_eNotK (q : (f ρ).wp (fun x ρ1 => BlK x fun k => Q (.d (.bl !k)) ρ1) X) : (eNot f ρ).wp Q X := b_eNot q
theorem b_chainK (q : (f ρ).wp (fun x ρ1 => (g ρ1).wp (fun y ρ2 => (opV op x y ρ2).wp (fun z ρ3 => BlK z fun k => Way k ((h ρ3).wp (fun w ρ4 => (opV op' y w ρ4).wp Q X) X) (Q (.d (.bl false)) ρ3)) X) X) X) : (eChain op op' f g h ρ).wp Q X := by
  refine b_chain (R.wp_mono q (fun x ρ1 h1 => R.wp_mono h1 (fun y ρ2 h2 => R.wp_mono h2 (fun z ρ3 h3 => ?_) fun _ _ h => h) fun _ _ h => h) fun _ _ h => h)
  obtain ⟨k, e, h4⟩ := h3
  exact ⟨k, e, h4.1, h4.2⟩
theorem b_andW (q : (t ρ).wp (fun k ρ1 => Way k ((u ρ1).wp QB X) (QB false ρ1)) X) : (tAndM t u ρ).wp QB X := b_and q
theorem b_orW (q : (t ρ).wp (fun k ρ1 => Way k (QB true ρ1) ((u ρ1).wp QB X)) X) : (tOrM t u ρ).wp QB X := b_or q
theorem b_eIfW (q : (t ρ).wp (fun k ρ1 => Way k ((f ρ1).wp Q X) ((g ρ1).wp Q X)) X) : (eIf t f g ρ).wp Q X := b_eIf q
theorem s_ifW {s1 s2 : SM} (q : (t ρ).wp (fun k ρ1 => Way k ((s1 ρ1).wp P) ((s2 ρ1).wp P)) P.ex) : (sIf t s1 s2 ρ).wp P := s_if q
/-- a test whose answer is known by its meaning, whatever is looked at first -/
theorem b_scStepK {el : EM} {acc : List Int} {QA : List Int → DEnv → Prop} (hl : acc.length < 4000) (q : (el ρ).wp (fun y ρ1 => IntK y fun k => QA (acc ++ [k]) ρ1) X) : (scStep el acc ρ).wp QA X := b_scStep hl q
theorem b_dcStepK {kx vx : EM} {acc : List Key × List D} {QA : List Key × List D → DEnv → Prop} (q : (kx ρ).wp (fun y ρ1 => IntK y fun k => (vx ρ1).wp (fun z ρ2 => DtK z fun d => QA (if acc.1.any (fun j => decide (j = (Sum.inl k : Key))) = true then (acc.1, dSet acc.1 acc.2 (.inl k) d) else (acc.1 ++ [.inl k], acc.2 ++ [d])) ρ2) X) X) : (dcStep kx vx acc ρ).wp QA X := b_dcStep q
/-- what is walked by a comprehension: the slots are there, not too many items -/
def CompK (own : List Nat) (ρ : DEnv) (n : Nat) (G : Prop) : Prop := inB own ρ = true ∧ n < 16777216 ∧ G
theorem b_compK {own : List Nat} {n : Nat} {G : Prop} (h1 : inB own ρ = true) (h2 : n < 16777216) (q : G) : CompK own ρ n G := ⟨h1, h2, q⟩
theorem b_lcK {own : List Nat} {fi : IM} {tg : Val → SM} {tt : M Bool} {el : EM} (q : (fi ρ).wp (fun src ρ1 => CompK own ρ1 src.1.length ((compD own tg tt el src.1 [] (wipeD (lockS src.2 ρ1) own)).wp (fun ys ρ2 => PB (unlk src.2 ρ1 (backD (lockS src.2 ρ1) ρ2 own)) fun ρ3 => Q (.fr (.lst ys)) ρ3) fun _ _ => False)) X) : (eLc own fi tg tt el ρ).wp Q X := b_lc q
theorem b_sortScK {own : List Nat} {fi : IM} {tg : Val → SM} {tt : M Bool} {el : EM} (q : (fi ρ).wp (fun src ρ1 => CompK own ρ1 src.1.length ((compA own tg tt (scStep el) src.1 [] (wipeD (lockS src.2 ρ1) own)).wp (fun ns ρ2 => PB (unlk src.2 ρ1 (backD (lockS src.2 ρ1) ρ2 own)) fun ρ3 => Q (.fr (.lst ((sortSetI ns).map D.int))) ρ3) fun _ _ => False)) X) : (eSortSc own fi tg tt el ρ).wp Q X := b_sortSc q
theorem b_dcK {own : List Nat} {fi : IM} {tg : Val → SM} {tt : M Bool} {kx vx : EM} (q : (fi ρ).wp (fun src ρ1 => CompK own ρ1 src.1.length ((compA own tg tt (dcStep kx vx) src.1 ([], []) (wipeD (lockS src.2 ρ1) own)).wp (fun a ρ2 => PB (unlk src.2 ρ1 (backD (lockS src.2 ρ1) ρ2 own)) fun ρ3 => Q (.fr (.dic a.1 a.2)) ρ3) fun _ _ => False)) X) : (eDc own fi tg tt kx vx ρ).wp Q X := b_dc q
theorem x_lrg {i j : Int} (h1 : x.peek ρ = some (.int i)) (h2 : y.peek ρ = some (.int j)) (h : rgIn i j = true) (q : Q (.fr (.lst (rgL i j))) ρ) : (opV lrgD x y ρ).wp Q X :=
  b_opV h1 h2 (by unfold lrgD; exact if_pos h) q
theorem x_sortSet {ns : List Int} (h1 : x.peek ρ = some (.lst (ns.map D.int))) (hl : ns.length < 4000) (q : Q (.fr (.lst ((sortSetI ns).map D.int))) ρ) : (unV (fun x => (setI x).map fun ns => .fr (.lst ((sortSetI ns).map D.int))) x ρ).wp Q X :=
  b_unV h1 (by
    have e : setI (.lst (ns.map D.int)) = some ns := by
      unfold setI
      dsimp only
      rw [intsD_map]
      exact if_pos hl
    rw [e]
    rfl) q
theorem x_lenSet {ns : List Int} (h1 : x.peek ρ = some (.lst (ns.map D.int))) (hl : ns.length < 4000) (q : Q (.d (.int ((sortSetI ns).length : Nat))) ρ) : (unV (fun x => (setI x).map fun ns => .d (.int ((sortSetI ns).length : Nat))) x ρ).wp Q X :=
  b_unV h1 (by
    have e : setI (.lst (ns.map D.int)) = some ns := by
      unfold setI
      dsimp only
      rw [intsD_map]
      exact if_pos hl
    rw [e]
    rfl) q
end
end DL
set_option maxHeartbeats 2000000
/-! DL23: a dict comprehension put under a name; tests for None. -/
namespace DL
open PySem PySem.Spec PyProof.Rows L2
section
variable {X : Cx} {W : WX} {tg iter a kx vx : Expr} {ifs : List Expr} {fi : IM} {f : EM} {h : Val → SM} {tt : M Bool} {mk mv : EM} {S : List Nat} {own : List (Str × Nat)} {scope : Scope} {pos : Pos}
theorem dt_isN {j pos'} (ha : DE X W a f) : DT X W (.Compare a [.Is] [.Constant .none j pos'] pos) (tst (eIsN f)) :=
  pt_conseq (pt_cmp (pc_isN ha)) fun σ H Q hq => by
    obtain ⟨F, ρ, sr, q⟩ := tst_ok hq
    refine ⟨F, ρ, sr, (Out.bind (rel := relV X.K σ) q).mono fun v H1 ⟨x, F1, ρ1, e1, s1, ev1, r1, o1⟩ => ?_⟩
    have o2 := o1.from ev1 (relV_from ev1)
    split at o2
    · exact o2.elim
    · rename_i n
      rw [isNon_ok r1 n]
      exact o2 _ F1 H1 s1 .refl (Rep.bl _)
theorem dt_notN {j pos'} (ha : DE X W a f) : DT X W (.Compare a [.IsNot] [.Constant .none j pos'] pos) (tst (eNotN f)) :=
  pt_conseq (pt_cmp (pc_notN ha)) fun σ H Q hq => by
    obtain ⟨F, ρ, sr, q⟩ := tst_ok hq
    refine ⟨F, ρ, sr, (Out.bind (rel := relV X.K σ) q).mono fun v H1 ⟨x, F1, ρ1, e1, s1, ev1, r1, o1⟩ => ?_⟩
    have o2 := o1.from ev1 (relV_from ev1)
    split at o2
    · exact o2.elim
    · rename_i n
      rw [isNon_ok r1 n]
      exact o2 _ F1 H1 s1 .refl (Rep.bl _)
theorem ps_setDc {i : Nat} {y : Str} {py spos : Pos} {wi : TI} {g : TG} {tc : TT} {tk tv : TE} (hc : X.calm = true) (hN : X.N.Nodup) (hy : X.N[i]? = some y) (hyl : X.env.scope.names.lookup y = some .local)
    (hsw : swapsWith (.DictComp kx vx [⟨tg, iter, ifs, 0⟩] scope pos) (some (.Name y py)) spos.line X.env = pure true) (hi : PI X tg iter wi) (ok : BlkOk X.N X.env.scope scope own)
    (hg : ∀ (s : Shared) (H : Hp) (C : Addr) (cl : List (Str × Addr)) (fp : List Addr), PG (X.blk s H scope (compEnvC scope cl C X.env) fp) tg g)
    (ht : ∀ (s : Shared) (H : Hp) (C : Addr) (cl : List (Str × Addr)) (fp : List Addr), PTs (X.blk s H scope (compEnvC scope cl C X.env) fp) ifs tc)
    (hk : ∀ (s : Shared) (H : Hp) (C : Addr) (cl : List (Str × Addr)) (fp : List Addr), PE (X.blk s H scope (compEnvC scope cl C X.env) fp) kx tk)
    (he : ∀ (s : Shared) (H : Hp) (C : Addr) (cl : List (Str × Addr)) (fp : List Addr), PE (X.blk s H scope (compEnvC scope cl C X.env) fp) vx tv) (hs : ∀ x, foldedSetIterable iter X.env x = pure x) :
    PS X (.Assign [.Name y py] (.DictComp kx vx [⟨tg, iter, ifs, 0⟩] scope pos) spos) (tAsg (tDc wi g tc tk tv (own.map (·.2))) (gName i)) := ⟨fun pins s σ H D I hq => by
  rw [exec_Assign_Name_used _ _ _ _ hsw]
  refine wpAny_bind (wpAny_standAt (wpAny_bind ?_))
  change wpAny _ X.A (do let _ ← comprehension (.DictComp kx vx [⟨tg, iter, ifs, 0⟩] scope pos) scope X.env (firstIterPos [⟨tg, iter, ifs, 0⟩] pos) newDict false (eval iter X.env) (some (assign (.Name y py) X.env))) _ _ s
  have hq : tDc wi g tc tk tv (own.map (·.2)) σ H (fun x H1 => gName i x σ H1 D.nx) := hq
  refine wpAny_bind (thn (dc_core (Qf := fun _ z => SP X pins D .next z) hc hN I hi ok hg ht hk he hs hq fun L C z m Hz Iz qz hn fk => ?_) fun _ z k => wpAny_pure (wpAny_pure k))
  change wpAny _ _ (assign (.Name y py) X.env (.ref L)) _ _ _
  refine wpAny_assign_Name (store_ok2 (v := V.ref L) Iz hN hy (.inl hyl) rfl (fun z2 I2 ⟨b, sb, hb⟩ => ?_) (.inr hyl))
  obtain ⟨k0, k1, k2, k3, k4, k5⟩ := fk
  have ne : C ≠ b := hb.elim (fun e => by rw [e]; exact k1) fun e c => k4 y b e c.symm
  exact ⟨m, hn.sameBut sb ne, fun h3 sb3 => ⟨_, Hz, I2.turned (t' := z2.toks) (fun c o nc e => (sb3.2 c nc).trans e) k0 k1 k3 k4 k5, qz⟩⟩⟩
theorem ds_setDc (i : Nat) {y : Str} {py : Pos} {spos : Pos} (hc : X.calm = true) (hN : X.N.Nodup) (hi : DI X W tg iter fi) (ok : BlkOk X.N X.env.scope scope own) (hS : ∀ i ∈ S, i ∈ own.map (·.2))
    (hg : ∀ (s : Shared) (H : Hp) (C : Addr) (cl : List (Str × Addr)) (fp : List Addr), DG (X.blk s H scope (compEnvC scope cl C X.env) fp) tg S h) (ht : ∀ (s : Shared) (H : Hp) (C : Addr) (cl : List (Str × Addr)) (fp : List Addr), DTs (X.blk s H scope (compEnvC scope cl C X.env) fp) W0 ifs tt)
    (hk : ∀ (s : Shared) (H : Hp) (C : Addr) (cl : List (Str × Addr)) (fp : List Addr), DE (X.blk s H scope (compEnvC scope cl C X.env) fp) W0 kx mk) (he : ∀ (s : Shared) (H : Hp) (C : Addr) (cl : List (Str × Addr)) (fp : List Addr), DE (X.blk s H scope (compEnvC scope cl C X.env) fp) W0 vx mv)
    (hsw : swapsWith (.DictComp kx vx [⟨tg, iter, ifs, 0⟩] scope pos) (some (.Name y py)) spos.line X.env = pure true) (hy : X.N[i]? = some y := by rfl) (hyl : X.env.scope.names.lookup y = some .local := by rfl) (hs : ∀ x, foldedSetIterable iter X.env x = pure x := by intro _; rfl) :
    DS X W (.Assign [.Name y py] (.DictComp kx vx [⟨tg, iter, ifs, 0⟩] scope pos) spos) (sAsg i (eDc (own.map (·.2)) fi h tt mk mv)) :=
  ps_conseq (ps_setDc (g := tG X.K S h) (tc := tT X.K X.mg W0 tt) (tk := tD X.K X.mg W0 mk) (tv := tD X.K X.mg W0 mv) hc hN hy hyl hsw hi ok hg ht hk he hs) fun D σ H hq => by
    obtain ⟨F, ρ, sr, q⟩ := hq
    have q2 : OutS X.K X.mg W σ ρ F H ((eGc (own.map (·.2)) fi h tt (dcStep mk mv) ([], []) ρ).bindS fun a ρ' => asgV i (.fr (.dic a.1 a.2)) ρ') D := by
      have e : ∀ r : DL.R (List Key × List DL.D), (r.bind fun a ρ' => DL.R.ok (Val.fr (Cont.dic a.1 a.2)) ρ').bindS (fun x ρ1 => asgV i x ρ1) = r.bindS fun a ρ' => asgV i (.fr (.dic a.1 a.2)) ρ' := fun r => by cases r <;> rfl
      rw [← e]
      exact q
    refine (gc_ok (α := List Key × List DL.D) (fi := fi) (h := h) (tt := tt) (S := S) (Q := fun x H1 => gName i x σ H1 D.nx) (ST := dcSt (tD X.K X.mg W0 mk) (tD X.K X.mg W0 mv)) dc_fill hS ⟨F, ρ, sr, ?_⟩ :)
    refine (Out.bindS (rel := relG σ (dcAR X.K)) q2).mono fun v H1 ⟨a, F1, ρ1, e1, s1, ev1, ⟨D', ob, ev, n1, n2, hD, ⟨vs, eo, l, r⟩, no⟩, o1⟩ => ?_
    subst ev; subst eo
    obtain ⟨ρ', e2, F2, s2, ev2⟩ := asg_ok (W := W) s1 ev1 (x := .fr (.dic a.1 a.2)) ⟨D', rfl, n1, n2, ⟨vs, hD, l, r⟩, no⟩ o1
    rw [e2] at o1
    exact o1 _ F2 H1 s2 ev2
end
end DL
set_option maxHeartbeats 2000000
/-! DL24: repr of single values, an empty dict. -/
namespace DL
open PySem PySem.Spec PyProof.Rows L2
def reprX : List D → Option Val
  | [.bl b] => some (.d (.str (if b then "True" else "False")))
  | [.non] => some (.d (.str "None"))
  | [.str x] => if (reprText x).length ≤ sizeLine then some (.d (.str (reprText x))) else none
  | xs => reprD xs
def rReprX (K : PySem.W.Frag) : List V → Hp → VK → Prop := fun xs H Q => (∃ b, xs = [.bl b] ∧ Q (.str (if b then "True" else "False")) H) ∨ (xs = [.non] ∧ Q (.str "None") H) ∨ (∃ x, xs = [.str x] ∧ (reprText x).length ≤ sizeLine ∧ Q (.str (reprText x)) H) ∨
  (rReprD K xs H Q ∨ ∃ i, xs = [.int i] ∧ i.natAbs.log2 < 1920 ∧ Q (.str (toString i)) H)
theorem CR_reprX {X : Cx} (hG : X.A.guards = some []) (hu : X.A.units + 64 < cLine) : CallR X (.builtin "repr") (rReprX X.K) := by
  intro pins s σ H xs us Q I r h
  rcases h with ⟨b, rfl, q⟩ | ⟨rfl, q⟩ | ⟨x, rfl, hx, q⟩ | h
  · obtain ⟨u, rfl, ru⟩ := vals1 r
    cases (show u = Value.bool b from ru)
    exact PySem.P.repr_of_bool ⟨.str _, H, I.tok _, ⟨_, rfl⟩, q⟩
  · obtain ⟨u, rfl, ru⟩ := vals1 r
    cases (show u = Value.none from ru)
    exact PySem.P.repr_of_none ⟨.str _, H, I.tok _, ⟨_, rfl⟩, q⟩
  · obtain ⟨u, rfl, ru⟩ := vals1 r
    obtain ⟨t, rfl⟩ := (show ∃ t, u = Value.str x t from ru)
    exact PySem.P.repr_of_str ⟨.str _, H, I.tok _, ⟨_, rfl⟩, q⟩ hx
  · exact CR_repr hG hu pins s σ H xs us Q I r h
theorem cs_reprX {K : PySem.W.Frag} : CallS K (rReprX K) reprX := by
  intro F H vs as z Q s ra e q
  unfold reprX at e
  split at e
  · cases e
    obtain ⟨v, rfl, r⟩ := rep1 ra
    obtain rfl := r.bl
    exact .inl ⟨_, rfl, vn_str s q⟩
  · cases e
    obtain ⟨v, rfl, r⟩ := rep1 ra
    obtain rfl := r.non
    exact .inr (.inl ⟨rfl, vn_str s q⟩)
  · split at e
    · rename_i hx
      cases e
      obtain ⟨v, rfl, r⟩ := rep1 ra
      obtain rfl := r.str
      exact .inr (.inr (.inl ⟨_, rfl, hx, vn_str s q⟩))
    · cases e
  · exact .inr (.inr (.inr (cs_repr F H vs _ z Q s ra e q)))
theorem Gd.reprX {a : D} {k n : Nat} (h : Gd k n a) (hk : k ≤ 60) (hn : n ≤ 8000) : reprX [a] = some (.d (.str (shownD a))) := by
  cases a with
  | bl b => cases b <;> rfl
  | non => rfl
  | str x =>
    have h1 := StrLaws.reprText_len x (strOk_lt (by simpa [D.good] using h.good))
    have h2 : x.length ≤ 50 := by simpa [D.short] using h.short
    show (if (reprText x).length ≤ sizeLine then some (Val.d (.str (reprText x))) else none) = _
    rw [if_pos (by rw [sizeLine_eq]; omega)]
    rfl
  | int i =>
    have h1 : i.natAbs < 2 ^ 200 := by simpa [D.short] using h.short
    have h2 : i.natAbs.log2 < 1920 := by
      by_cases h0 : i.natAbs = 0
      · rw [h0]; decide
      · have := (Nat.log2_lt h0).mpr h1; omega
    show (if i.natAbs.log2 < 1920 then some (Val.d (.str (toString i))) else none) = _
    rw [if_pos h2]
    rfl
  | tup xs => exact h.reprT hk hn
  | lst xs => exact h.reprL hk hn
  | _ => have := h.good; simp [D.good] at this
section
variable {X : Cx} {W : WX} {pos : Pos}
def eNewD : EM := fun ρ => .ok (.fr (.dic [] [])) ρ
theorem de_newD : DE X W (.Dict [] [] pos) eNewD := pe_conseq pe_dnewK fun σ H Q ⟨F, ρ, sr, q⟩ => fun p hp =>
  q (.ref p) F _ ((Gr.fresh sr.sub hp).sr sr) (Gr.fresh sr.sub hp).ev (fr_vr sr hp (Same.free sr.sub hp) ⟨[], upd_same, rfl, .nil⟩)
theorem b_newD {ρ : DEnv} {Q : Val → DEnv → Prop} {Xx : Ex → DEnv → Prop} (q : Q (.fr (.dic [] [])) ρ) : (eNewD ρ).wp Q Xx := q
end
end DL
namespace CM
open PySem PySem.Spec PyProof.Rows L2 DL
/-! l_pot: slots 0 script, 1 k, 2 cell, 3 own -/
def e_l_pot : SM := (sSeq (sAsg 2 (eOp addD (eOp mulD (eC (.int 19)) (eVar 1)) (eC (.int 6))))
    (sSeq (sIf (tst (eOp ltD (eVar 1) (eCallB lenD (aCons (eVar 0) aNil))))
    (sAsg 2 (eOp idxD (eVar 0) (eVar 1)))
    sSkip)
    (sSeq (sAsg 3 (eOp mulD (eOp modD (eCallB absD (aCons (eVar 2) aNil)) (eOp powD (eOp powD (eC (.int 10)) (eC (.int 60))) (eC (.int 5)))) (eCallB intD (aCons (eOp geD (eCallB absD (aCons (eVar 2) aNil)) (eOp powD (eC (.int 10)) (eC (.int 18)))) aNil))))
    (sRet (eLst (aCons (fz (eVar 3)) (aCons (fz (eOp modD (eOp addD (eOp addD (eOp mulD (eOp modD (eVar 2) (eC (.int 2305843009213693951))) (eC (.int 69767))) (eOp mulD (eOp mulD (eC (.int 8123)) (eVar 1)) (eVar 1))) (eC (.int 31))) (eC (.int 2305843009213693921)))) (aCons (eC (.int 0)) aNil))))))))
def s_l_pot : FM := fnD 2 2 e_l_pot
/-! l_draw: slots 0 pot_here, 1 many, 2 prime, 3 mixed_here, 4 digit -/
def e_l_draw : SM := (sSeq (sIf (tst (eOp gtD (eOp idxD (eVar 0) (eC (.int 0))) (eC (.int 0))))
    (sSeq (sAsg 4 (eOp modD (eOp idxD (eVar 0) (eC (.int 0))) (eVar 1)))
    (sSeq (sStore 0 (eC (.int 0)) (fz (eOp divD (eOp idxD (eVar 0) (eC (.int 0))) (eVar 1))))
    (sRet (eVar 4))))
    sSkip)
    (sSeq (sStore 0 (eC (.int 2)) (fz (eOp addD (eOp idxD (eVar 0) (eC (.int 2))) (eC (.int 1)))))
    (sSeq (sAsg 2 (eOp idxD (eLst (aCons (eC (.int 2147483647)) (aCons (eC (.int 2147483629)) (aCons (eC (.int 2147483587)) (aCons (eC (.int 2147483579)) (aCons (eC (.int 2147483563)) aNil)))))) (eOp modD (eOp idxD (eVar 0) (eC (.int 2))) (eC (.int 5)))))
    (sSeq (sAsg 3 (eOp modD (eOp powD (eOp addD (eOp addD (eOp idxD (eVar 0) (eC (.int 1))) (eOp mulD (eOp mulD (eC (.int 98321)) (eOp idxD (eVar 0) (eC (.int 2)))) (eOp idxD (eVar 0) (eC (.int 2))))) (eC (.int 47))) (eC (.int 3))) (eVar 2)))
    (sRet (eOp modD (eOp divD (eOp modD (eOp mulD (eVar 3) (eOp addD (eOp modD (eVar 3) (eC (.int 10007))) (eOp mulD (eC (.int 89)) (eOp idxD (eVar 0) (eC (.int 2)))))) (eC (.int 2305843009213693907))) (eC (.int 83))) (eVar 1)))))))
def s_l_draw : FM := fnD 2 3 e_l_draw
/-! l_any: slots 0 pot_here, 1 items -/
def e_l_any : SM := (sRet (eOp idxD (eVar 1) (eCall s_l_draw (aCons (eVar 0) (aCons (eCallB lenD (aCons (eVar 1) aNil)) aNil)))))
def s_l_any : FM := fnD 2 0 e_l_any
/-! l_mixed: slots 0 pot_here, 1 items, 2 left, 3 found -/
def l1_l_mixed : SM := whileD (tst (eOp neV' (eVar 2) (eLst aNil))) (sDrop (eMethL 3 appendO (aCons (fz (eMethL 2 popAtO (aCons (fz (eCall s_l_draw (aCons (eVar 0) (aCons (eCallB lenD (aCons (eVar 2) aNil)) aNil)))) aNil))) aNil))) 1000000
def e_l_mixed : SM := (sSeq (sPar [2, 3] (aCons (nsl (eCallB listD (aCons (eVar 1) aNil))) (aCons (nsl (eLst aNil)) aNil)))
    (sSeq l1_l_mixed
    (sRet (eVar 3))))
def s_l_mixed : FM := fnD 2 2 e_l_mixed
/-! l_wild: slots 0 pot_here, 1 most, 2 room, 3 turn, 4 found, 5 written, 6 begin, 7 kind, 8 worth, 9 some -/
def l1_l_wild : SM := sFor (iRng (aCons (eCall s_l_draw (aCons (eVar 0) (aCons (eOp addD (eVar 1) (eC (.int 1))) aNil))) aNil)) (asgV 3)
    (sSeq (sPar [7, 8] (aCons (nsl (eCall s_l_any (aCons (eVar 0) (aCons (eLst (aCons (eC (.str ("write" : Str))) (aCons (eC (.str ("read" : Str))) (aCons (eC (.str ("read" : Str))) aNil)))) aNil)))) (aCons (nsl (eCall s_l_draw (aCons (eVar 0) (aCons (eC (.int 5)) aNil)))) aNil)))
    (sSeq (sAsg 6 (eCall s_l_draw (aCons (eVar 0) (aCons (eVar 2) aNil))))
    (sIf (tAndM (tst (eOp eqV' (eVar 7) (eC (.str ("write" : Str))))) (tAndM (tst (eOp gtD (eVar 8) (eC (.int 0)))) (tst (eOp ninD (eVar 8) (eVar 5)))))
    (sSeq (sDrop (eMethL 5 appendO (aCons (fz (eVar 8)) aNil)))
    (sDrop (eMethL 4 appendO (aCons (fz (eTup (aCons (eC (.str ("write" : Str))) (aCons (fz (eVar 8)) (aCons (fz (eVar 6)) (aCons (fz (eOp addD (eVar 6) (eCall s_l_draw (aCons (eVar 0) (aCons (eOp addD (eOp divD (eVar 2) (eC (.int 2))) (eC (.int 1))) aNil))))) aNil)))))) aNil))))
    (sSeq (sAsg 9 (eOp addD (eVar 5) (eLst (aCons (eC (.int 0)) aNil))))
    (sSeq (sAsg 8 (eCall s_l_any (aCons (eVar 0) (aCons (eOp addD (eOp addD (eVar 9) (eVar 9)) (eLst (aCons (fz (eVar 8)) aNil))) aNil))))
    (sDrop (eMethL 4 appendO (aCons (fz (eTup (aCons (eC (.str ("read" : Str))) (aCons (fz (eVar 8)) (aCons (fz (eVar 6)) (aCons (fz (eOp addD (eVar 6) (eCall s_l_draw (aCons (eVar 0) (aCons (eOp addD (eOp divD (eVar 2) (eC (.int 2))) (eC (.int 1))) aNil))))) aNil)))))) aNil))))))))
def e_l_wild : SM := (sSeq (sPar [4, 5] (aCons (nsl (eLst aNil)) (aCons (nsl (eLst aNil)) aNil)))
    (sSeq l1_l_wild
    (sRet (eCallB tupleD (aCons (eCall s_l_mixed (aCons (eVar 0) (aCons (eVar 4) aNil))) aNil)))))
def s_l_wild : FM := fnD 3 7 e_l_wild
/-! l_true: slots 0 pot_here, 1 many, 2 off, 3 step, 4 names, 5 turn, 6 found, 7 worth, 8 time, 9 kind, 10 ends, 11 begin, 12 end -/
def l1_l_true : SM := sFor (iRng (aCons (eVar 1) aNil)) (asgV 5)
    (sSeq (sAsg 8 (eOp addD (eVar 8) (eCall s_l_draw (aCons (eVar 0) (aCons (eOp addD (eVar 3) (eC (.int 1))) aNil)))))
    (sSeq (sAsg 9 (eCall s_l_any (aCons (eVar 0) (aCons (eLst (aCons (eC (.str ("write" : Str))) (aCons (eC (.str ("read" : Str))) (aCons (eC (.str ("read" : Str))) aNil)))) aNil))))
    (sSeq (sIf (tst (eOp eqV' (eVar 9) (eC (.str ("write" : Str)))))
    (sAsg 7 (eOp idxD (eVar 4) (eVar 5)))
    sSkip)
    (sSeq (sAsg 10 (eTup (aCons (fz (eOp subD (eVar 8) (eCall s_l_draw (aCons (eVar 0) (aCons (eOp addD (eVar 3) (eC (.int 1))) aNil))))) (aCons (fz (eOp addD (eVar 8) (eCall s_l_draw (aCons (eVar 0) (aCons (eOp addD (eVar 3) (eC (.int 1))) aNil))))) aNil))))
    (sSeq (sAsg 11 (eOp addD (eOp subD (eOp idxD (eVar 10) (eC (.int 0))) (eVar 2)) (eCall s_l_draw (aCons (eVar 0) (aCons (eOp addD (eOp mulD (eC (.int 2)) (eVar 2)) (eC (.int 1))) aNil)))))
    (sSeq (sAsg 12 (eOp addD (eOp subD (eOp idxD (eVar 10) (eC (.int 1))) (eVar 2)) (eCall s_l_draw (aCons (eVar 0) (aCons (eOp addD (eOp mulD (eC (.int 2)) (eVar 2)) (eC (.int 1))) aNil)))))
    (sDrop (eMethL 6 appendO (aCons (fz (eTup (aCons (fz (eVar 9)) (aCons (fz (eVar 7)) (aCons (fz (eCallB minD (aCons (eVar 11) (aCons (eVar 12) aNil)))) (aCons (fz (eCallB maxD (aCons (eVar 11) (aCons (eVar 12) aNil)))) aNil)))))) aNil)))))))))
def e_l_true : SM := (sSeq (sPar [6, 7, 8] (aCons (nsl (eLst aNil)) (aCons (nsl (eC (.int 0))) (aCons (nsl (eCall s_l_any (aCons (eVar 0) (aCons (eLst (aCons (eC (.int 0)) (aCons (fz (eUn negD (eC (.int 7)))) (aCons (fz (eOp powD (eC (.int 10)) (eC (.int 14)))) aNil)))) aNil)))) aNil))))
    (sSeq (sAsg 4 (eCall s_l_mixed (aCons (eVar 0) (aCons (eOp lrgD (eC (.int 1)) (eOp addD (eVar 1) (eC (.int 1)))) aNil))))
    (sSeq l1_l_true
    (sRet (eCallB tupleD (aCons (eCall s_l_mixed (aCons (eVar 0) (aCons (eVar 6) aNil))) aNil))))))
def s_l_true : FM := fnD 4 9 e_l_true
/-! l_worths: slots 0 book, 1 one -/
def c1_l_worths : EM := eLc [1] (iSeq (eVar 0)) (asgV 1) tYesD (fz (eOp idxD (eVar 1) (eC (.int 1))))
def e_l_worths : SM := (sRet (eSortSet c1_l_worths))
def s_l_worths : FM := fnD 1 1 e_l_worths
end CM
namespace CM
open PySem PySem.Spec PyProof.Rows L2 DL
/-! values_of: slots 0 log, 1 kind, 2 value, 3 begin, 4 end -/
def c1_values_of : EM := eSortSc [1, 2, 3, 4] (iSeq (eVar 0)) (tupG 4 (gsCons (asgV 1) (gsCons (asgV 2) (gsCons (asgV 3) (gsCons (asgV 4) gsNil))))) tYesD (eVar 2)
def e_values_of : SM := (sRet (eCallB tupleD (aCons c1_values_of aNil)))
def s_values_of : FM := fnD 1 4 e_values_of
/-! ends_of: slots 0 log, 1 found, 2 kind, 3 value, 4 begin, 5 end, 6 first, 7 last -/
def c1_ends_of : EM := eDc [3] (iSeq (eCall s_values_of (aCons (eVar 0) aNil))) (asgV 3) tYesD (eVar 3) (fz (eTup (aCons (eC .non) (aCons (eC .non) aNil))))
def l1_ends_of : SM := sFor (iSeq (eVar 0)) (tupG 4 (gsCons (asgV 2) (gsCons (asgV 3) (gsCons (asgV 4) (gsCons (asgV 5) gsNil)))))
    (sSeq (sTgt (eOp idxD (eVar 1) (eVar 3)) (tupG 2 (gsCons (asgV 6) (gsCons (asgV 7) gsNil))))
    (sSeq (sAsg 6 (eIf (tst (eIsN (eVar 6))) (eVar 5) (eCallB minD (aCons (eVar 6) (aCons (eVar 5) aNil)))))
    (sStore 1 (eVar 3) (fz (eTup (aCons (fz (eIf (tst (eOp neV' (eVar 3) (eC (.int 0)))) (eVar 6) (eC (.int (-1000000000000000000))))) (aCons (fz (eIf (tst (eIsN (eVar 7))) (eVar 4) (eCallB maxD (aCons (eVar 7) (aCons (eVar 4) aNil))))) aNil)))))))
def e_ends_of : SM := (sSeq (sAsg 1 c1_ends_of)
    (sSeq l1_ends_of
    (sRet (eVar 1))))
def s_ends_of : FM := fnD 1 7 e_ends_of
/-! check_value: slots 0 log, 1 value -/
def e_check_value : SM := (sIf (tOrM (tNotM (tst (eCallB isiD (aCons (eVar 1) (aCons (eC (.ty "int")) aNil))))) (tOrM (tst (eCallB isiD (aCons (eVar 1) (aCons (eC (.ty "bool")) aNil)))) (tst (eOp ninD (eVar 1) (eCall s_values_of (aCons (eVar 0) aNil))))))
    sBad
    sSkip)
def s_check_value : FM := fnD 2 0 e_check_value
/-! operations_of: slots 0 log, 1 value, 2 index, 3 one -/
def c1_operations_of : EM := eLc [2, 3] (iEnu (eVar 0)) (tupG 2 (gsCons (asgV 2) (gsCons (asgV 3) gsNil))) (tst (eOp eqV' (eOp idxD (eVar 3) (eC (.int 1))) (eVar 1))) (fz (eVar 2))
def e_operations_of : SM := (sSeq (sDrop (eCall s_check_value (aCons (eVar 0) (aCons (eVar 1) aNil))))
    (sRet (eCallB tupleD (aCons c1_operations_of aNil))))
def s_operations_of : FM := fnD 2 2 e_operations_of
/-! write_of: slots 0 log, 1 value, 2 found, 3 index -/
def c1_write_of : EM := eLc [3] (iSeq (eCall s_operations_of (aCons (eVar 0) (aCons (eVar 1) aNil)))) (asgV 3) (tst (eOp eqV' (eOp idxD (eOp idxD (eVar 0) (eVar 3)) (eC (.int 0))) (eC (.str ("write" : Str))))) (fz (eVar 3))
def e_write_of : SM := (sSeq (sAsg 2 c1_write_of)
    (sRet (eIf (tst (eOp neV' (eVar 2) (eLst aNil))) (eOp idxD (eVar 2) (eC (.int 0))) (eC .non))))
def s_write_of : FM := fnD 2 2 e_write_of
/-! first_end: slots 0 log, 1 value -/
def e_first_end : SM := (sSeq (sDrop (eCall s_check_value (aCons (eVar 0) (aCons (eVar 1) aNil))))
    (sRet (eIf (tst (eOp neV' (eVar 1) (eC (.int 0)))) (eOp idxD (eOp idxD (eCall s_ends_of (aCons (eVar 0) aNil)) (eVar 1)) (eC (.int 0))) (eC .non))))
def s_first_end : FM := fnD 2 0 e_first_end
/-! last_begin: slots 0 log, 1 value -/
def e_last_begin : SM := (sSeq (sDrop (eCall s_check_value (aCons (eVar 0) (aCons (eVar 1) aNil))))
    (sRet (eOp idxD (eOp idxD (eCall s_ends_of (aCons (eVar 0) aNil)) (eVar 1)) (eC (.int 1)))))
def s_last_begin : FM := fnD 2 0 e_last_begin
/-! is_earlier: slots 0 ends, 1 tolerance, 2 one, 3 other -/
def e_is_earlier : SM := (sRet (eAnd (eOp neV' (eVar 2) (eVar 3)) (eOp ltD (eOp addD (eOp idxD (eOp idxD (eVar 0) (eVar 2)) (eC (.int 0))) (eVar 1)) (eOp idxD (eOp idxD (eVar 0) (eVar 3)) (eC (.int 1))))))
def s_is_earlier : FM := fnD 4 0 e_is_earlier
/-! is_before: slots 0 log, 1 tolerance, 2 one, 3 other -/
def e_is_before : SM := (sSeq (sDrop (eCall s_check_value (aCons (eVar 0) (aCons (eVar 2) aNil))))
    (sSeq (sDrop (eCall s_check_value (aCons (eVar 0) (aCons (eVar 3) aNil))))
    (sRet (eCall s_is_earlier (aCons (eCall s_ends_of (aCons (eVar 0) aNil)) (aCons (eVar 1) (aCons (eVar 2) (aCons (eVar 3) aNil))))))))
def s_is_before : FM := fnD 4 0 e_is_before
end CM
namespace CM
open PySem PySem.Spec PyProof.Rows L2 DL
/-! is_integer: slots 0 value, 1 least, 2 greatest -/
def e_is_integer : SM := (sRet (eAnd (eCallB isiD (aCons (eVar 0) (aCons (eC (.ty "int")) aNil))) (eAnd (eNot (eCallB isiD (aCons (eVar 0) (aCons (eC (.ty "bool")) aNil)))) (eChain leD leD (eVar 1) (eVar 0) (eVar 2)))))
def s_is_integer : FM := fnD 3 0 e_is_integer
/-! check_index: slots 0 log, 1 value -/
def e_check_index : SM := (sIf (tNotM (tst (eCall s_is_integer (aCons (eVar 1) (aCons (eC (.int 0)) (aCons (eOp subD (eCallB lenD (aCons (eVar 0) aNil)) (eC (.int 1))) aNil))))))
    sBad
    sSkip)
def s_check_index : FM := fnD 2 0 e_check_index
/-! is_sure: slots 0 one, 1 other, 2 tolerance -/
def e_is_sure : SM := (sRet (eOp ltD (eOp addD (eOp idxD (eVar 0) (eC (.int 3))) (eVar 2)) (eOp idxD (eVar 1) (eC (.int 2)))))
def s_is_sure : FM := fnD 3 0 e_is_sure
/-! surely_before: slots 0 log, 1 tolerance, 2 one, 3 other -/
def e_surely_before : SM := (sSeq (sDrop (eCall s_check_index (aCons (eVar 0) (aCons (eVar 2) aNil))))
    (sSeq (sDrop (eCall s_check_index (aCons (eVar 0) (aCons (eVar 3) aNil))))
    (sRet (eCall s_is_sure (aCons (eOp idxD (eVar 0) (eVar 2)) (aCons (eOp idxD (eVar 0) (eVar 3)) (aCons (eVar 1) aNil)))))))
def s_surely_before : FM := fnD 4 0 e_surely_before
/-! are_stamps: slots 0 begin, 1 end -/
def e_are_stamps : SM := (sRet (eAnd (eCall s_is_integer (aCons (eVar 0) (aCons (eUn negD (eC (.int 1000000000000000))) (aCons (eC (.int 1000000000000000)) aNil)))) (eCall s_is_integer (aCons (eVar 1) (aCons (eVar 0) (aCons (eC (.int 1000000000000000)) aNil))))))
def s_are_stamps : FM := fnD 2 0 e_are_stamps
/-! is_operation: slots 0 value, 1 kind, 2 written, 3 begin, 4 end -/
def e_is_operation : SM := (sSeq (sIf (tOrM (tNotM (tst (eCallB isiD (aCons (eVar 0) (aCons (eC (.ty "tuple")) aNil))))) (tOrM (tst (eOp neV' (eCallB lenD (aCons (eVar 0) aNil)) (eC (.int 4)))) (tNotM (tst (eCallB isiD (aCons (eOp idxD (eVar 0) (eC (.int 0))) (aCons (eC (.ty "str")) aNil)))))))
    (sRet (eC (.bl false)))
    sSkip)
    (sSeq (sTgt (eVar 0) (tupG 4 (gsCons (asgV 1) (gsCons (asgV 2) (gsCons (asgV 3) (gsCons (asgV 4) gsNil))))))
    (sSeq (sIf (tOrM (tst (eOp ninD (eVar 1) (eTup (aCons (fz (eC (.str ("read" : Str)))) (aCons (fz (eC (.str ("write" : Str)))) aNil))))) (tNotM (tst (eCall s_is_integer (aCons (eVar 2) (aCons (eCallB intD (aCons (eOp eqV' (eVar 1) (eC (.str ("write" : Str)))) aNil)) (aCons (eC (.int 1000000000)) aNil)))))))
    (sRet (eC (.bl false)))
    sSkip)
    (sRet (eCall s_are_stamps (aCons (eVar 3) (aCons (eVar 4) aNil)))))))
def s_is_operation : FM := fnD 1 4 e_is_operation
/-! is_log: slots 0 value, 1 written, 2 one -/
def c1_is_log : EM := eLc [2] (iSeq (eVar 0)) (asgV 2) tYesD (fz (eCall s_is_operation (aCons (eVar 2) aNil)))
def c2_is_log : EM := eLc [2] (iSeq (eVar 0)) (asgV 2) (tst (eOp eqV' (eOp idxD (eVar 2) (eC (.int 0))) (eC (.str ("write" : Str))))) (fz (eOp idxD (eVar 2) (eC (.int 1))))
def e_is_log : SM := (sSeq (sIf (tOrM (tNotM (tst (eCallB isiD (aCons (eVar 0) (aCons (eC (.ty "tuple")) aNil))))) (tst (eOp gtD (eCallB lenD (aCons (eVar 0) aNil)) (eC (.int 200)))))
    (sRet (eC (.bl false)))
    sSkip)
    (sSeq (sIf (tNotM (tst (eCallB allD (aCons c1_is_log aNil))))
    (sRet (eC (.bl false)))
    sSkip)
    (sSeq (sAsg 1 c2_is_log)
    (sRet (eOp eqV' (eLenSet (eVar 1)) (eCallB lenD (aCons (eVar 1) aNil)))))))
def s_is_log : FM := fnD 1 2 e_is_log
/-! is_tolerance: slots 0 value -/
def e_is_tolerance : SM := (sRet (eCall s_is_integer (aCons (eVar 0) (aCons (eC (.int 0)) (aCons (eC (.int 10000000000000000)) aNil)))))
def s_is_tolerance : FM := fnD 1 0 e_is_tolerance
end CM
set_option maxHeartbeats 2000000
namespace CM
open PySem PySem.Spec PyProof.Rows L2 DL
structure Pot (c : Nat) (p : List D) : Prop where
  ex : ∃ a b k : Int, p = [.int a, .int b, .int k] ∧ 0 ≤ a ∧ 0 ≤ b ∧ b < 2305843009213693921 ∧ 0 ≤ k ∧ k ≤ c
theorem Pot.mono {c c' : Nat} {p : List D} (h : Pot c p) (hc : c ≤ c') : Pot c' p := by
  obtain ⟨a, b, k, e, h1, h2, h3, h4, h5⟩ := h.ex
  exact ⟨a, b, k, e, h1, h2, h3, h4, by omega⟩
theorem log_cube {b k : Int} (hb : 0 ≤ b) (hb2 : b < 2305843009213693921) (hk : 0 ≤ k) (hk2 : k ≤ 1000000000) : powI (b + 98321 * k * k + 47) 3 = some ((b + 98321 * k * k + 47) ^ (3 : Int).toNat) := by
  unfold powI
  rw [if_pos]
  refine ⟨by decide, ?_⟩
  have h1 : k * k ≤ 1000000000 * 1000000000 := Int.mul_le_mul hk2 hk2 hk (by decide)
  have h0 : 0 ≤ k * k := Int.mul_nonneg hk hk
  have h2 : (b + 98321 * k * k + 47).natAbs < 2 ^ 100 := by
    rw [Int.mul_assoc]
    have : (2 : Nat) ^ 100 = 1267650600228229401496703205376 := by decide
    omega
  have h3 : (b + 98321 * k * k + 47).natAbs ≠ 0 := by
    rw [Int.mul_assoc]
    omega
  have h4 := (Nat.log2_lt h3).mpr h2
  have h5 : (3 : Int).toNat = 3 := rfl
  rw [h5]
  omega
theorem atI_of {α : Type} {xs : List α} {i : Int} (h0 : 0 ≤ i) (h1 : i < xs.length) : ∃ x, atI xs i = some x ∧ xs[i.toNat]? = some x := by
  have : i.toNat < xs.length := by omega
  refine ⟨xs[i.toNat], ?_, List.getElem?_eq_getElem this⟩
  unfold atI ixN
  rw [if_pos h0, if_pos h1]
  exact List.getElem?_eq_getElem this
section
local macro_rules
  | `(tactic| infer_instance) => `(tactic| (first | with_reducible refine b_op ?_ | with_reducible refine b_cb ?_ | with_reducible refine b_un ?_ | with_reducible refine b_call ?_ | with_reducible refine b_cons ?_ | with_reducible refine b_nil ?_ | with_reducible refine b_C ?_ | with_reducible refine b_tup ?_ | with_reducible refine b_lst ?_ | with_reducible refine b_fz ?_ | with_reducible refine b_nsl ?_ | with_reducible refine b_nslD ?_ | with_reducible refine b_nslF ?_ | with_reducible refine b_nslS ?_ | with_reducible refine b_tst ?_ | with_reducible refine b_bT ?_ | with_reducible refine b_andK ?_ | with_reducible refine b_orK ?_ | with_reducible refine b_not ?_ | with_reducible refine b_eIf ?_ | with_reducible refine b_ok ?_ | with_reducible refine b_rng ?_ | with_reducible refine b_iseq ?_ | with_reducible refine b_yes ?_ | with_reducible refine s_seq ?_ | with_reducible refine s_skip ?_ | with_reducible refine s_drop ?_ | with_reducible refine s_ret ?_ | with_reducible refine s_retN ?_ | with_reducible refine s_break ?_ | with_reducible refine s_cont ?_ | with_reducible refine s_if ?_ | with_reducible refine s_asg ?_ | with_reducible refine s_par ?_ | with_reducible refine s_tgt ?_ | with_reducible refine s_for ?_ | with_reducible refine s_loop ?_ | with_reducible refine s_store ?_ | with_reducible refine s_asgsN ?_ | with_reducible refine f_d ?_ | with_reducible refine f_fr ?_ | ((with_reducible apply b_var_d); rfl) | ((with_reducible apply b_var_o); rfl) | ((with_reducible apply b_fzv); rfl) | ((with_reducible apply b_fzvA); rfl) | ((with_reducible apply s_asgV); rfl) | ((with_reducible apply s_asgs); rfl) | ((with_reducible apply s_asgsD); rfl; first | assumption | exact Fr.un | exact Fr.dat | exact Fr.own) | ((with_reducible apply s_asgsO); rfl; first | assumption | exact Fr.un | exact Fr.dat | exact Fr.own) | ((with_reducible apply s_asgF); rfl; first | assumption | exact Fr.un | exact Fr.dat | exact Fr.own) | ((with_reducible apply s_asgFO); rfl; first | assumption | exact Fr.un | exact Fr.dat | exact Fr.own) | ((with_reducible apply s_storeV); rfl) | ((with_reducible apply s_storeK); rfl) | ((with_reducible apply b_methL); rfl) | ((with_reducible apply b_methV); rfl) | ((with_reducible apply b_mkTup); rfl; exact Nat.le_of_ble_eq_true rfl) | ((with_reducible apply b_mkLst); rfl; exact Nat.le_of_ble_eq_true rfl) | ((with_reducible apply f_sl); rfl) | ((with_reducible apply f_sld); rfl) | ((with_reducible apply x_mul); rfl; rfl; (first | omega | decide)) | ((with_reducible apply x_mod); rfl; rfl; decide) | ((with_reducible apply x_div); rfl; rfl; (first | omega | decide)) | ((with_reducible apply b_opV); rfl; rfl; rfl) | ((with_reducible apply b_unV); rfl; rfl) | ((with_reducible apply b_callV); rfl; rfl) | ((with_reducible apply b_callF); rfl; rfl) | ((with_reducible apply b_rng1); (first | omega | decide)) | ((with_reducible apply b_rng2); (first | omega | decide))))
theorem draw_wp {p : List D} {n : Int} {c : Nat} {Q : Val → DEnv → Prop} {X : Ex → DEnv → Prop} (hp : Pot c p) (hc : c < 1000000000) (hn : 0 < n) (hn2 : n < 1000000000000000000) (q : ∀ r p', 0 ≤ r → r < n → Pot (c + 1) p' → Q (.d (.int r)) [.ow (.lst p') .bor, .d (.int n)]) : (s_l_draw [.ow (.lst p) .bor, .d (.int n)]).wp Q X := by
  obtain ⟨a, b, k, rfl, ha, hb, hb2, hk, hk2⟩ := hp.ex
  unfold s_l_draw e_l_draw
  refine f_fn rfl ?_
  repeat infer_instance
  refine ⟨fun h => ?_, fun h => ?_⟩
  · have ha0 : 0 < a := of_decide_eq_true h
    repeat infer_instance
    refine x_mod rfl rfl hn ?_
    repeat infer_instance
    exact q _ _ (Int.emod_nonneg _ (by omega)) (Int.emod_lt_of_pos _ hn) ⟨_, _, _, rfl, Int.ediv_nonneg ha (by omega), hb, hb2, hk, by omega⟩
  · repeat infer_instance
    have hx : ∃ pr, atI [D.int 2147483647, D.int 2147483629, D.int 2147483587, D.int 2147483579, D.int 2147483563] ((k + 1) % 5) = some (.int pr) ∧ 2147483563 ≤ pr ∧ pr ≤ 2147483647 := by
      have : (k + 1) % 5 = 0 ∨ (k + 1) % 5 = 1 ∨ (k + 1) % 5 = 2 ∨ (k + 1) % 5 = 3 ∨ (k + 1) % 5 = 4 := by omega
      rcases this with e | e | e | e | e <;> rw [e] <;> exact ⟨_, rfl, by decide, by decide⟩
    obtain ⟨pr, e, g1, g2⟩ := hx
    refine x_idx rfl rfl e ?_
    repeat infer_instance
    refine x_pow rfl rfl (log_cube hb hb2 (by omega) (by omega)) ?_
    repeat infer_instance
    refine x_modG rfl rfl (by omega) fun m m1 m2 _ => ?_
    repeat infer_instance
    refine x_mod rfl rfl hn ?_
    repeat infer_instance
    exact q _ _ (Int.emod_nonneg _ (by omega)) (Int.emod_lt_of_pos _ hn) ⟨_, _, _, rfl, ha, hb, hb2, by omega, by omega⟩
theorem any_wp {p : List D} {s : Slot} {ds : List D} {c : Nat} {Q : Val → DEnv → Prop} {X : Ex → DEnv → Prop} (hp : Pot c p) (hc : c < 1000000000) (hs : s = .ow (.lst ds) .own ∨ s = .ow (.lst ds) .bor ∨ s = .d (.lst ds) ∨ s = .d (.tup ds)) (hl : 0 < ds.length) (hl2 : ds.length < 1000000000)
    (q : ∀ x p', x ∈ ds → Pot (c + 1) p' → Q (.d x) [.ow (.lst p') .bor, backSlot s (some s)]) : (s_l_any [.ow (.lst p) .bor, s]).wp Q X := by
  rcases hs with rfl | rfl | rfl | rfl
  all_goals
    unfold s_l_any e_l_any
    refine f_fn rfl ?_
    repeat infer_instance
    refine draw_wp hp hc (by omega) (by omega) fun r p' h1 h2 hp' => ?_
    obtain ⟨x, e, e2⟩ := atI_of h1 h2
    first | refine x_idx rfl rfl e ?_ | refine x_idxT rfl rfl e ?_
    repeat infer_instance
    exact q x p' (List.mem_of_getElem? e2) hp'
theorem p60 : powI 10 60 = some (10 ^ (60 : Int).toNat) := by decide +kernel
theorem p300 : powI (10 ^ (60 : Int).toNat) 5 = some ((10 ^ (60 : Int).toNat) ^ (5 : Int).toNat) := by decide +kernel
theorem p18 : powI 10 18 = some (10 ^ (18 : Int).toNat) := by decide +kernel
theorem pot_pos {x : Int} {b : Bool} : 0 ≤ (if x < 0 then -x else x) % (10 ^ Int.toNat 60) ^ Int.toNat 5 * (if b = true then 1 else 0) := by
  refine Int.mul_nonneg (Int.emod_nonneg _ (by decide +kernel)) ?_
  split <;> decide
theorem pot_wp {ns : List Int} {i : Int} {Q : Val → DEnv → Prop} {X : Ex → DEnv → Prop} (h0 : 0 ≤ i) (h1 : i < 1000) (q : ∀ p, Pot 0 p → Q (.fr (.lst p)) [.d (.scr ns), .d (.int i)]) : (s_l_pot [.d (.scr ns), .d (.int i)]).wp Q X := by
  unfold s_l_pot e_l_pot
  refine f_fn rfl ?_
  repeat infer_instance
  refine ⟨fun h => ?_, fun h => ?_⟩
  · obtain ⟨x, e, e2⟩ := atI_of (xs := ns) h0 (of_decide_eq_true h)
    repeat infer_instance
    refine x_idxS rfl rfl e ?_
    repeat infer_instance
    exact q _ ⟨_, _, _, rfl, pot_pos, Int.emod_nonneg _ (by decide), Int.emod_lt_of_pos _ (by decide), by decide, by decide⟩
  · repeat infer_instance
    exact q _ ⟨_, _, _, rfl, pot_pos, Int.emod_nonneg _ (by decide), Int.emod_lt_of_pos _ (by decide), by decide, by decide⟩
theorem erase_perm : ∀ {l : List D} {j : Nat} {d : D}, l[j]? = some d → (d :: l.eraseIdx j).Perm l
  | [], j, d, h => by simp at h
  | x :: l, 0, d, h => by simp at h; subst h; exact .refl _
  | x :: l, j + 1, d, h => by
    have h2 := erase_perm (l := l) (j := j) (d := d) (by simpa using h)
    rw [List.eraseIdx_cons_succ]
    exact (List.Perm.swap x d _).trans (h2.cons x)
theorem perm_erase {left found : List D} {j : Nat} {d : D} (h : left[j]? = some d) : (found ++ [d] ++ left.eraseIdx j).Perm (found ++ left) := by
  rw [List.append_assoc]
  refine List.Perm.append_left _ ?_
  exact erase_perm h
theorem mixed_loop {p : List D} {s : Slot} {ds : List D} {c : Nat} {P : Po} (hp : Pot c p) (hg : ∀ x ∈ ds, x.good = true) (hd : ∀ x ∈ ds, x.dep ≤ 60) (hl2 : ds.length < 900000) (hc : c + ds.length < 1000000000)
    (q : ∀ es p', es.Perm ds → Pot (c + ds.length) p' → P.nx [.ow (.lst p') .bor, s, .ow (.lst []) .own, .ow (.lst es) .own]) : (l1_l_mixed [.ow (.lst p) .bor, s, .ow (.lst ds) .own, .ow (.lst []) .own]).wp P := by
  unfold l1_l_mixed
  refine while_inv (fun ρ k => ∃ p' left found, ρ = [.ow (.lst p') .bor, s, .ow (.lst left) .own, .ow (.lst found) .own] ∧ (found ++ left).Perm ds ∧ k = left.length ∧ Pot (c + (ds.length - left.length)) p') 1000000 _ ds.length (by omega) ⟨p, ds, [], rfl, .refl _, rfl, by rw [Nat.sub_self]; exact hp⟩ fun ρ k h => ?_
  obtain ⟨p', left, found, rfl, pm, rfl, hp'⟩ := h
  have lm : ∀ x ∈ left, x ∈ ds := fun x hx => pm.mem_iff.mp (List.mem_append_right _ hx)
  have gl : goodL left = true := goodL_iff.mpr fun x hx => hg x (lm x hx)
  have hlen : found.length + left.length = ds.length := by rw [← List.length_append]; exact pm.length_eq
  repeat infer_instance
  refine x_ne rfl rfl (eqD_good (a := .lst left) (b := .lst []) (by simpa [D.good] using gl) rfl (by
    have := depL_le.mpr fun x hx => hd x (lm x hx)
    simp only [D.dep]
    omega) (by decide)) ?_
  rw [eqG_nil gl]
  repeat infer_instance
  refine ⟨fun h => ?_, fun h => ?_⟩
  · have e : left = [] := by cases left <;> simp_all
    subst e
    rw [List.append_nil] at pm
    exact q found p' pm (by simpa using hp')
  · have hpos : 0 < left.length := by cases left <;> simp_all
    repeat infer_instance
    refine draw_wp hp' (by omega) (by omega) (by omega) fun r p2 h1 h2 hp2 => ?_
    repeat infer_instance
    refine x_popAt rfl (.inl rfl) h1 h2 (by omega) fun d hd => ?_
    repeat infer_instance
    refine x_append rfl (.inl rfl) (by omega) ?_
    repeat infer_instance
    have hel : (left.eraseIdx r.toNat).length = left.length - 1 := List.length_eraseIdx_of_lt (by omega)
    refine ⟨(left.eraseIdx r.toNat).length, by omega, p2, left.eraseIdx r.toNat, found ++ [d], rfl, (perm_erase hd).trans pm, rfl, ?_⟩
    rw [hel, show ds.length - (left.length - 1) = ds.length - left.length + 1 by omega]
    exact hp2
theorem mixed_wp {p : List D} {s : Slot} {ds : List D} {c : Nat} {Q : Val → DEnv → Prop} {X : Ex → DEnv → Prop} (hp : Pot c p) (hs : s = .ow (.lst ds) .own ∨ s = .ow (.lst ds) .bor ∨ s = .d (.lst ds) ∨ s = .d (.tup ds)) (hg : ∀ x ∈ ds, x.good = true) (hd : ∀ x ∈ ds, x.dep ≤ 60) (hl2 : ds.length < 900000) (hc : c + ds.length < 1000000000)
    (q : ∀ es p', es.Perm ds → Pot (c + ds.length) p' → Q (.fr (.lst es)) [.ow (.lst p') .bor, backSlot s (some s)]) : (s_l_mixed [.ow (.lst p) .bor, s]).wp Q X := by
  rcases hs with rfl | rfl | rfl | rfl
  all_goals
    unfold s_l_mixed e_l_mixed
    refine f_fn rfl ?_
    repeat infer_instance
    refine mixed_loop hp hg hd hl2 hc fun es p' pm hp' => ?_
    repeat infer_instance
    exact q es p' pm hp'
/-! ### logs -/
def OpIs (d : D) (k : Str) (v b e : Int) : Prop := d = .tup [.str k, .int v, .int b, .int e]
structure OpOk (d : D) : Prop where
  ex : ∃ k v b e, OpIs d k v b e ∧ ((k = "write" ∧ 1 ≤ v) ∨ (k = "read" ∧ 0 ≤ v)) ∧ v ≤ 1000000000 ∧ -1000000000000000 ≤ b ∧ b ≤ e ∧ e ≤ 1000000000000000
def wroteOf : D → Option Int
  | .tup [.str k, .int v, .int _, .int _] => if k = "write" then some v else none
  | _ => none
def wrote (ds : List D) : List Int := ds.filterMap wroteOf
structure LogOk (ds : List D) : Prop where
  ops : ∀ d ∈ ds, OpOk d
  nd : (wrote ds).Nodup
theorem LogOk.perm {ds es : List D} (h : LogOk ds) (p : es.Perm ds) : LogOk es := ⟨fun d hd => h.ops d (p.mem_iff.mp hd), ((p.filterMap wroteOf).nodup_iff).mpr h.nd⟩
theorem OpOk.gd {d : D} (h : OpOk d) : Gd 1 5 d := by
  obtain ⟨k, v, b, e, rfl, hk, h1, h2, h3, h4⟩ := h.ex
  have hv : 0 ≤ v := by rcases hk with ⟨_, h⟩ | ⟨_, h⟩ <;> omega
  have gs : (D.str k).good = true ∧ (D.str k).short = true := by rcases hk with ⟨rfl, _⟩ | ⟨rfl, _⟩ <;> exact ⟨by decide +kernel, by decide +kernel⟩
  have big : (2 : Nat) ^ 200 = 1606938044258990275541962092341162602522202993782792835301376 := by decide +kernel
  refine ⟨by simp_all [D.good, goodL], ?_, by simp [D.dep, depL], by simp [D.cnt, cntL]⟩
  · simp only [D.short, shortL] at gs ⊢
    simp only [Bool.and_eq_true, decide_eq_true_eq, Bool.and_true]
    refine ⟨by simpa using gs.2, ?_, ?_, ?_⟩ <;> (rw [big]; omega)
theorem wrote_app {ds : List D} {d : D} : wrote (ds ++ [d]) = wrote ds ++ (wroteOf d).toList := by
  unfold wrote
  rw [List.filterMap_append]
  rfl
theorem LogOk.write {ds : List D} {v b e : Int} (h : LogOk ds) (hv : 1 ≤ v) (hv2 : v ≤ 1000000000) (hb : -1000000000000000 ≤ b) (hbe : b ≤ e) (he : e ≤ 1000000000000000) (hn : v ∉ wrote ds) : LogOk (ds ++ [.tup [.str "write", .int v, .int b, .int e]]) := by
  refine ⟨fun d hd => ?_, ?_⟩
  · rcases List.mem_append.mp hd with z | z
    · exact h.ops d z
    · rw [List.mem_singleton] at z; subst z
      exact ⟨_, _, _, _, rfl, .inl ⟨rfl, hv⟩, hv2, hb, hbe, he⟩
  · rw [wrote_app]
    show (wrote ds ++ [v]).Nodup
    rw [List.nodup_append]
    refine ⟨h.nd, by simp, fun a ha b hb => ?_⟩
    rw [List.mem_singleton] at hb
    subst hb
    exact fun z => hn (z ▸ ha)
theorem LogOk.read {ds : List D} {v b e : Int} (h : LogOk ds) (hv : 0 ≤ v) (hv2 : v ≤ 1000000000) (hb : -1000000000000000 ≤ b) (hbe : b ≤ e) (he : e ≤ 1000000000000000) : LogOk (ds ++ [.tup [.str "read", .int v, .int b, .int e]]) := by
  refine ⟨fun d hd => ?_, ?_⟩
  · rcases List.mem_append.mp hd with z | z
    · exact h.ops d z
    · rw [List.mem_singleton] at z; subst z
      exact ⟨_, _, _, _, rfl, .inr ⟨rfl, hv⟩, hv2, hb, hbe, he⟩
  · rw [wrote_app]
    show (wrote ds ++ []).Nodup
    rw [List.append_nil]
    exact h.nd
theorem wrote_mem {ds : List D} {w : Int} (h : w ∈ wrote ds) : ∃ b e, D.tup [.str "write", .int w, .int b, .int e] ∈ ds := by
  unfold wrote at h
  obtain ⟨d, hd, e⟩ := List.mem_filterMap.mp h
  unfold wroteOf at e
  split at e
  · split at e
    · rename_i hk
      cases e
      subst hk
      exact ⟨_, _, hd⟩
    · cases e
  · cases e
theorem wrote_bd {ds : List D} (h : LogOk ds) {w : Int} (hw : w ∈ wrote ds) : 1 ≤ w ∧ w ≤ 1000000000 := by
  obtain ⟨b, e, hm⟩ := wrote_mem hw
  obtain ⟨k, v, b', e', hd, hk, h1, _⟩ := (h.ops _ hm).ex
  cases hd
  rcases hk with ⟨_, h⟩ | ⟨hk, h⟩
  · exact ⟨h, h1⟩
  · exact absurd hk (by decide)
theorem wrote_len {ds : List D} : (wrote ds).length ≤ ds.length := List.length_filterMap_le _ _
end
section
local macro_rules
  | `(tactic| infer_instance) => `(tactic| (first | with_reducible refine b_op ?_ | with_reducible refine b_cb ?_ | with_reducible refine b_un ?_ | with_reducible refine b_call ?_ | with_reducible refine b_cons ?_ | with_reducible refine b_nil ?_ | with_reducible refine b_C ?_ | with_reducible refine b_tup ?_ | with_reducible refine b_lst ?_ | with_reducible refine b_fz ?_ | with_reducible refine b_nsl ?_ | with_reducible refine b_nslD ?_ | with_reducible refine b_nslF ?_ | with_reducible refine b_nslS ?_ | with_reducible refine b_tst ?_ | with_reducible refine b_bT ?_ | with_reducible refine b_andK ?_ | with_reducible refine b_orK ?_ | with_reducible refine b_not ?_ | with_reducible refine b_eIf ?_ | with_reducible refine b_ok ?_ | with_reducible refine b_rng ?_ | with_reducible refine b_iseq ?_ | with_reducible refine b_yes ?_ | with_reducible refine s_skip ?_ | with_reducible refine s_drop ?_ | with_reducible refine s_ret ?_ | with_reducible refine s_retN ?_ | with_reducible refine s_break ?_ | with_reducible refine s_cont ?_ | with_reducible refine s_if ?_ | with_reducible refine s_asg ?_ | with_reducible refine s_par ?_ | with_reducible refine s_tgt ?_ | with_reducible refine s_for ?_ | with_reducible refine s_loop ?_ | with_reducible refine s_store ?_ | with_reducible refine s_asgsN ?_ | with_reducible refine f_d ?_ | with_reducible refine f_fr ?_ | ((with_reducible apply s_seqN); exact (rfl : _ = [_, _, _, _, _, _, _, _, _, _])) | ((with_reducible apply b_var_d); rfl) | ((with_reducible apply b_var_o); rfl) | ((with_reducible apply b_fzv); rfl) | ((with_reducible apply b_fzvA); rfl) | ((with_reducible apply s_asgV); rfl) | ((with_reducible apply s_asgs); rfl) | ((with_reducible apply s_asgsD); rfl; first | assumption | exact Fr.un | exact Fr.dat | exact Fr.own) | ((with_reducible apply s_asgsO); rfl; first | assumption | exact Fr.un | exact Fr.dat | exact Fr.own) | ((with_reducible apply s_asgF); rfl; first | assumption | exact Fr.un | exact Fr.dat | exact Fr.own) | ((with_reducible apply s_asgFO); rfl; first | assumption | exact Fr.un | exact Fr.dat | exact Fr.own) | ((with_reducible apply s_storeV); rfl) | ((with_reducible apply s_storeK); rfl) | ((with_reducible apply b_methL); rfl) | ((with_reducible apply b_methV); rfl) | ((with_reducible apply b_mkTup); rfl; exact Nat.le_of_ble_eq_true rfl) | ((with_reducible apply b_mkLst); rfl; exact Nat.le_of_ble_eq_true rfl) | ((with_reducible apply f_sl); rfl) | ((with_reducible apply f_sld); rfl) | ((with_reducible apply x_mul); rfl; rfl; (first | omega | decide)) | ((with_reducible apply x_mod); rfl; rfl; decide) | ((with_reducible apply x_div); rfl; rfl; (first | omega | decide)) | ((with_reducible apply b_opV); rfl; rfl; rfl) | ((with_reducible apply b_unV); rfl; rfl) | ((with_reducible apply b_callV); rfl; rfl) | ((with_reducible apply b_callF); rfl; rfl) | ((with_reducible apply b_rng1); (first | omega | decide)) | ((with_reducible apply b_rng2); (first | omega | decide))))
theorem wild_loop {p : List D} {c : Nat} {most room : Int} {P : Po} (hp : Pot c p) (h0 : 0 ≤ most) (hm : most ≤ 1000) (hr : 1 ≤ room) (hr2 : room ≤ 100000000000000) (hc : c < 900000000)
    (q : ∀ p' found s3 wr s6 s7 s8 s9, LogOk found → (found.length : Int) ≤ most → Pot (c + 5001) p' → P.nx [.ow (.lst p') .bor, .d (.int most), .d (.int room), s3, .ow (.lst found) .own, .ow (.lst wr) .own, s6, s7, s8, s9]) :
    (l1_l_wild [.ow (.lst p) .bor, .d (.int most), .d (.int room), .un, .ow (.lst []) .own, .ow (.lst []) .own, .un, .un, .un, .un]).wp P := by
  unfold l1_l_wild
  repeat infer_instance
  refine draw_wp hp (by omega) (by omega) (by omega) fun r p1 h1 h2 hp1 => ?_
  repeat infer_instance
  refine loop_inv (fun k ρ => ∃ p' found s3 s6 s7 s8 s9, ρ = [.ow (.lst p') .bor, .d (.int most), .d (.int room), s3, .ow (.lst found) .own, .ow (.lst ((wrote found).map D.int)) .own, s6, s7, s8, s9] ∧ Fr s3 ∧ Fr s6 ∧ Fr s7 ∧ Fr s8 ∧ Fr s9 ∧ LogOk found ∧ found.length = k ∧ Pot (c + 1 + 5 * k) p') _ 0 _ ⟨p1, [], .un, .un, .un, .un, .un, rfl, Fr.un, Fr.un, Fr.un, Fr.un, Fr.un, ⟨by simp, by simp [wrote]⟩, rfl, hp1⟩ (fun j dd ρ hj hI => ?_) fun ρ hI => ?_
  · obtain ⟨p2, found, s3, s6, s7, s8, s9, rfl, f3, f6, f7, f8, f9, lo, hlen, hp2⟩ := hI
    obtain ⟨hjl, rfl⟩ := rng_at hj
    have wl := wrote_len (ds := found)
    repeat infer_instance
    refine any_wp hp2 (by omega) (.inl rfl) (by decide) (by decide) fun kd p3 hkd hp3 => ?_
    have hkd : kd ∈ [D.str "write", D.str "read", D.str "read"] := hkd
    repeat infer_instance
    refine draw_wp hp3 (by omega) (by omega) (by omega) fun v p4 hv1 hv2 hp4 => ?_
    repeat infer_instance
    refine draw_wp hp4 (by omega) (by omega) (by omega) fun b p5 hb1 hb2 hp5 => ?_
    have hkd2 : ∃ ks : Str, kd = .str ks := by
      simp only [List.mem_cons, List.not_mem_nil, or_false] at hkd
      rcases hkd with rfl | rfl | rfl <;> exact ⟨_, rfl⟩
    obtain ⟨ks, rfl⟩ := hkd2
    repeat infer_instance
    refine b_and2 ?_
    repeat infer_instance
    refine b_and2 ?_
    repeat infer_instance
    refine x_ninI rfl rfl ?_
    repeat infer_instance
    refine ⟨fun h => ?_, fun h => ?_⟩
    · have hk : ks = "write" ∧ 0 < v ∧ v ∉ wrote found := by simpa using h
      repeat infer_instance
      refine x_append rfl (.inl rfl) (by rw [List.length_map]; omega) ?_
      repeat infer_instance
      refine draw_wp hp5 (by omega) (by omega) (by omega) fun e p6 he1 he2 hp6 => ?_
      repeat infer_instance
      refine x_append rfl (.inl rfl) (by omega) ?_
      repeat infer_instance
      have e1 : (wrote (found ++ [.tup [.str "write", .int v, .int b, .int (b + e)]])).map D.int = (wrote found).map D.int ++ [.int v] := by
        rw [wrote_app, List.map_append]; rfl
      have hk1 := hk.1
      subst hk1
      refine ⟨p6, found ++ [.tup [.str "write", .int v, .int b, .int (b + e)]], .d (.int (0 + (j : Int))), .d (.int b), .d (.str "write"), .d (.int v), s9, by rw [e1]; rfl, Fr.dat, Fr.dat, Fr.dat, Fr.dat, f9, lo.write (by omega) (by omega) (by omega) (by omega) (by omega) hk.2.2, by simp; omega, hp6.mono (by omega)⟩
    · repeat infer_instance
      refine x_addL rfl rfl (by simp; omega) ?_
      repeat infer_instance
      refine x_addL rfl rfl (by simp; omega) ?_
      repeat infer_instance
      refine x_addL rfl rfl (by simp; omega) ?_
      repeat infer_instance
      refine any_wp hp5 (by omega) (.inl rfl) (by simp; omega) (by simp; omega) fun wd p6 hwd hp6 => ?_
      have hw : ∃ w : Int, wd = .int w ∧ 0 ≤ w ∧ w ≤ 1000000000 := by
        simp only [List.mem_append, List.mem_map, List.mem_singleton, List.mem_cons, List.not_mem_nil, or_false] at hwd
        rcases hwd with ((⟨w, hw, rfl⟩ | rfl) | (⟨w, hw, rfl⟩ | rfl)) | rfl
        · have := wrote_bd lo hw; exact ⟨w, rfl, by omega, by omega⟩
        · exact ⟨0, rfl, by omega, by omega⟩
        · have := wrote_bd lo hw; exact ⟨w, rfl, by omega, by omega⟩
        · exact ⟨0, rfl, by omega, by omega⟩
        · exact ⟨v, rfl, by omega, by omega⟩
      obtain ⟨w, rfl, hw1, hw2⟩ := hw
      repeat infer_instance
      refine draw_wp hp6 (by omega) (by omega) (by omega) fun e p7 he1 he2 hp7 => ?_
      repeat infer_instance
      refine x_append rfl (.inl rfl) (by omega) ?_
      repeat infer_instance
      have e1 : (wrote (found ++ [.tup [.str "read", .int w, .int b, .int (b + e)]])).map D.int = (wrote found).map D.int := by
        rw [wrote_app, List.map_append]; exact List.append_nil _
      refine ⟨p7, found ++ [.tup [.str "read", .int w, .int b, .int (b + e)]], .d (.int (0 + (j : Int))), .d (.int b), .d (.str ks), .d (.int w), .ow (.lst ((wrote found).map D.int ++ [.int 0])) .own, by rw [e1]; rfl, Fr.dat, Fr.dat, Fr.dat, Fr.dat, Fr.own, lo.read (by omega) (by omega) (by omega) (by omega) (by omega), by simp; omega, hp7.mono (by omega)⟩
  · obtain ⟨p2, found, s3, s6, s7, s8, s9, rfl, f3, f6, f7, f8, f9, lo, hlen, hp2⟩ := hI
    have hl : found.length = r.toNat := by simpa using hlen
    exact q p2 found s3 _ s6 s7 s8 s9 lo (by omega) (hp2.mono (by simp; omega))
end
end CM
set_option maxHeartbeats 2000000
namespace CM
open PySem PySem.Spec PyProof.Rows L2 DL
theorem LogOk.len4 {ds : List D} (h : LogOk ds) : (∀ x ∈ ds, x.good = true) ∧ ∀ x ∈ ds, x.dep ≤ 60 := ⟨fun x hx => (h.ops x hx).gd.good, fun x hx => Nat.le_trans (h.ops x hx).gd.dep (by decide)⟩
section
local macro_rules
  | `(tactic| infer_instance) => `(tactic| (first | with_reducible refine b_op ?_ | with_reducible refine b_cb ?_ | with_reducible refine b_un ?_ | with_reducible refine b_call ?_ | with_reducible refine b_cons ?_ | with_reducible refine b_nil ?_ | with_reducible refine b_C ?_ | with_reducible refine b_tup ?_ | with_reducible refine b_lst ?_ | with_reducible refine b_fz ?_ | with_reducible refine b_nsl ?_ | with_reducible refine b_nslD ?_ | with_reducible refine b_nslF ?_ | with_reducible refine b_nslS ?_ | with_reducible refine b_tst ?_ | with_reducible refine b_bT ?_ | with_reducible refine b_andK ?_ | with_reducible refine b_orK ?_ | with_reducible refine b_not ?_ | with_reducible refine b_eIf ?_ | with_reducible refine b_ok ?_ | with_reducible refine b_rng ?_ | with_reducible refine b_iseq ?_ | with_reducible refine b_yes ?_ | with_reducible refine s_skip ?_ | with_reducible refine s_drop ?_ | with_reducible refine s_ret ?_ | with_reducible refine s_retN ?_ | with_reducible refine s_break ?_ | with_reducible refine s_cont ?_ | with_reducible refine s_if ?_ | with_reducible refine s_asg ?_ | with_reducible refine s_par ?_ | with_reducible refine s_tgt ?_ | with_reducible refine s_for ?_ | with_reducible refine s_loop ?_ | with_reducible refine s_store ?_ | with_reducible refine s_asgsN ?_ | with_reducible refine f_d ?_ | with_reducible refine f_fr ?_ | ((with_reducible apply s_seqN); exact (rfl : _ = [_, _, _, _, _, _, _, _, _, _])) | ((with_reducible apply b_var_d); rfl) | ((with_reducible apply b_var_o); rfl) | ((with_reducible apply b_fzv); rfl) | ((with_reducible apply b_fzvA); rfl) | ((with_reducible apply s_asgV); rfl) | ((with_reducible apply s_asgs); rfl) | ((with_reducible apply s_asgsD); rfl; first | assumption | exact Fr.un | exact Fr.dat | exact Fr.own) | ((with_reducible apply s_asgsO); rfl; first | assumption | exact Fr.un | exact Fr.dat | exact Fr.own) | ((with_reducible apply s_asgF); rfl; first | assumption | exact Fr.un | exact Fr.dat | exact Fr.own) | ((with_reducible apply s_asgFO); rfl; first | assumption | exact Fr.un | exact Fr.dat | exact Fr.own) | ((with_reducible apply s_storeV); rfl) | ((with_reducible apply s_storeK); rfl) | ((with_reducible apply b_methL); rfl) | ((with_reducible apply b_methV); rfl) | ((with_reducible apply b_mkTup); rfl; exact Nat.le_of_ble_eq_true rfl) | ((with_reducible apply b_mkLst); rfl; exact Nat.le_of_ble_eq_true rfl) | ((with_reducible apply f_sl); rfl) | ((with_reducible apply f_sld); rfl) | ((with_reducible apply x_mul); rfl; rfl; (first | omega | decide)) | ((with_reducible apply x_mod); rfl; rfl; decide) | ((with_reducible apply x_div); rfl; rfl; (first | omega | decide)) | ((with_reducible apply b_opV); rfl; rfl; rfl) | ((with_reducible apply b_unV); rfl; rfl) | ((with_reducible apply b_callV); rfl; rfl) | ((with_reducible apply b_callF); rfl; rfl) | ((with_reducible apply b_rng1); (first | omega | decide)) | ((with_reducible apply b_rng2); (first | omega | decide))))
theorem wild_wp {p : List D} {c : Nat} {most room : Int} {Q : Val → DEnv → Prop} {X : Ex → DEnv → Prop} (hp : Pot c p) (h0 : 0 ≤ most) (hm : most ≤ 1000) (hr : 1 ≤ room) (hr2 : room ≤ 100000000000000) (hc : c < 900000000)
    (q : ∀ ds p', LogOk ds → (ds.length : Int) ≤ most → Pot (c + 6001) p' → Q (.d (.tup ds)) [.ow (.lst p') .bor, .d (.int most), .d (.int room)]) : (s_l_wild [.ow (.lst p) .bor, .d (.int most), .d (.int room)]).wp Q X := by
  unfold s_l_wild e_l_wild
  refine f_fn rfl ?_
  repeat infer_instance
  refine wild_loop hp h0 hm hr hr2 hc fun p' found s3 wr s6 s7 s8 s9 lo hl hp' => ?_
  repeat infer_instance
  refine mixed_wp hp' (.inr (.inl rfl)) lo.len4.1 lo.len4.2 (by omega) (by omega) fun es p2 pm hp2 => ?_
  repeat infer_instance
  have := pm.length_eq
  exact q es p2 (lo.perm pm) (by omega) (hp2.mono (by omega))
def intOf : D → Option Int
  | .int i => some i
  | _ => none
theorem intOf_map : ∀ (ns : List Int), (ns.map D.int).filterMap intOf = ns
  | [] => rfl
  | n :: ns => by rw [List.map_cons, List.filterMap_cons]; show n :: _ = _; rw [intOf_map ns]
theorem ints_perm {es : List D} {ns : List Int} (h : es.Perm (ns.map D.int)) : ∃ ms : List Int, es = ms.map D.int ∧ ms.Perm ns := by
  have hp := h.filterMap intOf
  rw [intOf_map] at hp
  refine ⟨es.filterMap intOf, ?_, hp⟩
  have hm : ∀ d ∈ es, ∃ i, d = D.int i := fun d hd => by
    obtain ⟨i, _, e⟩ := List.mem_map.mp (h.mem_iff.mp hd)
    exact ⟨i, e.symm⟩
  clear h hp
  induction es with
  | nil => rfl
  | cons e es ih =>
    obtain ⟨i, rfl⟩ := hm e List.mem_cons_self
    rw [List.filterMap_cons]
    show _ = D.int i :: _
    rw [← ih fun d hd => hm d (List.mem_cons_of_mem _ hd)]
theorem rgL_ints {i j : Int} : rgL i j = ((List.range (j - i).toNat).map fun k : Nat => i + (k : Int)).map D.int := by
  unfold rgL
  rw [List.map_map]
  rfl
theorem rgI_nodup {i : Int} {n : Nat} : ((List.range n).map fun k : Nat => i + (k : Int)).Nodup := by
  rw [List.nodup_iff_pairwise_ne, List.pairwise_map]
  exact List.pairwise_lt_range.imp fun h e => by omega
theorem nodup_get : ∀ {l : List Int} {i j : Nat} {x : Int}, l.Nodup → l[i]? = some x → l[j]? = some x → i = j
  | [], i, j, x, _, e, _ => by simp at e
  | a :: l, i, j, x, nd, e1, e2 => by
    rw [List.nodup_cons] at nd
    cases i with
    | zero => cases j with
      | zero => rfl
      | succ j =>
        have e1 : a = x := by simpa using e1
        subst e1
        exact absurd (List.mem_of_getElem? (i := j) (by simpa using e2)) nd.1
    | succ i => cases j with
      | zero =>
        have e2 : a = x := by simpa using e2
        subst e2
        exact absurd (List.mem_of_getElem? (i := i) (by simpa using e1)) nd.1
      | succ j => exact congrArg (· + 1) (nodup_get nd.2 (by simpa using e1) (by simpa using e2))
structure TrueArgs (many off step : Int) : Prop where
  m0 : 0 ≤ many
  m1 : many ≤ 1000
  o0 : 0 ≤ off
  o1 : off ≤ 100000000000
  s0 : 0 ≤ step
  s1 : step ≤ 100000000000
end
section
local macro_rules
  | `(tactic| infer_instance) => `(tactic| (first | with_reducible refine b_op ?_ | with_reducible refine b_cb ?_ | with_reducible refine b_un ?_ | with_reducible refine b_call ?_ | with_reducible refine b_cons ?_ | with_reducible refine b_nil ?_ | with_reducible refine b_C ?_ | with_reducible refine b_tup ?_ | with_reducible refine b_lst ?_ | with_reducible refine b_fz ?_ | with_reducible refine b_nsl ?_ | with_reducible refine b_nslD ?_ | with_reducible refine b_nslF ?_ | with_reducible refine b_nslS ?_ | with_reducible refine b_tst ?_ | with_reducible refine b_bT ?_ | with_reducible refine b_andK ?_ | with_reducible refine b_orK ?_ | with_reducible refine b_not ?_ | with_reducible refine b_eIf ?_ | with_reducible refine b_ok ?_ | with_reducible refine b_rng ?_ | with_reducible refine b_iseq ?_ | with_reducible refine b_yes ?_ | with_reducible refine s_skip ?_ | with_reducible refine s_drop ?_ | with_reducible refine s_ret ?_ | with_reducible refine s_retN ?_ | with_reducible refine s_break ?_ | with_reducible refine s_cont ?_ | with_reducible refine s_if ?_ | with_reducible refine s_asg ?_ | with_reducible refine s_par ?_ | with_reducible refine s_tgt ?_ | with_reducible refine s_for ?_ | with_reducible refine s_loop ?_ | with_reducible refine s_store ?_ | with_reducible refine s_asgsN ?_ | with_reducible refine f_d ?_ | with_reducible refine f_fr ?_ | ((with_reducible apply s_seqN); exact (rfl : _ = [_, _, _, _, _, _, _, _, _, _, _, _, _])) | ((with_reducible apply b_var_d); rfl) | ((with_reducible apply b_var_o); rfl) | ((with_reducible apply b_fzv); rfl) | ((with_reducible apply b_fzvA); rfl) | ((with_reducible apply s_asgV); rfl) | ((with_reducible apply s_asgs); rfl) | ((with_reducible apply s_asgsD); rfl; first | assumption | exact Fr.un | exact Fr.dat | exact Fr.own) | ((with_reducible apply s_asgsO); rfl; first | assumption | exact Fr.un | exact Fr.dat | exact Fr.own) | ((with_reducible apply s_asgF); rfl; first | assumption | exact Fr.un | exact Fr.dat | exact Fr.own) | ((with_reducible apply s_asgFO); rfl; first | assumption | exact Fr.un | exact Fr.dat | exact Fr.own) | ((with_reducible apply s_storeV); rfl) | ((with_reducible apply s_storeK); rfl) | ((with_reducible apply b_methL); rfl) | ((with_reducible apply b_methV); rfl) | ((with_reducible apply b_mkTup); rfl; exact Nat.le_of_ble_eq_true rfl) | ((with_reducible apply b_mkLst); rfl; exact Nat.le_of_ble_eq_true rfl) | ((with_reducible apply f_sl); rfl) | ((with_reducible apply f_sld); rfl) | ((with_reducible apply x_mul); rfl; rfl; (first | omega | decide)) | ((with_reducible apply x_mod); rfl; rfl; decide) | ((with_reducible apply x_div); rfl; rfl; (first | omega | decide)) | ((with_reducible apply b_opV); rfl; rfl; rfl) | ((with_reducible apply b_unV); rfl; rfl) | ((with_reducible apply b_callV); rfl; rfl) | ((with_reducible apply b_callF); rfl; rfl) | ((with_reducible apply b_rng1); (first | omega | decide)) | ((with_reducible apply b_rng2); (first | omega | decide))))
theorem true_loop {p : List D} {c : Nat} {many off step t0 : Int} {ms : List Int} {P : Po} (hp : Pot c p) (A : TrueArgs many off step) (ht : -7 ≤ t0 ∧ t0 ≤ 100000000000000) (nd : ms.Nodup) (hl : (ms.length : Int) = many) (hb : ∀ m ∈ ms, 1 ≤ m ∧ m ≤ 1000) (hc : c < 900000000)
    (q : ∀ p' found s5 s7 s8 s9 s10 s11 s12, LogOk found → (found.length : Int) = many → Pot (c + 6000) p' → P.nx [.ow (.lst p') .bor, .d (.int many), .d (.int off), .d (.int step), .ow (.lst (ms.map D.int)) .own, s5, .ow (.lst found) .own, s7, s8, s9, s10, s11, s12]) :
    (l1_l_true [.ow (.lst p) .bor, .d (.int many), .d (.int off), .d (.int step), .ow (.lst (ms.map D.int)) .own, .un, .ow (.lst []) .own, .d (.int 0), .d (.int t0), .un, .un, .un, .un]).wp P := by
  obtain ⟨m0, m1, o0, o1, s0, s1⟩ := A
  unfold l1_l_true
  repeat infer_instance
  refine loop_inv (fun k ρ => ∃ p' found s5 w t s9 s10 s11 s12, ρ = [.ow (.lst p') .bor, .d (.int many), .d (.int off), .d (.int step), .ow (.lst (ms.map D.int)) .own, s5, .ow (.lst found) .own, .d (.int w), .d (.int t), s9, s10, s11, s12] ∧ Fr s5 ∧ Fr s9 ∧ Fr s10 ∧ Fr s11 ∧ Fr s12 ∧ LogOk found ∧ found.length = k ∧ 0 ≤ w ∧ w ≤ 1000 ∧ -7 ≤ t ∧ t ≤ 100000000000000 + k * step ∧ (∀ u ∈ wrote found, ∃ i, i < k ∧ ms[i]? = some u) ∧ Pot (c + 6 * k) p') _ 0 _ ⟨p, [], .un, 0, t0, .un, .un, .un, .un, rfl, Fr.un, Fr.un, Fr.un, Fr.un, Fr.un, ⟨by simp, by simp [wrote]⟩, rfl, by omega, by omega, by omega, by omega, by simp [wrote], hp⟩ (fun j dd ρ hj hI => ?_) fun ρ hI => ?_
  · obtain ⟨p2, found, s5, w, t, s9, s10, s11, s12, rfl, f5, f9, f10, f11, f12, lo, hlen, w0, w1, t1, t2, hw, hp2⟩ := hI
    obtain ⟨hjl, rfl⟩ := rng_at hj
    simp only [Nat.zero_add] at hlen t2 hw hp2
    have hjs : (j : Int) * step ≤ 1000 * step := Int.mul_le_mul_of_nonneg_right (by omega) s0
    repeat infer_instance
    refine draw_wp hp2 (by omega) (by omega) (by omega) fun d1 p3 a1 a2 hp3 => ?_
    repeat infer_instance
    refine any_wp hp3 (by omega) (.inl rfl) (by decide) (by decide) fun kd p4 hkd hp4 => ?_
    have hkd : kd ∈ [D.str "write", D.str "read", D.str "read"] := hkd
    have hkd2 : kd = .str "write" ∨ kd = .str "read" := by
      simp only [List.mem_cons, List.not_mem_nil, or_false] at hkd
      rcases hkd with h | h | h
      · exact .inl h
      · exact .inr h
      · exact .inr h
    have hstep : (j : Int) * step + step = ((j + 1 : Nat) : Int) * step := by rw [Int.natCast_add, Int.add_mul]; simp
    have hstep2 : ((j + 1 : Nat) : Int) * step ≤ 1000 * step := Int.mul_le_mul_of_nonneg_right (by omega) s0
    rcases hkd2 with rfl | rfl
    · repeat infer_instance
      refine ⟨fun _ => ?_, fun h => absurd h (by decide)⟩
      have hmj : j < ms.length := by omega
      obtain ⟨hm0, hm1⟩ := hb ms[j] (List.getElem_mem hmj)
      repeat infer_instance
      refine x_idx (d := .int ms[j]) rfl rfl (atI_map (f := D.int) (by
        obtain ⟨y, e1, e2⟩ := atI_of (xs := ms) (i := 0 + (j : Int)) (by omega) (by omega)
        rw [e1]
        have : (0 + (j : Int)).toNat = j := by omega
        rw [this, List.getElem?_eq_getElem hmj] at e2
        exact e2.symm)) ?_
      repeat infer_instance
      refine draw_wp hp4 (by omega) (by omega) (by omega) fun d2 p5 b1 b2 hp5 => ?_
      repeat infer_instance
      refine draw_wp hp5 (by omega) (by omega) (by omega) fun d3 p6 c1 c2 hp6 => ?_
      repeat infer_instance
      refine draw_wp hp6 (by omega) (by omega) (by omega) fun d4 p7 e1 e2 hp7 => ?_
      repeat infer_instance
      refine draw_wp hp7 (by omega) (by omega) (by omega) fun d5 p8 g1 g2 hp8 => ?_
      repeat infer_instance
      refine x_append rfl (.inl rfl) (by omega) ?_
      repeat infer_instance
      refine ⟨p8, _, .d (.int (0 + (j : Int))), ms[j], t + d1, .d (.str "write"), _, _, _, rfl, Fr.dat, Fr.dat, Fr.dat, Fr.dat, Fr.dat, lo.write hm0 (by omega) (by omega) (by omega) (by omega) (fun z => ?_), by simp; omega, by omega, hm1, by omega, by simp only [Nat.zero_add]; omega, fun u hu => ?_, hp8.mono (by omega)⟩
      · obtain ⟨i, hi, e⟩ := hw _ z
        have := nodup_get nd e (List.getElem?_eq_getElem hmj)
        omega
      · rw [wrote_app] at hu
        rcases List.mem_append.mp hu with z | z
        · obtain ⟨i, hi, e⟩ := hw _ z
          exact ⟨i, by omega, e⟩
        · have z : u ∈ [ms[j]] := z
          rw [List.mem_singleton] at z
          subst z
          exact ⟨j, by omega, List.getElem?_eq_getElem hmj⟩
    · repeat infer_instance
      refine ⟨fun h => absurd h (by decide), fun _ => ?_⟩
      repeat infer_instance
      refine draw_wp hp4 (by omega) (by omega) (by omega) fun d2 p5 b1 b2 hp5 => ?_
      repeat infer_instance
      refine draw_wp hp5 (by omega) (by omega) (by omega) fun d3 p6 c1 c2 hp6 => ?_
      repeat infer_instance
      refine draw_wp hp6 (by omega) (by omega) (by omega) fun d4 p7 e1 e2 hp7 => ?_
      repeat infer_instance
      refine draw_wp hp7 (by omega) (by omega) (by omega) fun d5 p8 g1 g2 hp8 => ?_
      repeat infer_instance
      refine x_append rfl (.inl rfl) (by omega) ?_
      repeat infer_instance
      refine ⟨p8, _, .d (.int (0 + (j : Int))), w, t + d1, .d (.str "read"), _, _, _, rfl, Fr.dat, Fr.dat, Fr.dat, Fr.dat, Fr.dat, lo.read w0 (by omega) (by omega) (by omega) (by omega), by simp; omega, w0, w1, by omega, by simp only [Nat.zero_add]; omega, fun u hu => ?_, hp8.mono (by omega)⟩
      rw [wrote_app] at hu
      rcases List.mem_append.mp hu with z | z
      · obtain ⟨i, hi, e⟩ := hw _ z
        exact ⟨i, by omega, e⟩
      · exact absurd z (by intro z; cases z)
  · obtain ⟨p2, found, s5, w, t, s9, s10, s11, s12, rfl, f5, f9, f10, f11, f12, lo, hlen, w0, w1, t1, t2, hw, hp2⟩ := hI
    have hl2 : found.length = many.toNat := by simpa using hlen
    exact q p2 found s5 _ _ s9 s10 s11 s12 lo (by omega) (hp2.mono (by simp; omega))
end
end CM
set_option maxHeartbeats 2000000
namespace CM
open PySem PySem.Spec PyProof.Rows L2 DL
theorem p14 : ((10 : Int) ^ Int.toNat 14) = 100000000000000 := by decide +kernel
theorem p12 : ((10 : Int) ^ Int.toNat 12) = 1000000000000 := by decide +kernel
section
local macro_rules
  | `(tactic| infer_instance) => `(tactic| (first | with_reducible refine b_op ?_ | with_reducible refine b_cb ?_ | with_reducible refine b_un ?_ | with_reducible refine b_call ?_ | with_reducible refine b_cons ?_ | with_reducible refine b_nil ?_ | with_reducible refine b_C ?_ | with_reducible refine b_tup ?_ | with_reducible refine b_lst ?_ | with_reducible refine b_fz ?_ | with_reducible refine b_nsl ?_ | with_reducible refine b_nslD ?_ | with_reducible refine b_nslF ?_ | with_reducible refine b_nslS ?_ | with_reducible refine b_tst ?_ | with_reducible refine b_bT ?_ | with_reducible refine b_andK ?_ | with_reducible refine b_orK ?_ | with_reducible refine b_not ?_ | with_reducible refine b_eIf ?_ | with_reducible refine b_ok ?_ | with_reducible refine b_rng ?_ | with_reducible refine b_iseq ?_ | with_reducible refine b_yes ?_ | with_reducible refine s_skip ?_ | with_reducible refine s_drop ?_ | with_reducible refine s_ret ?_ | with_reducible refine s_retN ?_ | with_reducible refine s_break ?_ | with_reducible refine s_cont ?_ | with_reducible refine s_if ?_ | with_reducible refine s_asg ?_ | with_reducible refine s_par ?_ | with_reducible refine s_tgt ?_ | with_reducible refine s_for ?_ | with_reducible refine s_loop ?_ | with_reducible refine s_store ?_ | with_reducible refine s_asgsN ?_ | with_reducible refine f_d ?_ | with_reducible refine f_fr ?_ | ((with_reducible apply s_seqN); exact (rfl : _ = [_, _, _, _, _, _, _, _, _, _, _, _, _])) | ((with_reducible apply b_var_d); rfl) | ((with_reducible apply b_var_o); rfl) | ((with_reducible apply b_fzv); rfl) | ((with_reducible apply b_fzvA); rfl) | ((with_reducible apply s_asgV); rfl) | ((with_reducible apply s_asgs); rfl) | ((with_reducible apply s_asgsD); rfl; first | assumption | exact Fr.un | exact Fr.dat | exact Fr.own) | ((with_reducible apply s_asgsO); rfl; first | assumption | exact Fr.un | exact Fr.dat | exact Fr.own) | ((with_reducible apply s_asgF); rfl; first | assumption | exact Fr.un | exact Fr.dat | exact Fr.own) | ((with_reducible apply s_asgFO); rfl; first | assumption | exact Fr.un | exact Fr.dat | exact Fr.own) | ((with_reducible apply s_storeV); rfl) | ((with_reducible apply s_storeK); rfl) | ((with_reducible apply b_methL); rfl) | ((with_reducible apply b_methV); rfl) | ((with_reducible apply b_mkTup); rfl; exact Nat.le_of_ble_eq_true rfl) | ((with_reducible apply b_mkLst); rfl; exact Nat.le_of_ble_eq_true rfl) | ((with_reducible apply f_sl); rfl) | ((with_reducible apply f_sld); rfl) | ((with_reducible apply x_mul); rfl; rfl; (first | omega | decide)) | ((with_reducible apply x_mod); rfl; rfl; decide) | ((with_reducible apply x_div); rfl; rfl; (first | omega | decide)) | ((with_reducible apply b_opV); rfl; rfl; rfl) | ((with_reducible apply b_unV); rfl; rfl) | ((with_reducible apply b_callV); rfl; rfl) | ((with_reducible apply b_callF); rfl; rfl) | ((with_reducible apply b_rng1); (first | omega | decide)) | ((with_reducible apply b_rng2); (first | omega | decide))))
theorem true_wp {p : List D} {c : Nat} {many off step : Int} {Q : Val → DEnv → Prop} {X : Ex → DEnv → Prop} (hp : Pot c p) (A : TrueArgs many off step) (hc : c < 800000000)
    (q : ∀ ds p', LogOk ds → (ds.length : Int) = many → Pot (c + 9000) p' → Q (.d (.tup ds)) [.ow (.lst p') .bor, .d (.int many), .d (.int off), .d (.int step)]) : (s_l_true [.ow (.lst p) .bor, .d (.int many), .d (.int off), .d (.int step)]).wp Q X := by
  have B := A
  obtain ⟨m0, m1, o0, o1, s0, s1⟩ := B
  unfold s_l_true e_l_true
  refine f_fn rfl ?_
  repeat infer_instance
  refine any_wp hp (by omega) (.inl rfl) (by decide) (by decide) fun td p1 htd hp1 => ?_
  have ht : ∃ t : Int, td = .int t ∧ -7 ≤ t ∧ t ≤ 100000000000000 := by
    have htd : td ∈ [D.int 0, D.int (-7), D.int (10 ^ Int.toNat 14)] := htd
    rw [p14] at htd
    simp only [List.mem_cons, List.not_mem_nil, or_false] at htd
    rcases htd with rfl | rfl | rfl <;> exact ⟨_, rfl, by decide, by decide⟩
  obtain ⟨t0, rfl, ht⟩ := ht
  repeat infer_instance
  refine x_lrg rfl rfl (by unfold rgIn; exact decide_eq_true (by omega)) ?_
  repeat infer_instance
  rw [rgL_ints]
  refine mixed_wp hp1 (.inl rfl) (fun x hx => ?_) (fun x hx => ?_) (by simp; omega) (by simp; omega) fun es p2 pm hp2 => ?_
  · obtain ⟨i, _, rfl⟩ := List.mem_map.mp hx; rfl
  · obtain ⟨i, _, rfl⟩ := List.mem_map.mp hx; exact Nat.zero_le _
  obtain ⟨ms, rfl, pms⟩ := ints_perm pm
  have hml := pms.length_eq
  simp only [List.length_map, List.length_range] at hml hp2
  repeat infer_instance
  refine true_loop hp2 A ht (pms.nodup_iff.mpr rgI_nodup) (by omega) (fun m hm => ?_) (by omega) fun p3 found s5 s7 s8 s9 s10 s11 s12 lo hl hp3 => ?_
  · obtain ⟨k, hk, rfl⟩ := List.mem_map.mp (pms.mem_iff.mp hm)
    rw [List.mem_range] at hk
    omega
  repeat infer_instance
  refine mixed_wp hp3 (.inr (.inl rfl)) lo.len4.1 lo.len4.2 (by omega) (by omega) fun es p4 pm2 hp4 => ?_
  repeat infer_instance
  have := pm2.length_eq
  exact q es p4 (lo.perm pm2) (by omega) (hp4.mono (by omega))
def vOf : D → Int
  | .tup [_, .int v, _, _] => v
  | _ => 0
def keepD (ws : List Int) (d : D) : Bool := !decide (vOf d ∈ ws)
end
section
local macro_rules
  | `(tactic| infer_instance) => `(tactic| (first | with_reducible refine b_op ?_ | with_reducible refine b_cb ?_ | with_reducible refine b_un ?_ | with_reducible refine b_call ?_ | with_reducible refine b_cons ?_ | with_reducible refine b_nil ?_ | with_reducible refine b_C ?_ | with_reducible refine b_tup ?_ | with_reducible refine b_lst ?_ | with_reducible refine b_fz ?_ | with_reducible refine b_nsl ?_ | with_reducible refine b_nslD ?_ | with_reducible refine b_nslF ?_ | with_reducible refine b_nslS ?_ | with_reducible refine b_tst ?_ | with_reducible refine b_bT ?_ | with_reducible refine b_andK ?_ | with_reducible refine b_orK ?_ | with_reducible refine b_not ?_ | with_reducible refine b_eIf ?_ | with_reducible refine b_ok ?_ | with_reducible refine b_rng ?_ | with_reducible refine b_iseq ?_ | with_reducible refine b_yes ?_ | with_reducible refine s_skip ?_ | with_reducible refine s_drop ?_ | with_reducible refine s_ret ?_ | with_reducible refine s_retN ?_ | with_reducible refine s_break ?_ | with_reducible refine s_cont ?_ | with_reducible refine s_if ?_ | with_reducible refine s_asg ?_ | with_reducible refine s_par ?_ | with_reducible refine s_tgt ?_ | with_reducible refine s_for ?_ | with_reducible refine s_loop ?_ | with_reducible refine s_store ?_ | with_reducible refine s_asgsN ?_ | with_reducible refine f_d ?_ | with_reducible refine f_fr ?_ | ((with_reducible apply s_seqN); exact (rfl : _ = [_, _])) | ((with_reducible apply b_var_d); rfl) | ((with_reducible apply b_var_o); rfl) | ((with_reducible apply b_fzv); rfl) | ((with_reducible apply b_fzvA); rfl) | ((with_reducible apply s_asgV); rfl) | ((with_reducible apply s_asgs); rfl) | ((with_reducible apply s_asgsD); rfl; first | assumption | exact Fr.un | exact Fr.dat | exact Fr.own) | ((with_reducible apply s_asgsO); rfl; first | assumption | exact Fr.un | exact Fr.dat | exact Fr.own) | ((with_reducible apply s_asgF); rfl; first | assumption | exact Fr.un | exact Fr.dat | exact Fr.own) | ((with_reducible apply s_asgFO); rfl; first | assumption | exact Fr.un | exact Fr.dat | exact Fr.own) | ((with_reducible apply s_storeV); rfl) | ((with_reducible apply s_storeK); rfl) | ((with_reducible apply b_methL); rfl) | ((with_reducible apply b_methV); rfl) | ((with_reducible apply b_mkTup); rfl; exact Nat.le_of_ble_eq_true rfl) | ((with_reducible apply b_mkLst); rfl; exact Nat.le_of_ble_eq_true rfl) | ((with_reducible apply f_sl); rfl) | ((with_reducible apply f_sld); rfl) | ((with_reducible apply x_mul); rfl; rfl; (first | omega | decide)) | ((with_reducible apply x_mod); rfl; rfl; decide) | ((with_reducible apply x_div); rfl; rfl; (first | omega | decide)) | ((with_reducible apply b_opV); rfl; rfl; rfl) | ((with_reducible apply b_unV); rfl; rfl) | ((with_reducible apply b_callV); rfl; rfl) | ((with_reducible apply b_callF); rfl; rfl) | ((with_reducible apply b_rng1); (first | omega | decide)) | ((with_reducible apply b_rng2); (first | omega | decide))))
theorem worths_wp {ds : List D} {Q : Val → DEnv → Prop} {X : Ex → DEnv → Prop} (lo : LogOk ds) (hl : ds.length ≤ 200) (q : Q (.fr (.lst ((sortSetI (ds.map vOf)).map D.int))) [.d (.tup ds)]) : (s_l_worths [.d (.tup ds)]).wp Q X := by
  unfold s_l_worths e_l_worths
  refine f_fn rfl ?_
  repeat infer_instance
  unfold eSortSet
  repeat infer_instance
  unfold c1_l_worths
  refine b_lc ?_
  repeat infer_instance
  refine ⟨rfl, by show ds.length < _; omega, ?_⟩
  refine comp_pure (ρ := [.d (.tup ds), .un]) (fun _ => true) (fun d => .int (vOf d)) (fun d hd => ?_) ?_
  · obtain ⟨k, v, b, e, rfl, _⟩ := (lo.ops d hd).ex
    repeat infer_instance
    refine ⟨rfl, fun h => (by cases h), fun _ => ?_⟩
    repeat infer_instance
    exact ⟨rfl, rfl⟩
  · rw [show ds.filter (fun _ => true) = ds from List.filter_eq_self.mpr fun _ _ => rfl]
    refine x_sortSet (ns := ds.map vOf) (by rw [List.map_map]; rfl) (by rw [List.length_map]; omega) ?_
    repeat infer_instance
    exact q
end
end CM
set_option maxHeartbeats 4000000
namespace CM
open PySem PySem.Spec PyProof.Rows L2 DL
theorem cutD_map {lo hi : Option Int} {ns : List Int} : DL.cutD (ns.map D.int) lo hi = (DL.cutD ns lo hi).map D.int := by
  unfold DL.cutD
  rw [List.length_map, List.map_take, List.map_drop]
theorem cutD_len {α : Type} {lo hi : Option Int} {ns : List α} : (DL.cutD ns lo hi).length ≤ ns.length := by
  unfold DL.cutD
  rw [List.length_take, List.length_drop]
  omega
theorem rep_map {k : Nat} {ns : List Int} : (List.replicate k (ns.map D.int)).flatten = ((List.replicate k ns).flatten).map D.int := by
  rw [List.map_flatten, List.map_replicate]
theorem LogOk.gd {ds : List D} (h : LogOk ds) (hl : ds.length ≤ 200) : Gd 2 1001 (.tup ds) := (Gd.tup fun x hx => (h.ops x hx).gd).mono (by decide) (by omega)
theorem small_gd {ns : List Int} (h : ∀ n ∈ ns, n.natAbs < 2 ^ 200) (hl : ns.length ≤ 900) : Gd 1 901 (.lst (ns.map D.int)) := (Gd.lst (k := 0) (n := 1) fun x hx => by
  obtain ⟨i, hi, rfl⟩ := List.mem_map.mp hx
  exact Gd.int (h i hi)).mono (by decide) (by rw [List.length_map]; omega)
theorem pair_gd {a b : D} {k n : Nat} (ha : Gd k n a) (hb : Gd k n b) : Gd (k + 1) (n * 2 + 1) (.tup [a, b]) := Gd.tup (ds := [a, b]) fun x hx => by
  simp only [List.mem_cons, List.not_mem_nil, or_false] at hx
  rcases hx with rfl | rfl
  · exact ha
  · exact hb
theorem pair_gdL {a b : D} {k n : Nat} (ha : Gd k n a) (hb : Gd k n b) : Gd (k + 1) (n * 2 + 1) (.lst [a, b]) := Gd.lst (ds := [a, b]) fun x hx => by
  simp only [List.mem_cons, List.not_mem_nil, or_false] at hx
  rcases hx with rfl | rfl
  · exact ha
  · exact hb
theorem LogOk.filter {ds : List D} (h : LogOk ds) (p : D → Bool) : LogOk (ds.filter p) :=
  ⟨fun d hd => h.ops d (List.mem_filter.mp hd).1, by
    have : (wrote (ds.filter p)).Sublist (wrote ds) := List.Sublist.filterMap _ List.filter_sublist
    exact this.nodup h.nd⟩
theorem big200 : (2 : Nat) ^ 200 = 1606938044258990275541962092341162602522202993782792835301376 := by decide +kernel
end CM
set_option maxHeartbeats 2000000
namespace CM
open PySem PySem.Spec PyProof.Rows L2 DL
/-! typed operations and logs -/
structure Op where
  w : Bool
  v : Int
  b : Int
  e : Int
  deriving DecidableEq
def Op.k (o : Op) : Str := if o.w then "write" else "read"
def Op.d (o : Op) : D := .tup [.str o.k, .int o.v, .int o.b, .int o.e]
structure Op.Ok (o : Op) : Prop where
  lo : 0 ≤ o.v
  wr : o.w = true → 1 ≤ o.v
  hi : o.v ≤ 1000000000
  b : -1000000000000000 ≤ o.b
  be : o.b ≤ o.e
  e : o.e ≤ 1000000000000000
abbrev Log := List Op
def Log.d (l : Log) : D := .tup (l.map Op.d)
def Log.wr (l : Log) : List Int := (l.filter (·.w)).map (·.v)
structure Log.Ok (l : Log) : Prop where
  ops : ∀ o ∈ l, o.Ok
  nd : (Log.wr l).Nodup
  len : l.length ≤ 200
theorem OpOk.typ {d : D} (h : OpOk d) : ∃ o : Op, d = o.d ∧ o.Ok := by
  obtain ⟨k, v, b, e, rfl, hk, h1, h2, h3, h4⟩ := h.ex
  rcases hk with ⟨rfl, hv⟩ | ⟨rfl, hv⟩
  · exact ⟨⟨true, v, b, e⟩, rfl, ⟨by show 0 ≤ v; omega, fun _ => hv, h1, h2, h3, h4⟩⟩
  · exact ⟨⟨false, v, b, e⟩, rfl, ⟨hv, fun z => (by cases z), h1, h2, h3, h4⟩⟩
theorem wroteOf_d (o : Op) : wroteOf o.d = if o.w then some o.v else none := by
  obtain ⟨w, v, b, e⟩ := o
  cases w
  · rfl
  · rfl
theorem wrote_d : ∀ (l : Log), wrote (l.map Op.d) = Log.wr l
  | [] => rfl
  | o :: l => by
    have ih := wrote_d l
    unfold wrote Log.wr at ih ⊢
    rw [List.map_cons, List.filterMap_cons, wroteOf_d, List.filter_cons]
    cases o.w <;> simp [ih]
theorem LogOk.typ {ds : List D} (h : LogOk ds) (hl : ds.length ≤ 200) : ∃ l : Log, ds = l.map Op.d ∧ l.Ok := by
  have key : ∀ es : List D, (∀ d ∈ es, OpOk d) → ∃ l : Log, es = l.map Op.d ∧ ∀ o ∈ l, o.Ok := fun es => by
    induction es with
    | nil => exact fun _ => ⟨[], rfl, by simp⟩
    | cons d es ih =>
      intro he
      obtain ⟨l, rfl, hl⟩ := ih fun x hx => he x (List.mem_cons_of_mem _ hx)
      obtain ⟨o, rfl, ho⟩ := (he d List.mem_cons_self).typ
      exact ⟨o :: l, rfl, fun x hx => by
        rcases List.mem_cons.mp hx with z | z
        · subst z; exact ho
        · exact hl x z⟩
  obtain ⟨l, rfl, ho⟩ := key ds h.ops
  exact ⟨l, rfl, ⟨ho, by rw [← wrote_d]; exact h.nd, by simpa using hl⟩⟩
theorem Op.Ok.op {o : Op} (h : o.Ok) : OpOk o.d := by
  obtain ⟨w, v, b, e⟩ := o
  obtain ⟨h0, h1, h2, h3, h4, h5⟩ := h
  cases w
  · exact ⟨"read", v, b, e, rfl, .inr ⟨rfl, h0⟩, h2, h3, h4, h5⟩
  · exact ⟨"write", v, b, e, rfl, .inl ⟨rfl, h1 rfl⟩, h2, h3, h4, h5⟩
theorem Log.Ok.log {l : Log} (h : l.Ok) : LogOk (l.map Op.d) := ⟨fun d hd => by
  obtain ⟨o, ho, rfl⟩ := List.mem_map.mp hd
  exact (h.ops o ho).op, by rw [wrote_d]; exact h.nd⟩
theorem vOf_d (o : Op) : vOf o.d = o.v := rfl
/-! what is good to compare and to show -/
theorem strk (o : Op) : (D.str o.k).good = true ∧ (D.str o.k).short = true := by
  obtain ⟨w, v, b, e⟩ := o
  cases w
  · show (D.str "read").good = true ∧ (D.str "read").short = true; exact ⟨by decide +kernel, by decide +kernel⟩
  · show (D.str "write").good = true ∧ (D.str "write").short = true; exact ⟨by decide +kernel, by decide +kernel⟩
theorem Gd.nat {i : Int} (h : -10000000000000000000 ≤ i) (h2 : i ≤ 10000000000000000000) : Gd 0 1 (.int i) := Gd.int (by rw [big200]; omega)
theorem Gd.str {x : Str} (h : (D.str x).good = true) (h2 : (D.str x).short = true) : Gd 0 1 (.str x) := ⟨h, h2, Nat.le_refl _, Nat.le_refl _⟩
theorem Gd.bl {b : Bool} : Gd 0 1 (.bl b) := ⟨rfl, rfl, Nat.le_refl _, Nat.le_refl _⟩
theorem Gd.non : Gd 0 1 .non := ⟨rfl, rfl, Nat.le_refl _, Nat.le_refl _⟩
theorem Log.Ok.gd {l : Log} (h : l.Ok) : Gd 2 1001 (Log.d l) := h.log.gd (by rw [List.length_map]; exact h.len)
theorem Gd.tupN {ds : List D} {k n m : Nat} (h : ∀ x ∈ ds, Gd k n x) (hl : n * ds.length + 1 ≤ m) : Gd (k + 1) m (.tup ds) := (Gd.tup h).mono (Nat.le_refl _) hl
theorem Gd.lstN {ds : List D} {k n m : Nat} (h : ∀ x ∈ ds, Gd k n x) (hl : n * ds.length + 1 ≤ m) : Gd (k + 1) m (.lst ds) := (Gd.lst h).mono (Nat.le_refl _) hl
theorem Gd.repr {a : D} {k n : Nat} (h : Gd k n a) (hk : k ≤ 60) (hn : n ≤ 8000) (ht : (∃ xs, a = .tup xs) ∨ ∃ xs, a = .lst xs) : reprD [a] = some (.d (.str (shownD a))) := by
  rcases ht with ⟨xs, rfl⟩ | ⟨xs, rfl⟩
  · exact h.reprT hk hn
  · exact h.reprL hk hn
/-! values -/
def Log.vals (l : Log) : List Int := sortSetI (l.map (·.v))
def LOWEST : Int := -1000000000000000000
/-- the first end of a value -/
def Log.fe (l : Log) (v : Int) : Int := if v = 0 then LOWEST else minL ((l.filter (·.v = v)).map (·.e))
def Log.lb (l : Log) (v : Int) : Int := maxL ((l.filter (·.v = v)).map (·.b))
theorem mem_vals {l : Log} {v : Int} : v ∈ l.vals ↔ ∃ o ∈ l, o.v = v := by
  unfold Log.vals
  rw [mem_sortSetI, List.mem_map]
theorem vals_pw (l : Log) : l.vals.Pairwise (· < ·) := sortSetI_pw _
theorem insI_len {k : Int} : ∀ {xs : List Int}, (insI k xs).length ≤ xs.length + 1
  | [] => Nat.le_refl _
  | x :: xs => by
    unfold insI
    split
    · exact Nat.le_refl _
    · split
      · simp
      · have := insI_len (k := k) (xs := xs); simp only [List.length_cons]; omega
theorem sortSetI_len : ∀ {xs : List Int}, (sortSetI xs).length ≤ xs.length
  | [] => Nat.le_refl _
  | x :: xs => by
    have h1 := insI_len (k := x) (xs := sortSetI xs)
    have h2 := sortSetI_len (xs := xs)
    show (insI x (sortSetI xs)).length ≤ xs.length + 1
    omega
theorem vals_len (l : Log) : l.vals.length ≤ l.length := by have := sortSetI_len (xs := l.map (·.v)); rw [List.length_map] at this; exact this
theorem vals_bd {l : Log} (h : l.Ok) {v : Int} (hv : v ∈ l.vals) : 0 ≤ v ∧ v ≤ 1000000000 := by
  obtain ⟨o, ho, rfl⟩ := mem_vals.mp hv
  exact ⟨(h.ops o ho).lo, (h.ops o ho).hi⟩
theorem pw_nodup {l : List Int} (h : l.Pairwise (· < ·)) : l.Nodup := h.imp fun h e => by omega
theorem vals_nd (l : Log) : l.vals.Nodup := pw_nodup (vals_pw l)
theorem sortSetI_id : ∀ {ks : List Int}, ks.Pairwise (· < ·) → sortSetI ks = ks := fun {ks} h => pw_ext (sortSetI_pw _) h fun k => mem_sortSetI
/-- the entry of a value behind some operations -/
def ent (l : Log) (v : Int) : D := if (l.filter (·.v = v)) = [] then .tup [.non, .non] else .tup [.int (l.fe v), .int (l.lb v)]
theorem foldl_min_app (x : Int) : ∀ (xs : List Int) (a : Int), (xs ++ [a]).foldl min x = min (xs.foldl min x) a := fun xs a => by rw [List.foldl_append]; rfl
theorem minL_app {xs : List Int} (h : xs ≠ []) (a : Int) : minL (xs ++ [a]) = min (minL xs) a := by
  cases xs with
  | nil => exact absurd rfl h
  | cons x xs => exact foldl_min_app x xs a
theorem maxL_app {xs : List Int} (h : xs ≠ []) (a : Int) : maxL (xs ++ [a]) = max (maxL xs) a := by
  cases xs with
  | nil => exact absurd rfl h
  | cons x xs => show (xs ++ [a]).foldl max x = _; rw [List.foldl_append]; rfl
theorem ent_app (l : Log) (o : Op) (w : Int) : ent (l ++ [o]) w = if w = o.v then (.tup [.int (if o.v = 0 then LOWEST else if (l.filter (·.v = o.v)) = [] then o.e else min (minL ((l.filter (·.v = o.v)).map (·.e))) o.e), .int (if (l.filter (·.v = o.v)) = [] then o.b else max (l.lb o.v) o.b)]) else ent l w := by
  unfold ent
  rw [List.filter_append]
  by_cases hw : w = o.v
  · subst hw
    rw [if_pos rfl]
    have e : [o].filter (fun x => decide (x.v = o.v)) = [o] := by simp
    rw [e, if_neg (by simp)]
    unfold Log.fe Log.lb
    rw [List.filter_append, e]
    by_cases hn : l.filter (fun x => decide (x.v = o.v)) = []
    · rw [hn]; simp [minL, maxL]
    · rw [if_neg hn, if_neg hn, List.map_append, List.map_append]
      have n1 : (l.filter (fun x => decide (x.v = o.v))).map (·.e) ≠ [] := fun z => hn (List.map_eq_nil_iff.mp z)
      have n2 : (l.filter (fun x => decide (x.v = o.v))).map (·.b) ≠ [] := fun z => hn (List.map_eq_nil_iff.mp z)
      rw [show [o].map (·.e) = [o.e] from rfl, show [o].map (·.b) = [o.b] from rfl, minL_app n1, maxL_app n2]
  · rw [if_neg hw]
    have e : [o].filter (fun x => decide (x.v = w)) = [] := (by have hw2 : ¬ o.v = w := (fun z => hw z.symm); simp [hw2])
    unfold Log.fe Log.lb
    rw [List.filter_append, e, List.append_nil]
def Log.ends (l : Log) : D := .dic (ikeys l.vals) (l.vals.map fun v => .tup [.int (l.fe v), .int (l.lb v)])
theorem ent_full {l : Log} : l.vals.map (ent l) = l.vals.map fun v => .tup [.int (l.fe v), .int (l.lb v)] := List.map_congr_left fun v hv => by
  unfold ent
  rw [if_neg]
  obtain ⟨o, ho, e⟩ := mem_vals.mp hv
  exact List.ne_nil_of_mem (List.mem_filter.mpr ⟨ho, by simpa using e⟩)
end CM
set_option maxHeartbeats 4000000
namespace CM
open PySem PySem.Spec PyProof.Rows L2 DL
section
variable {ρ ρ' : DEnv} {Q : Val → DEnv → Prop} {X : Ex → DEnv → Prop} {xs : List Val} {a b : D} {x y : Val}
def isSeq : D → Prop
  | .tup _ => True
  | .lst _ => True
  | _ => False
theorem x_repr {k n : Nat} (h1 : peekL ρ xs = some [a]) (h : Gd k n a) (hk : k ≤ 60) (hn : n ≤ 8000) (hs : isSeq a) (q : Q (.d (.str (shownD a))) ρ) : (callV reprD xs ρ).wp Q X := by
  cases a with
  | tup ds => exact b_callV h1 (h.reprT hk hn) q
  | lst ds => exact b_callV h1 (h.reprL hk hn) q
  | _ => exact hs.elim
theorem x_minL {ns : List Int} (h1 : peekL ρ xs = some [.lst (ns.map D.int)]) (hn : ns ≠ []) (q : Q (.d (.int (minL ns))) ρ) : (callV minD xs ρ).wp Q X := by
  refine b_callV h1 ?_ q
  cases ns with
  | nil => exact absurd rfl hn
  | cons n ns =>
    show (match intsD ((n :: ns).map D.int) with | some (n :: ns) => some (Val.d (.int (minL (n :: ns)))) | _ => none) = _
    rw [intsD_map]
theorem x_maxL {ns : List Int} (h1 : peekL ρ xs = some [.lst (ns.map D.int)]) (hn : ns ≠ []) (q : Q (.d (.int (maxL ns))) ρ) : (callV maxD xs ρ).wp Q X := by
  refine b_callV h1 ?_ q
  cases ns with
  | nil => exact absurd rfl hn
  | cons n ns =>
    show (match intsD ((n :: ns).map D.int) with | some (n :: ns) => some (Val.d (.int (maxL (n :: ns)))) | _ => none) = _
    rw [intsD_map]
theorem ways_str {k : Str} : (!decide (k = k)) = false := by simp
theorem way_eq {k : Str} {A B : Prop} (q : B) : Way (!decide (k = k)) A B := way_f (by simp) q
theorem way_eq' {k : Str} {A B : Prop} (q : A) : Way (decide (k = k)) A B := way_t (by simp) q
end
theorem worthsT_wp {l : Log} {Q : Val → DEnv → Prop} {X : Ex → DEnv → Prop} (h : l.Ok) (q : Q (.fr (.lst (l.vals.map D.int))) [.d l.d]) : (s_l_worths [.d l.d]).wp Q X := by
  refine worths_wp h.log (by rw [List.length_map]; exact h.len) ?_
  rw [List.map_map]
  exact q
theorem wildT_wp {p : List D} {c : Nat} {most room : Int} {Q : Val → DEnv → Prop} {X : Ex → DEnv → Prop} (hp : Pot c p) (h0 : 0 ≤ most) (hm : most ≤ 200) (hr : 1 ≤ room) (hr2 : room ≤ 100000000000000) (hc : c < 900000000)
    (q : ∀ (l : Log) p', l.Ok → (l.length : Int) ≤ most → Pot (c + 6001) p' → Q (.d l.d) [.ow (.lst p') .bor, .d (.int most), .d (.int room)]) : (s_l_wild [.ow (.lst p) .bor, .d (.int most), .d (.int room)]).wp Q X :=
  wild_wp hp h0 (by omega) hr hr2 hc fun ds p' lo hl hp' => by
    obtain ⟨l, rfl, ho⟩ := lo.typ (by omega)
    exact q l p' ho (by rw [List.length_map] at hl; exact hl) hp'
theorem trueT_wp {p : List D} {c : Nat} {many off step : Int} {Q : Val → DEnv → Prop} {X : Ex → DEnv → Prop} (hp : Pot c p) (A : TrueArgs many off step) (hm : many ≤ 200) (hc : c < 800000000)
    (q : ∀ (l : Log) p', l.Ok → (l.length : Int) = many → Pot (c + 9000) p' → Q (.d l.d) [.ow (.lst p') .bor, .d (.int many), .d (.int off), .d (.int step)]) : (s_l_true [.ow (.lst p) .bor, .d (.int many), .d (.int off), .d (.int step)]).wp Q X :=
  true_wp hp A hc fun ds p' lo hl hp' => by
    obtain ⟨l, rfl, ho⟩ := lo.typ (by omega)
    exact q l p' ho (by rw [List.length_map] at hl; exact hl) hp'
/-! laws: for each of the first three cells -/
def lawF (n : Int) (R : FM) : FM := fnD 1 1 (sRet (eCallB allD (aCons (eLc [1] (iRng (aCons (eCallB maxD (aCons (eC (.int 1)) (aCons (eCallB minD (aCons (eC (.int n)) (aCons (eCallB lenD (aCons (eVar 0) aNil)) aNil))) aNil))) aNil)) (asgV 1) tYesD (fz (eCall R (aCons (eCall CM.s_l_pot (aCons (eVar 0) (aCons (eVar 1) aNil))) aNil)))) aNil)))
theorem all_true (k : Nat) : allD [.lst (List.replicate k (D.bl true))] = some (.d (.bl true)) := by
  have := all_bls (bs := List.replicate k true)
  rw [List.map_replicate] at this
  rw [this]
  simp
section
local macro_rules
  | `(tactic| infer_instance) => `(tactic| (first | with_reducible refine b_op ?_ | with_reducible refine b_cb ?_ | with_reducible refine b_un ?_ | with_reducible refine b_call ?_ | with_reducible refine b_cons ?_ | with_reducible refine b_nil ?_ | with_reducible refine b_C ?_ | with_reducible refine b_tup ?_ | with_reducible refine b_lst ?_ | with_reducible refine b_fz ?_ | with_reducible refine b_nsl ?_ | with_reducible refine b_nslD ?_ | with_reducible refine b_nslF ?_ | with_reducible refine b_nslS ?_ | with_reducible refine b_tst ?_ | with_reducible refine b_bT ?_ | with_reducible refine b_not ?_ | with_reducible refine b_ok ?_ | with_reducible refine b_rng ?_ | with_reducible refine b_iseq ?_ | with_reducible refine b_yes ?_ | with_reducible refine s_skip ?_ | with_reducible refine s_drop ?_ | with_reducible refine s_ret ?_ | with_reducible refine s_retN ?_ | with_reducible refine s_break ?_ | with_reducible refine s_cont ?_ | with_reducible refine s_asg ?_ | with_reducible refine s_par ?_ | with_reducible refine s_tgt ?_ | with_reducible refine s_for ?_ | with_reducible refine s_loop ?_ | with_reducible refine s_store ?_ | with_reducible refine s_asgsN ?_ | with_reducible refine f_d ?_ | with_reducible refine f_fr ?_ | with_reducible refine b_sl ?_ | with_reducible refine b_oNone ?_ | with_reducible refine b_oSome ?_ | with_reducible refine b_oV ?_ | with_reducible refine b_isN ?_ | with_reducible refine b_notN ?_ | with_reducible refine b_isnD ?_ | with_reducible refine b_notnD ?_ | with_reducible refine b_ienu ?_ | with_reducible refine b_newD ?_ | with_reducible refine b_iany ?_ | with_reducible refine b_seqT ?_ | with_reducible refine s_gsCons ?_ | with_reducible refine s_gsNil ?_ | with_reducible refine b_seqL ?_ | with_reducible refine b_seqF ?_ | with_reducible refine b_callK ?_ | with_reducible refine b_blK ?_ | with_reducible refine b_dtK ?_ | with_reducible refine b_intK ?_ | with_reducible refine b_eAndK ?_ | with_reducible refine b_eOrK ?_ | with_reducible refine b_eNotK ?_ | with_reducible refine b_chainK ?_ | with_reducible refine b_andW ?_ | with_reducible refine b_orW ?_ | with_reducible refine b_eIfW ?_ | with_reducible refine s_ifW ?_ | with_reducible refine b_lcK ?_ | with_reducible refine b_sortScK ?_ | with_reducible refine b_dcK ?_ | with_reducible refine b_dcStepK ?_ | ((with_reducible apply b_pb); exact (rfl : _ = [_, _])) | ((with_reducible apply s_seqN); exact (rfl : _ = [_, _])) | ((with_reducible apply b_var_d); rfl) | ((with_reducible apply b_var_o); rfl) | ((with_reducible apply b_fzv); rfl) | ((with_reducible apply b_fzvA); rfl) | ((with_reducible apply s_asgV); rfl) | ((with_reducible apply s_asgs); rfl) | ((with_reducible apply s_asgsD); rfl; first | assumption | exact Fr.un | exact Fr.dat | exact Fr.own) | ((with_reducible apply s_asgsO); rfl; first | assumption | exact Fr.un | exact Fr.dat | exact Fr.own) | ((with_reducible apply s_asgF); rfl; first | assumption | exact Fr.un | exact Fr.dat | exact Fr.own) | ((with_reducible apply s_asgFO); rfl; first | assumption | exact Fr.un | exact Fr.dat | exact Fr.own) | ((with_reducible apply s_storeV); rfl) | ((with_reducible apply s_storeK); rfl) | ((with_reducible apply b_methL); rfl) | ((with_reducible apply b_methV); rfl) | ((with_reducible apply b_mkTup); rfl; exact Nat.le_of_ble_eq_true rfl) | ((with_reducible apply b_mkLst); rfl; exact Nat.le_of_ble_eq_true rfl) | ((with_reducible apply f_sl); rfl) | ((with_reducible apply f_sld); rfl) | ((with_reducible apply x_mul); rfl; rfl; (first | omega | decide)) | ((with_reducible apply x_mod); rfl; rfl; decide) | ((with_reducible apply x_div); rfl; rfl; (first | omega | decide)) | ((with_reducible apply b_opV); rfl; rfl; rfl) | ((with_reducible apply b_unV); rfl; rfl) | ((with_reducible apply b_callV); rfl; rfl) | ((with_reducible apply b_callFP); rfl; rfl) | ((with_reducible apply b_rng1); (first | omega | decide)) | ((with_reducible apply b_rng2); (first | omega | decide)) | ((with_reducible apply s_tupG); rfl; rfl) | ((with_reducible apply b_fzvA); rfl) | ((with_reducible apply b_seqO); rfl) | ((with_reducible apply b_selK); rfl) | ((with_reducible apply way_t); rfl) | ((with_reducible apply way_f); rfl)))
theorem lawF_sem {n : Int} (hn : 0 ≤ n ∧ n ≤ 100) {R : FM} (hR : ∀ (p : List D) (Q : Val → DEnv → Prop) (X : Ex → DEnv → Prop), Pot 0 p → Q (.d (.bl true)) [.un] → (R [.ow (.lst p) .own]).wp Q X) (ns : List Int) (h : ns.length ≤ 63) : ∃ as', lawF n R [.d (.scr ns)] = .ret (.d (.bl true)) as' := by
  have key : (lawF n R [.d (.scr ns)]).wp (fun x _ => x = .d (.bl true)) fun _ _ => False := by
    unfold lawF
    refine f_fn rfl ?_
    repeat infer_instance
    refine b_compK rfl (by simp; omega) ?_
    refine comp_inv (fun k acc ρ => acc = List.replicate k (D.bl true) ∧ ρ = [.d (.scr ns), .un]) _ 0 [] _ ⟨rfl, rfl⟩ (fun j dd acc ρ hj hI => ?_) fun acc ρ hI => ?_
    · obtain ⟨rfl, rfl⟩ := hI
      obtain ⟨hjl, rfl⟩ := rng_at hj
      repeat infer_instance
      refine ⟨fun h => (by cases h), fun _ => ?_⟩
      repeat infer_instance
      refine pot_wp (by omega) (by omega) fun p hp => ?_
      repeat infer_instance
      refine hR p _ _ hp ?_
      repeat infer_instance
      exact ⟨_, rfl, by rw [Nat.zero_add, List.replicate_succ'], rfl⟩
    · obtain ⟨rfl, rfl⟩ := hI
      repeat infer_instance
      refine b_callV rfl (all_true _) ?_
      repeat infer_instance
      rfl
  obtain ⟨x, as, e, hx⟩ := RF.wp_ret key
  subst hx
  exact ⟨as, e⟩
/-! logs whose writes may be of one value -/
structure Log.Wk (l : Log) : Prop where
  ops : ∀ o ∈ l, o.Ok
  len : l.length ≤ 200
theorem Log.Ok.wk {l : Log} (h : l.Ok) : l.Wk := ⟨h.ops, h.len⟩
theorem Log.Wk.gd {l : Log} (h : l.Wk) : Gd 2 1001 (Log.d l) := (Gd.tup (k := 1) (n := 5) (ds := l.map Op.d) fun x hx => by
  obtain ⟨o, ho, rfl⟩ := List.mem_map.mp hx
  exact (h.ops o ho).op.gd).mono (by decide) (by have := h.len; rw [List.length_map]; omega)
theorem vals_bdW {l : Log} (h : l.Wk) {v : Int} (hv : v ∈ l.vals) : 0 ≤ v ∧ v ≤ 1000000000 := by
  obtain ⟨o, ho, rfl⟩ := mem_vals.mp hv
  exact ⟨(h.ops o ho).lo, (h.ops o ho).hi⟩
theorem worthsW_wp {l : Log} {Q : Val → DEnv → Prop} {X : Ex → DEnv → Prop} (hl : l.length ≤ 400) (q : Q (.fr (.lst (l.vals.map D.int))) [.d l.d]) : (s_l_worths [.d l.d]).wp Q X := by
  unfold s_l_worths e_l_worths Log.d
  refine f_fn rfl ?_
  repeat infer_instance
  unfold eSortSet
  repeat infer_instance
  unfold c1_l_worths
  repeat infer_instance
  refine b_compK rfl (by rw [List.length_map]; omega) ?_
  refine comp_map (ρ := [.d (.tup (l.map Op.d)), .un]) (fun _ => true) (fun o : Op => .int o.v) (fun o ho => ?_) ?_
  · obtain ⟨ow, ov, ob, oe⟩ := o
    repeat infer_instance
    refine ⟨rfl, fun h => (by cases h), fun _ => ?_⟩
    repeat infer_instance
    exact ⟨rfl, rfl⟩
  · rw [List.filter_eq_self.mpr (fun _ _ => rfl)]
    repeat infer_instance
    refine x_sortSet (ns := l.map (·.v)) (by rw [List.map_map]; rfl) (by rw [List.length_map]; omega) ?_
    repeat infer_instance
    exact q
end
end CM
set_option maxHeartbeats 4000000
namespace CM
open PySem PySem.Spec PyProof.Rows L2 DL
theorem seqS_tup {ρ : DEnv} {i : Nat} {ds : List D} {QI : Src → DEnv → Prop} {X : Ex → DEnv → Prop} (e : ρ[i]? = some (.d (.tup ds))) (q : QI (ds, none) ρ) : (seqSrc (.sl i) ρ).wp QI X := by
  unfold seqSrc
  dsimp only
  rw [e]
  exact q
theorem x_idx4 {ρ : DEnv} {x y : Val} {Q : Val → DEnv → Prop} {X : Ex → DEnv → Prop} {a b c d z : D} {k : Int} (h1 : x.peek ρ = some (.tup [a, b, c, d])) (h2 : y.peek ρ = some (.int k)) (e : atI [a, b, c, d] k = some z) (q : Q (.d z) ρ) : (opV idxD x y ρ).wp Q X := x_idxT h1 h2 e q
section
local macro_rules
  | `(tactic| infer_instance) => `(tactic| (first | with_reducible refine b_op ?_ | with_reducible refine b_cb ?_ | with_reducible refine b_un ?_ | with_reducible refine b_call ?_ | with_reducible refine b_cons ?_ | with_reducible refine b_nil ?_ | with_reducible refine b_C ?_ | with_reducible refine b_tup ?_ | with_reducible refine b_lst ?_ | with_reducible refine b_fz ?_ | with_reducible refine b_nsl ?_ | with_reducible refine b_nslD ?_ | with_reducible refine b_nslF ?_ | with_reducible refine b_nslS ?_ | with_reducible refine b_tst ?_ | with_reducible refine b_bT ?_ | with_reducible refine b_not ?_ | with_reducible refine b_ok ?_ | with_reducible refine b_rng ?_ | with_reducible refine b_iseq ?_ | with_reducible refine b_yes ?_ | with_reducible refine s_skip ?_ | with_reducible refine s_drop ?_ | with_reducible refine s_ret ?_ | with_reducible refine s_retN ?_ | with_reducible refine s_break ?_ | with_reducible refine s_cont ?_ | with_reducible refine s_asg ?_ | with_reducible refine s_par ?_ | with_reducible refine s_tgt ?_ | with_reducible refine s_for ?_ | with_reducible refine s_loop ?_ | with_reducible refine s_store ?_ | with_reducible refine s_asgsN ?_ | with_reducible refine f_d ?_ | with_reducible refine f_fr ?_ | with_reducible refine b_sl ?_ | with_reducible refine b_oNone ?_ | with_reducible refine b_oSome ?_ | with_reducible refine b_oV ?_ | with_reducible refine b_isN ?_ | with_reducible refine b_notN ?_ | with_reducible refine b_isnD ?_ | with_reducible refine b_notnD ?_ | with_reducible refine b_ienu ?_ | with_reducible refine b_newD ?_ | with_reducible refine b_iany ?_ | with_reducible refine b_seqT ?_ | with_reducible refine s_gsCons ?_ | with_reducible refine s_gsNil ?_ | with_reducible refine b_seqL ?_ | with_reducible refine b_seqF ?_ | with_reducible refine b_callK ?_ | with_reducible refine b_blK ?_ | with_reducible refine b_dtK ?_ | with_reducible refine b_intK ?_ | with_reducible refine b_eAndK ?_ | with_reducible refine b_eOrK ?_ | with_reducible refine b_eNotK ?_ | with_reducible refine b_chainK ?_ | with_reducible refine b_andW ?_ | with_reducible refine b_orW ?_ | with_reducible refine b_eIfW ?_ | with_reducible refine s_ifW ?_ | with_reducible refine b_lcK ?_ | with_reducible refine b_sortScK ?_ | with_reducible refine b_dcK ?_ | with_reducible refine b_dcStepK ?_ | ((with_reducible apply b_pb); exact (rfl : _ = [_, _, _, _, _])) | ((with_reducible apply s_seqN); exact (rfl : _ = [_, _, _, _, _])) | ((with_reducible apply b_var_d); rfl) | ((with_reducible apply b_var_o); rfl) | ((with_reducible apply b_fzv); rfl) | ((with_reducible apply b_fzvA); rfl) | ((with_reducible apply s_asgV); rfl) | ((with_reducible apply s_asgs); rfl) | ((with_reducible apply s_asgsD); rfl; first | assumption | exact Fr.un | exact Fr.dat | exact Fr.own) | ((with_reducible apply s_asgsO); rfl; first | assumption | exact Fr.un | exact Fr.dat | exact Fr.own) | ((with_reducible apply s_asgF); rfl; first | assumption | exact Fr.un | exact Fr.dat | exact Fr.own) | ((with_reducible apply s_asgFO); rfl; first | assumption | exact Fr.un | exact Fr.dat | exact Fr.own) | ((with_reducible apply s_storeV); rfl) | ((with_reducible apply s_storeK); rfl) | ((with_reducible apply b_methL); rfl) | ((with_reducible apply b_methV); rfl) | ((with_reducible apply b_mkTup); rfl; exact Nat.le_of_ble_eq_true rfl) | ((with_reducible apply b_mkLst); rfl; exact Nat.le_of_ble_eq_true rfl) | ((with_reducible apply f_sl); rfl) | ((with_reducible apply f_sld); rfl) | ((with_reducible apply x_mul); rfl; rfl; (first | omega | decide)) | ((with_reducible apply x_mod); rfl; rfl; decide) | ((with_reducible apply x_div); rfl; rfl; (first | omega | decide)) | ((with_reducible apply b_opV); rfl; rfl; rfl) | ((with_reducible apply b_unV); rfl; rfl) | ((with_reducible apply b_callV); rfl; rfl) | ((with_reducible apply b_callFP); rfl; rfl) | ((with_reducible apply b_rng1); (first | omega | decide)) | ((with_reducible apply b_rng2); (first | omega | decide)) | ((with_reducible apply s_tupG); rfl; rfl) | ((with_reducible apply b_fzvA); rfl) | ((with_reducible apply b_seqO); rfl) | ((with_reducible apply b_selK); rfl) | ((with_reducible apply way_t); rfl) | ((with_reducible apply way_f); rfl)))
theorem values_wp {l : Log} {Q : Val → DEnv → Prop} {X : Ex → DEnv → Prop} (hl : l.length ≤ 400) (q : Q (.d (.tup (l.vals.map D.int))) [.d l.d]) : (s_values_of [.d l.d]).wp Q X := by
  unfold s_values_of e_values_of Log.d
  refine f_fn rfl ?_
  repeat infer_instance
  unfold c1_values_of
  repeat infer_instance
  refine b_compK rfl (by rw [List.length_map]; omega) ?_
  refine compA_inv (fun k (acc : List Int) ρ => acc = (l.take k).map (·.v) ∧ ρ = [.d (.tup (l.map Op.d)), .un, .un, .un, .un]) _ 0 [] _ ⟨rfl, rfl⟩ (fun j dd acc ρ hj hI => ?_) fun acc ρ hI => ?_
  · obtain ⟨rfl, rfl⟩ := hI
    rw [List.getElem?_map] at hj
    obtain ⟨o, ho, rfl⟩ := Option.map_eq_some_iff.mp hj
    have hjl : j < l.length := (List.getElem?_eq_some_iff.mp ho).1
    repeat infer_instance
    refine ⟨fun h => (by cases h), fun _ => ?_⟩
    refine b_scStepK (by rw [List.length_map, List.length_take]; omega) ?_
    repeat infer_instance
    refine ⟨?_, rfl⟩
    rw [show 0 + j + 1 = j + 1 by omega, List.take_add_one, ho, List.map_append, Nat.zero_add]
    rfl
  · obtain ⟨rfl, rfl⟩ := hI
    rw [Nat.zero_add, List.length_map, List.take_length]
    repeat infer_instance
    exact q
end
section
local macro_rules
  | `(tactic| infer_instance) => `(tactic| (first | with_reducible refine b_op ?_ | with_reducible refine b_cb ?_ | with_reducible refine b_un ?_ | with_reducible refine b_call ?_ | with_reducible refine b_cons ?_ | with_reducible refine b_nil ?_ | with_reducible refine b_C ?_ | with_reducible refine b_tup ?_ | with_reducible refine b_lst ?_ | with_reducible refine b_fz ?_ | with_reducible refine b_nsl ?_ | with_reducible refine b_nslD ?_ | with_reducible refine b_nslF ?_ | with_reducible refine b_nslS ?_ | with_reducible refine b_tst ?_ | with_reducible refine b_bT ?_ | with_reducible refine b_not ?_ | with_reducible refine b_ok ?_ | with_reducible refine b_rng ?_ | with_reducible refine b_iseq ?_ | with_reducible refine b_yes ?_ | with_reducible refine s_skip ?_ | with_reducible refine s_drop ?_ | with_reducible refine s_ret ?_ | with_reducible refine s_retN ?_ | with_reducible refine s_break ?_ | with_reducible refine s_cont ?_ | with_reducible refine s_asg ?_ | with_reducible refine s_par ?_ | with_reducible refine s_tgt ?_ | with_reducible refine s_for ?_ | with_reducible refine s_loop ?_ | with_reducible refine s_store ?_ | with_reducible refine s_asgsN ?_ | with_reducible refine f_d ?_ | with_reducible refine f_fr ?_ | with_reducible refine b_sl ?_ | with_reducible refine b_oNone ?_ | with_reducible refine b_oSome ?_ | with_reducible refine b_oV ?_ | with_reducible refine b_isN ?_ | with_reducible refine b_notN ?_ | with_reducible refine b_isnD ?_ | with_reducible refine b_notnD ?_ | with_reducible refine b_ienu ?_ | with_reducible refine b_newD ?_ | with_reducible refine b_iany ?_ | with_reducible refine b_seqT ?_ | with_reducible refine s_gsCons ?_ | with_reducible refine s_gsNil ?_ | with_reducible refine b_seqL ?_ | with_reducible refine b_seqF ?_ | with_reducible refine b_callK ?_ | with_reducible refine b_blK ?_ | with_reducible refine b_dtK ?_ | with_reducible refine b_intK ?_ | with_reducible refine b_eAndK ?_ | with_reducible refine b_eOrK ?_ | with_reducible refine b_eNotK ?_ | with_reducible refine b_chainK ?_ | with_reducible refine b_andW ?_ | with_reducible refine b_orW ?_ | with_reducible refine b_eIfW ?_ | with_reducible refine s_ifW ?_ | with_reducible refine b_lcK ?_ | with_reducible refine b_sortScK ?_ | with_reducible refine b_dcK ?_ | with_reducible refine b_dcStepK ?_ | ((with_reducible apply b_pb); exact (rfl : _ = [_, _, _, _, _, _, _, _])) | ((with_reducible apply s_seqN); exact (rfl : _ = [_, _, _, _, _, _, _, _])) | ((with_reducible apply b_var_d); rfl) | ((with_reducible apply b_var_o); rfl) | ((with_reducible apply b_fzv); rfl) | ((with_reducible apply b_fzvA); rfl) | ((with_reducible apply s_asgV); rfl) | ((with_reducible apply s_asgs); rfl) | ((with_reducible apply s_asgsD); rfl; first | assumption | exact Fr.un | exact Fr.dat | exact Fr.own) | ((with_reducible apply s_asgsO); rfl; first | assumption | exact Fr.un | exact Fr.dat | exact Fr.own) | ((with_reducible apply s_asgF); rfl; first | assumption | exact Fr.un | exact Fr.dat | exact Fr.own) | ((with_reducible apply s_asgFO); rfl; first | assumption | exact Fr.un | exact Fr.dat | exact Fr.own) | ((with_reducible apply s_storeV); rfl) | ((with_reducible apply s_storeK); rfl) | ((with_reducible apply b_methL); rfl) | ((with_reducible apply b_methV); rfl) | ((with_reducible apply b_mkTup); rfl; exact Nat.le_of_ble_eq_true rfl) | ((with_reducible apply b_mkLst); rfl; exact Nat.le_of_ble_eq_true rfl) | ((with_reducible apply f_sl); rfl) | ((with_reducible apply f_sld); rfl) | ((with_reducible apply x_mul); rfl; rfl; (first | omega | decide)) | ((with_reducible apply x_mod); rfl; rfl; decide) | ((with_reducible apply x_div); rfl; rfl; (first | omega | decide)) | ((with_reducible apply b_opV); rfl; rfl; rfl) | ((with_reducible apply b_unV); rfl; rfl) | ((with_reducible apply b_callV); rfl; rfl) | ((with_reducible apply b_callFP); rfl; rfl) | ((with_reducible apply b_rng1); (first | omega | decide)) | ((with_reducible apply b_rng2); (first | omega | decide)) | ((with_reducible apply s_tupG); rfl; rfl) | ((with_reducible apply b_fzvA); rfl) | ((with_reducible apply b_seqO); rfl) | ((with_reducible apply b_selK); rfl) | ((with_reducible apply way_t); rfl) | ((with_reducible apply way_f); rfl)))
theorem ends_loop {l : Log} {s2 s3 s4 s5 s6 s7 : DL.Slot} {P : Po} (hl : l.length ≤ 400) (hk : l.vals.length < 16777216) (f2 : Fr s2) (f3 : Fr s3) (f4 : Fr s4) (f5 : Fr s5) (f6 : Fr s6) (f7 : Fr s7)
    (q : ∀ s2 s3 s4 s5 s6 s7, P.nx [.d l.d, .ow (.dic (ikeys l.vals) (l.vals.map (ent l))) .own, s2, s3, s4, s5, s6, s7]) :
    (l1_ends_of [.d l.d, .ow (.dic (ikeys l.vals) (l.vals.map (ent []))) .own, s2, s3, s4, s5, s6, s7]).wp P := by
  unfold l1_ends_of
  have hd : ∀ ρ : DEnv, ρ = [.d l.d, .ow (.dic (ikeys l.vals) (l.vals.map (ent []))) .own, s2, s3, s4, s5, s6, s7] → l.d = .tup (l.map Op.d) := fun _ _ => rfl
  unfold Log.d
  repeat infer_instance
  refine loop_inv (fun k ρ => ∃ s2 s3 s4 s5 s6 s7, ρ = [.d l.d, .ow (.dic (ikeys l.vals) (l.vals.map (ent (l.take k)))) .own, s2, s3, s4, s5, s6, s7] ∧ Fr s2 ∧ Fr s3 ∧ Fr s4 ∧ Fr s5 ∧ Fr s6 ∧ Fr s7) _ 0 _ ⟨s2, s3, s4, s5, s6, s7, rfl, f2, f3, f4, f5, f6, f7⟩ (fun j dd ρ hj hI => ?_) fun ρ hI => ?_
  · obtain ⟨s2, s3, s4, s5, s6, s7, rfl, f2, f3, f4, f5, f6, f7⟩ := hI
    rw [List.getElem?_map] at hj
    obtain ⟨o, ho, rfl⟩ := Option.map_eq_some_iff.mp hj
    have hov : o.v ∈ l.vals := mem_vals.mpr ⟨o, List.mem_of_getElem? ho, rfl⟩
    have hlk : l.vals.length < 16777216 := hk
    obtain ⟨ow, ov, ob, oe⟩ := o
    dsimp only at hov
    have hex : ent (l.take (0 + j)) ov = .tup [.non, .non] ∨ ent (l.take (0 + j)) ov = .tup [.int (Log.fe (l.take (0 + j)) ov), .int (Log.lb (l.take (0 + j)) ov)] := by
      unfold ent
      split
      · exact .inl rfl
      · exact .inr rfl
    repeat infer_instance
    refine x_idxD (v := ov) (ks := l.vals) (g := ent (l.take (0 + j))) rfl rfl hov ?_
    have tk : l.take (0 + j + 1) = l.take (0 + j) ++ [⟨ow, ov, ob, oe⟩] := by rw [Nat.zero_add, List.take_add_one, ho]; rfl
    have step : ∀ fe lb : Int, fe = (if ov = 0 then LOWEST else if ((l.take (0 + j)).filter (·.v = ov)) = [] then oe else min (minL (((l.take (0 + j)).filter (·.v = ov)).map (·.e))) oe) → lb = (if ((l.take (0 + j)).filter (·.v = ov)) = [] then ob else max (Log.lb (l.take (0 + j)) ov) ob) →
        (l.vals.map fun w => if w = ov then D.tup [.int fe, .int lb] else ent (l.take (0 + j)) w) = l.vals.map (ent (l.take (0 + j + 1))) := fun fe lb h1 h2 => by
      refine List.map_congr_left fun w _ => ?_
      rw [tk, ent_app, h1, h2]
    have hn : ent (l.take (0 + j)) ov = .tup [.non, .non] → ((l.take (0 + j)).filter (·.v = ov)) = [] := fun h => by
      unfold ent at h
      split at h
      · assumption
      · cases h
    have hs : ent (l.take (0 + j)) ov = .tup [.int (Log.fe (l.take (0 + j)) ov), .int (Log.lb (l.take (0 + j)) ov)] → ((l.take (0 + j)).filter (·.v = ov)) ≠ [] := fun h => by
      unfold ent at h
      split at h
      · cases h
      · assumption
    rcases hex with hex | hex
    · rw [hex]
      have e0 := hn hex
      repeat infer_instance
      by_cases hv : ov = 0
      · refine way_f (by show (!decide (ov = 0)) = false; simp [hv]) ?_
        repeat infer_instance
        refine x_storeD (v := ov) (ks := l.vals) (g := ent (l.take (0 + j))) rfl (.inl rfl) rfl hov hlk ?_
        exact ⟨_, _, _, _, _, _, by rw [← step LOWEST ob (by rw [if_pos hv]) (by rw [if_pos e0])]; rfl, Fr.dat, Fr.dat, Fr.dat, Fr.dat, Fr.dat, Fr.dat⟩
      · refine way_t (by show (!decide (ov = 0)) = true; simp [hv]) ?_
        repeat infer_instance
        refine x_storeD (v := ov) (ks := l.vals) (g := ent (l.take (0 + j))) rfl (.inl rfl) rfl hov hlk ?_
        exact ⟨_, _, _, _, _, _, by rw [← step oe ob (by rw [if_neg hv, if_pos e0]) (by rw [if_pos e0])]; rfl, Fr.dat, Fr.dat, Fr.dat, Fr.dat, Fr.dat, Fr.dat⟩
    · rw [hex]
      have e0 := hs hex
      repeat infer_instance
      by_cases hv : ov = 0
      · refine way_f (by show (!decide (ov = 0)) = false; simp [hv]) ?_
        repeat infer_instance
        refine x_storeD (v := ov) (ks := l.vals) (g := ent (l.take (0 + j))) rfl (.inl rfl) rfl hov hlk ?_
        refine ⟨_, _, _, _, _, _, by rw [← step LOWEST (max (Log.lb (l.take (0 + j)) ov) ob) (by rw [if_pos hv]) (by rw [if_neg e0])]; rfl, Fr.dat, Fr.dat, Fr.dat, Fr.dat, Fr.dat, Fr.dat⟩
      · have e1 : Log.fe (l.take (0 + j)) ov = minL (((l.take (0 + j)).filter (·.v = ov)).map (·.e)) := if_neg hv
        refine way_t (by show (!decide (ov = 0)) = true; simp [hv]) ?_
        repeat infer_instance
        refine x_storeD (v := ov) (ks := l.vals) (g := ent (l.take (0 + j))) rfl (.inl rfl) rfl hov hlk ?_
        refine ⟨_, _, _, _, _, _, by rw [← step (min (Log.fe (l.take (0 + j)) ov) oe) (max (Log.lb (l.take (0 + j)) ov) ob) (by rw [if_neg hv, if_neg e0, e1]) (by rw [if_neg e0])]; rfl, Fr.dat, Fr.dat, Fr.dat, Fr.dat, Fr.dat, Fr.dat⟩
  · obtain ⟨s2, s3, s4, s5, s6, s7, rfl, f2, f3, f4, f5, f6, f7⟩ := hI
    rw [Nat.zero_add, List.length_map, List.take_length]
    exact q s2 s3 s4 s5 s6 s7
theorem ends_wp {l : Log} {Q : Val → DEnv → Prop} {X : Ex → DEnv → Prop} (hl : l.length ≤ 400) (q : Q (.fr (.dic (ikeys l.vals) (l.vals.map fun v => .tup [.int (l.fe v), .int (l.lb v)]))) [.d l.d]) : (s_ends_of [.d l.d]).wp Q X := by
  have hvl := vals_len l
  unfold s_ends_of e_ends_of
  refine f_fn rfl ?_
  repeat infer_instance
  unfold c1_ends_of
  repeat infer_instance
  refine values_wp hl ?_
  repeat infer_instance
  refine b_compK rfl (by rw [List.length_map]; omega) ?_
  refine compA_inv (fun k (acc : List Key × List D) ρ => acc = (ikeys (l.vals.take k), (l.vals.take k).map (ent [])) ∧ ρ = [.d l.d, .un, .un, .un, .un, .un, .un, .un]) _ 0 _ _ ⟨rfl, rfl⟩ (fun j dd acc ρ hj hI => ?_) fun acc ρ hI => ?_
  · obtain ⟨rfl, rfl⟩ := hI
    rw [List.getElem?_map] at hj
    obtain ⟨v, hv, rfl⟩ := Option.map_eq_some_iff.mp hj
    repeat infer_instance
    refine ⟨fun h => (by cases h), fun _ => ?_⟩
    repeat infer_instance
    have hnin : v ∉ l.vals.take (0 + j) := fun z => by
      obtain ⟨i, hi, e⟩ := List.mem_iff_getElem.mp z
      rw [List.length_take] at hi
      rw [List.getElem_take] at e
      have hjl := (List.getElem?_eq_some_iff.mp hv).1
      have h2 := (List.getElem?_eq_some_iff.mp hv).2
      have := nodup_get (vals_nd l) (show l.vals[i]? = some v by rw [List.getElem?_eq_getElem (by omega), e]) hv
      omega
    refine ⟨?_, rfl⟩
    rw [any_key, if_neg (by simpa using hnin)]
    rw [show 0 + j + 1 = j + 1 by omega, List.take_add_one, hv, Nat.zero_add]
    show _ = ((l.vals.take j ++ [v]).map Sum.inl, (l.vals.take j ++ [v]).map (ent []))
    rw [List.map_append, List.map_append]
    rfl
  · obtain ⟨rfl, rfl⟩ := hI
    rw [Nat.zero_add, List.length_map, List.take_length]
    repeat infer_instance
    refine ends_loop hl (by omega) Fr.un Fr.un Fr.un Fr.un Fr.un Fr.un fun s2 s3 s4 s5 s6 s7 => ?_
    repeat infer_instance
    rw [ent_full]
    exact q
end
section
local macro_rules
  | `(tactic| infer_instance) => `(tactic| (first | with_reducible refine b_op ?_ | with_reducible refine b_cb ?_ | with_reducible refine b_un ?_ | with_reducible refine b_call ?_ | with_reducible refine b_cons ?_ | with_reducible refine b_nil ?_ | with_reducible refine b_C ?_ | with_reducible refine b_tup ?_ | with_reducible refine b_lst ?_ | with_reducible refine b_fz ?_ | with_reducible refine b_nsl ?_ | with_reducible refine b_nslD ?_ | with_reducible refine b_nslF ?_ | with_reducible refine b_nslS ?_ | with_reducible refine b_tst ?_ | with_reducible refine b_bT ?_ | with_reducible refine b_not ?_ | with_reducible refine b_ok ?_ | with_reducible refine b_rng ?_ | with_reducible refine b_iseq ?_ | with_reducible refine b_yes ?_ | with_reducible refine s_skip ?_ | with_reducible refine s_drop ?_ | with_reducible refine s_ret ?_ | with_reducible refine s_retN ?_ | with_reducible refine s_break ?_ | with_reducible refine s_cont ?_ | with_reducible refine s_asg ?_ | with_reducible refine s_par ?_ | with_reducible refine s_tgt ?_ | with_reducible refine s_for ?_ | with_reducible refine s_loop ?_ | with_reducible refine s_store ?_ | with_reducible refine s_asgsN ?_ | with_reducible refine f_d ?_ | with_reducible refine f_fr ?_ | with_reducible refine b_sl ?_ | with_reducible refine b_oNone ?_ | with_reducible refine b_oSome ?_ | with_reducible refine b_oV ?_ | with_reducible refine b_isN ?_ | with_reducible refine b_notN ?_ | with_reducible refine b_isnD ?_ | with_reducible refine b_notnD ?_ | with_reducible refine b_ienu ?_ | with_reducible refine b_newD ?_ | with_reducible refine b_iany ?_ | with_reducible refine b_seqT ?_ | with_reducible refine s_gsCons ?_ | with_reducible refine s_gsNil ?_ | with_reducible refine b_seqL ?_ | with_reducible refine b_seqF ?_ | with_reducible refine b_callK ?_ | with_reducible refine b_blK ?_ | with_reducible refine b_dtK ?_ | with_reducible refine b_intK ?_ | with_reducible refine b_eAndK ?_ | with_reducible refine b_eOrK ?_ | with_reducible refine b_eNotK ?_ | with_reducible refine b_chainK ?_ | with_reducible refine b_andW ?_ | with_reducible refine b_orW ?_ | with_reducible refine b_eIfW ?_ | with_reducible refine s_ifW ?_ | with_reducible refine b_lcK ?_ | with_reducible refine b_sortScK ?_ | with_reducible refine b_dcK ?_ | with_reducible refine b_dcStepK ?_ | ((with_reducible apply b_pb); exact (rfl : _ = [_, _])) | ((with_reducible apply s_seqN); exact (rfl : _ = [_, _])) | ((with_reducible apply b_var_d); rfl) | ((with_reducible apply b_var_o); rfl) | ((with_reducible apply b_fzv); rfl) | ((with_reducible apply b_fzvA); rfl) | ((with_reducible apply s_asgV); rfl) | ((with_reducible apply s_asgs); rfl) | ((with_reducible apply s_asgsD); rfl; first | assumption | exact Fr.un | exact Fr.dat | exact Fr.own) | ((with_reducible apply s_asgsO); rfl; first | assumption | exact Fr.un | exact Fr.dat | exact Fr.own) | ((with_reducible apply s_asgF); rfl; first | assumption | exact Fr.un | exact Fr.dat | exact Fr.own) | ((with_reducible apply s_asgFO); rfl; first | assumption | exact Fr.un | exact Fr.dat | exact Fr.own) | ((with_reducible apply s_storeV); rfl) | ((with_reducible apply s_storeK); rfl) | ((with_reducible apply b_methL); rfl) | ((with_reducible apply b_methV); rfl) | ((with_reducible apply b_mkTup); rfl; exact Nat.le_of_ble_eq_true rfl) | ((with_reducible apply b_mkLst); rfl; exact Nat.le_of_ble_eq_true rfl) | ((with_reducible apply f_sl); rfl) | ((with_reducible apply f_sld); rfl) | ((with_reducible apply x_mul); rfl; rfl; (first | omega | decide)) | ((with_reducible apply x_mod); rfl; rfl; decide) | ((with_reducible apply x_div); rfl; rfl; (first | omega | decide)) | ((with_reducible apply b_opV); rfl; rfl; rfl) | ((with_reducible apply b_unV); rfl; rfl) | ((with_reducible apply b_callV); rfl; rfl) | ((with_reducible apply b_callFP); rfl; rfl) | ((with_reducible apply b_rng1); (first | omega | decide)) | ((with_reducible apply b_rng2); (first | omega | decide)) | ((with_reducible apply s_tupG); rfl; rfl) | ((with_reducible apply b_fzvA); rfl) | ((with_reducible apply b_seqO); rfl) | ((with_reducible apply b_selK); rfl) | ((with_reducible apply way_t); rfl) | ((with_reducible apply way_f); rfl)))
theorem checkv_wp {l : Log} {v : Int} {Q : Val → DEnv → Prop} {X : Ex → DEnv → Prop} (hl : l.length ≤ 400) (hv : v ∈ l.vals) (q : Q (.d .non) [.d l.d, .d (.int v)]) : (s_check_value [.d l.d, .d (.int v)]).wp Q X := by
  unfold s_check_value e_check_value
  refine f_fn rfl ?_
  repeat infer_instance
  refine values_wp hl ?_
  repeat infer_instance
  refine x_ninIT rfl rfl ?_
  repeat infer_instance
  refine way_f (by simpa using hv) ?_
  repeat infer_instance
  exact q
/-- the places at which a value stands -/
def Log.own (l : Log) (v : Int) : List Nat := (l.zipIdx.filter fun p => decide (p.1.v = v)).map (·.2)
theorem enumL_map {β : Type} {f : β → D} {bs : List β} : enumL (bs.map f) = bs.zipIdx.map fun p => .tup [.int (p.2 : Nat), f p.1] := by
  unfold enumL
  rw [List.zipIdx_map, List.map_map]
  rfl
theorem mem_zip {l : Log} {p : Op × Nat} (h : p ∈ l.zipIdx) : l[p.2]? = some p.1 := by
  have := List.mem_zipIdx_iff_getElem?.mp h
  exact this
theorem own_len (l : Log) (v : Int) : (l.own v).length ≤ l.length := by
  unfold Log.own
  rw [List.length_map]
  exact Nat.le_trans (List.length_filter_le _ _) (by rw [List.length_zipIdx]; exact Nat.le_refl _)
theorem mem_own {l : Log} {v : Int} {i : Nat} : i ∈ l.own v ↔ ∃ o, l[i]? = some o ∧ o.v = v := by
  unfold Log.own
  constructor
  · intro h
    obtain ⟨p, hp, rfl⟩ := List.mem_map.mp h
    obtain ⟨h1, h2⟩ := List.mem_filter.mp hp
    exact ⟨p.1, mem_zip h1, by simpa using h2⟩
  · rintro ⟨o, h1, h2⟩
    exact List.mem_map.mpr ⟨(o, i), List.mem_filter.mpr ⟨List.mem_zipIdx_iff_getElem?.mpr h1, by simpa using h2⟩, rfl⟩
def natsD (ns : List Nat) : List D := ns.map fun n => .int (n : Nat)
end
section
local macro_rules
  | `(tactic| infer_instance) => `(tactic| (first | with_reducible refine b_op ?_ | with_reducible refine b_cb ?_ | with_reducible refine b_un ?_ | with_reducible refine b_call ?_ | with_reducible refine b_cons ?_ | with_reducible refine b_nil ?_ | with_reducible refine b_C ?_ | with_reducible refine b_tup ?_ | with_reducible refine b_lst ?_ | with_reducible refine b_fz ?_ | with_reducible refine b_nsl ?_ | with_reducible refine b_nslD ?_ | with_reducible refine b_nslF ?_ | with_reducible refine b_nslS ?_ | with_reducible refine b_tst ?_ | with_reducible refine b_bT ?_ | with_reducible refine b_not ?_ | with_reducible refine b_ok ?_ | with_reducible refine b_rng ?_ | with_reducible refine b_iseq ?_ | with_reducible refine b_yes ?_ | with_reducible refine s_skip ?_ | with_reducible refine s_drop ?_ | with_reducible refine s_ret ?_ | with_reducible refine s_retN ?_ | with_reducible refine s_break ?_ | with_reducible refine s_cont ?_ | with_reducible refine s_asg ?_ | with_reducible refine s_par ?_ | with_reducible refine s_tgt ?_ | with_reducible refine s_for ?_ | with_reducible refine s_loop ?_ | with_reducible refine s_store ?_ | with_reducible refine s_asgsN ?_ | with_reducible refine f_d ?_ | with_reducible refine f_fr ?_ | with_reducible refine b_sl ?_ | with_reducible refine b_oNone ?_ | with_reducible refine b_oSome ?_ | with_reducible refine b_oV ?_ | with_reducible refine b_isN ?_ | with_reducible refine b_notN ?_ | with_reducible refine b_isnD ?_ | with_reducible refine b_notnD ?_ | with_reducible refine b_ienu ?_ | with_reducible refine b_newD ?_ | with_reducible refine b_iany ?_ | with_reducible refine b_seqT ?_ | with_reducible refine s_gsCons ?_ | with_reducible refine s_gsNil ?_ | with_reducible refine b_seqL ?_ | with_reducible refine b_seqF ?_ | with_reducible refine b_callK ?_ | with_reducible refine b_blK ?_ | with_reducible refine b_dtK ?_ | with_reducible refine b_intK ?_ | with_reducible refine b_eAndK ?_ | with_reducible refine b_eOrK ?_ | with_reducible refine b_eNotK ?_ | with_reducible refine b_chainK ?_ | with_reducible refine b_andW ?_ | with_reducible refine b_orW ?_ | with_reducible refine b_eIfW ?_ | with_reducible refine s_ifW ?_ | with_reducible refine b_lcK ?_ | with_reducible refine b_sortScK ?_ | with_reducible refine b_dcK ?_ | with_reducible refine b_dcStepK ?_ | ((with_reducible apply b_pb); exact (rfl : _ = [_, _, _, _])) | ((with_reducible apply s_seqN); exact (rfl : _ = [_, _, _, _])) | ((with_reducible apply b_var_d); rfl) | ((with_reducible apply b_var_o); rfl) | ((with_reducible apply b_fzv); rfl) | ((with_reducible apply b_fzvA); rfl) | ((with_reducible apply s_asgV); rfl) | ((with_reducible apply s_asgs); rfl) | ((with_reducible apply s_asgsD); rfl; first | assumption | exact Fr.un | exact Fr.dat | exact Fr.own) | ((with_reducible apply s_asgsO); rfl; first | assumption | exact Fr.un | exact Fr.dat | exact Fr.own) | ((with_reducible apply s_asgF); rfl; first | assumption | exact Fr.un | exact Fr.dat | exact Fr.own) | ((with_reducible apply s_asgFO); rfl; first | assumption | exact Fr.un | exact Fr.dat | exact Fr.own) | ((with_reducible apply s_storeV); rfl) | ((with_reducible apply s_storeK); rfl) | ((with_reducible apply b_methL); rfl) | ((with_reducible apply b_methV); rfl) | ((with_reducible apply b_mkTup); rfl; exact Nat.le_of_ble_eq_true rfl) | ((with_reducible apply b_mkLst); rfl; exact Nat.le_of_ble_eq_true rfl) | ((with_reducible apply f_sl); rfl) | ((with_reducible apply f_sld); rfl) | ((with_reducible apply x_mul); rfl; rfl; (first | omega | decide)) | ((with_reducible apply x_mod); rfl; rfl; decide) | ((with_reducible apply x_div); rfl; rfl; (first | omega | decide)) | ((with_reducible apply b_opV); rfl; rfl; rfl) | ((with_reducible apply b_unV); rfl; rfl) | ((with_reducible apply b_callV); rfl; rfl) | ((with_reducible apply b_callFP); rfl; rfl) | ((with_reducible apply b_rng1); (first | omega | decide)) | ((with_reducible apply b_rng2); (first | omega | decide)) | ((with_reducible apply s_tupG); rfl; rfl) | ((with_reducible apply b_fzvA); rfl) | ((with_reducible apply b_seqO); rfl) | ((with_reducible apply b_selK); rfl) | ((with_reducible apply way_t); rfl) | ((with_reducible apply way_f); rfl)))
theorem ops_wp {l : Log} {v : Int} {Q : Val → DEnv → Prop} {X : Ex → DEnv → Prop} (hl : l.length ≤ 400) (hv : v ∈ l.vals) (q : Q (.d (.tup (natsD (l.own v)))) [.d l.d, .d (.int v)]) : (s_operations_of [.d l.d, .d (.int v)]).wp Q X := by
  unfold s_operations_of e_operations_of
  refine f_fn rfl ?_
  repeat infer_instance
  refine checkv_wp hl hv ?_
  repeat infer_instance
  unfold c1_operations_of Log.d
  repeat infer_instance
  refine b_compK rfl (by rw [enumL_len, List.length_map]; omega) ?_
  rw [enumL_map]
  refine comp_map (ρ := [.d (.tup (l.map Op.d)), .d (.int v), .un, .un]) (fun p : Op × Nat => decide (p.1.v = v)) (fun p => .int (p.2 : Nat)) (fun p hp => ?_) ?_
  · obtain ⟨⟨ow, ov, ob, oe⟩, i⟩ := p
    repeat infer_instance
    refine ⟨rfl, fun _ => rfl, fun _ => ?_⟩
    repeat infer_instance
    exact ⟨rfl, rfl⟩
  · repeat infer_instance
    have e : (l.zipIdx.filter fun p => decide (p.1.v = v)).map (fun p => D.int (p.2 : Nat)) = natsD (l.own v) := by unfold natsD Log.own; rw [List.map_map]; rfl
    rw [e]
    exact q
/-- the write of a value -/
def Log.wat (l : Log) (v : Int) : List Nat := (l.own v).filter fun i => (l[i]?.map (·.w)) = some true
theorem natsD_len {ns : List Nat} : (natsD ns).length = ns.length := by unfold natsD; rw [List.length_map]
theorem x_idxLog {ρ : DEnv} {x y : Val} {Q : Val → DEnv → Prop} {X : Ex → DEnv → Prop} {l : Log} {i : Nat} {o : Op} (h1 : x.peek ρ = some l.d) (h2 : y.peek ρ = some (.int (i : Nat))) (e : l[i]? = some o) (q : Q (.d o.d) ρ) : (opV idxD x y ρ).wp Q X := by
  refine x_idxT (xs := l.map Op.d) h1 h2 ?_ q
  have hl := (List.getElem?_eq_some_iff.mp e).1
  unfold atI ixN
  rw [if_pos (by omega), if_pos (by rw [List.length_map]; omega)]
  show (l.map Op.d)[((i : Nat) : Int).toNat]? = _
  rw [Int.toNat_natCast, List.getElem?_map, e]
  rfl
theorem atI0 {α : Type} {d : α} {ds : List α} : atI (d :: ds) 0 = some d := by
  obtain ⟨x, h1, h2⟩ := atI_of (xs := d :: ds) (i := 0) (by decide) (by rw [List.length_cons]; omega)
  rw [h1]
  exact h2.symm
theorem x_neNil {ρ : DEnv} {x y : Val} {Q : Val → DEnv → Prop} {X : Ex → DEnv → Prop} {ds : List D} {k n : Nat} (h1 : x.peek ρ = some (.lst ds)) (h2 : y.peek ρ = some (.lst [])) (hg : Gd k n (.lst ds)) (hk : k ≤ 60) (q : Q (.d (.bl !ds.isEmpty)) ρ) : (opV neV' x y ρ).wp Q X := by
  refine x_ne h1 h2 (eqD_good hg.good rfl (Nat.le_trans hg.dep (by omega)) (by decide)) ?_
  rw [eqG_nil (by simpa [D.good] using hg.good)]
  exact q
theorem x_eqNil {ρ : DEnv} {x y : Val} {Q : Val → DEnv → Prop} {X : Ex → DEnv → Prop} {ds : List D} {k n : Nat} (h1 : x.peek ρ = some (.lst ds)) (h2 : y.peek ρ = some (.lst [])) (hg : Gd k n (.lst ds)) (hk : k ≤ 60) (q : Q (.d (.bl ds.isEmpty)) ρ) : (opV eqV' x y ρ).wp Q X := by
  refine x_eq h1 h2 (eqD_good hg.good rfl (Nat.le_trans hg.dep (by omega)) (by decide)) ?_
  rw [eqG_nil (by simpa [D.good] using hg.good)]
  exact q
theorem x_neNilT {ρ : DEnv} {x y : Val} {Q : Val → DEnv → Prop} {X : Ex → DEnv → Prop} {ds : List D} {k n : Nat} (h1 : x.peek ρ = some (.tup ds)) (h2 : y.peek ρ = some (.tup [])) (hg : Gd k n (.tup ds)) (hk : k ≤ 60) (q : Q (.d (.bl !ds.isEmpty)) ρ) : (opV neV' x y ρ).wp Q X := by
  refine x_ne h1 h2 (eqD_good hg.good rfl (Nat.le_trans hg.dep (by omega)) (by decide)) ?_
  rw [eqG_nilT (by simpa [D.good] using hg.good)]
  exact q
theorem x_eqNilT {ρ : DEnv} {x y : Val} {Q : Val → DEnv → Prop} {X : Ex → DEnv → Prop} {ds : List D} {k n : Nat} (h1 : x.peek ρ = some (.tup ds)) (h2 : y.peek ρ = some (.tup [])) (hg : Gd k n (.tup ds)) (hk : k ≤ 60) (q : Q (.d (.bl ds.isEmpty)) ρ) : (opV eqV' x y ρ).wp Q X := by
  refine x_eq h1 h2 (eqD_good hg.good rfl (Nat.le_trans hg.dep (by omega)) (by decide)) ?_
  rw [eqG_nilT (by simpa [D.good] using hg.good)]
  exact q
theorem nats_gd {ns : List Nat} (hl : ns.length ≤ 900) (h : ∀ i ∈ ns, i ≤ 100000) : Gd 1 901 (.lst (natsD ns)) := by
  have := small_gd (ns := ns.map fun i : Nat => (i : Int)) (fun n hn => by
    obtain ⟨i, hi, rfl⟩ := List.mem_map.mp hn
    have := h i hi
    rw [big200]; omega) (by rw [List.length_map]; exact hl)
  rw [List.map_map] at this
  exact this
/-- the first one, None if there is none -/
def firstD : List Nat → D
  | [] => .non
  | i :: _ => .int (i : Nat)
theorem write_wp {l : Log} {v : Int} {Q : Val → DEnv → Prop} {X : Ex → DEnv → Prop} (hl : l.length ≤ 400) (hv : v ∈ l.vals) (q : Q (.d (firstD (l.wat v))) [.d l.d, .d (.int v)]) : (s_write_of [.d l.d, .d (.int v)]).wp Q X := by
  unfold s_write_of e_write_of
  refine f_fn rfl ?_
  repeat infer_instance
  unfold c1_write_of
  repeat infer_instance
  refine ops_wp hl hv ?_
  repeat infer_instance
  have hol := own_len l v
  refine b_compK rfl (by rw [natsD_len]; omega) ?_
  unfold natsD
  refine comp_map (ρ := [.d l.d, .d (.int v), .un, .un]) (fun i : Nat => decide ((l[i]?.map (·.w)) = some true)) (fun i => .int (i : Nat)) (fun i hi => ?_) ?_
  · obtain ⟨⟨ow, ov, ob, oe⟩, h1, h2⟩ := mem_own.mp hi
    repeat infer_instance
    refine x_idxLog rfl rfl h1 ?_
    repeat infer_instance
    refine ⟨by rw [h1]; cases ow <;> rfl, fun _ => rfl, fun _ => ?_⟩
    repeat infer_instance
    exact ⟨rfl, rfl⟩
  · have e : ((l.own v).filter fun i => decide ((l[i]?.map (·.w)) = some true)).map (fun i => D.int (i : Nat)) = natsD (l.wat v) := rfl
    rw [e]
    repeat infer_instance
    have hg : Gd 1 901 (.lst (natsD (l.wat v))) := nats_gd (by have := List.length_filter_le (fun i => decide ((l[i]?.map (·.w)) = some true)) (l.own v); unfold Log.wat; omega) fun i hi => by
      obtain ⟨o, h1, _⟩ := mem_own.mp (List.mem_filter.mp hi).1
      have := (List.getElem?_eq_some_iff.mp h1).1
      omega
    refine x_neNil rfl rfl hg (by decide) ?_
    cases hw : l.wat v with
    | nil =>
      rw [hw] at q
      refine way_f rfl ?_
      repeat infer_instance
      exact q
    | cons i is =>
      rw [hw] at q
      refine way_t rfl ?_
      repeat infer_instance
      refine x_idx (xs := natsD (i :: is)) rfl rfl atI0 ?_
      repeat infer_instance
      exact q
end
section
local macro_rules
  | `(tactic| infer_instance) => `(tactic| (first | with_reducible refine b_op ?_ | with_reducible refine b_cb ?_ | with_reducible refine b_un ?_ | with_reducible refine b_call ?_ | with_reducible refine b_cons ?_ | with_reducible refine b_nil ?_ | with_reducible refine b_C ?_ | with_reducible refine b_tup ?_ | with_reducible refine b_lst ?_ | with_reducible refine b_fz ?_ | with_reducible refine b_nsl ?_ | with_reducible refine b_nslD ?_ | with_reducible refine b_nslF ?_ | with_reducible refine b_nslS ?_ | with_reducible refine b_tst ?_ | with_reducible refine b_bT ?_ | with_reducible refine b_not ?_ | with_reducible refine b_ok ?_ | with_reducible refine b_rng ?_ | with_reducible refine b_iseq ?_ | with_reducible refine b_yes ?_ | with_reducible refine s_skip ?_ | with_reducible refine s_drop ?_ | with_reducible refine s_ret ?_ | with_reducible refine s_retN ?_ | with_reducible refine s_break ?_ | with_reducible refine s_cont ?_ | with_reducible refine s_asg ?_ | with_reducible refine s_par ?_ | with_reducible refine s_tgt ?_ | with_reducible refine s_for ?_ | with_reducible refine s_loop ?_ | with_reducible refine s_store ?_ | with_reducible refine s_asgsN ?_ | with_reducible refine f_d ?_ | with_reducible refine f_fr ?_ | with_reducible refine b_sl ?_ | with_reducible refine b_oNone ?_ | with_reducible refine b_oSome ?_ | with_reducible refine b_oV ?_ | with_reducible refine b_isN ?_ | with_reducible refine b_notN ?_ | with_reducible refine b_isnD ?_ | with_reducible refine b_notnD ?_ | with_reducible refine b_ienu ?_ | with_reducible refine b_newD ?_ | with_reducible refine b_iany ?_ | with_reducible refine b_seqT ?_ | with_reducible refine s_gsCons ?_ | with_reducible refine s_gsNil ?_ | with_reducible refine b_seqL ?_ | with_reducible refine b_seqF ?_ | with_reducible refine b_callK ?_ | with_reducible refine b_blK ?_ | with_reducible refine b_dtK ?_ | with_reducible refine b_intK ?_ | with_reducible refine b_eAndK ?_ | with_reducible refine b_eOrK ?_ | with_reducible refine b_eNotK ?_ | with_reducible refine b_chainK ?_ | with_reducible refine b_andW ?_ | with_reducible refine b_orW ?_ | with_reducible refine b_eIfW ?_ | with_reducible refine s_ifW ?_ | with_reducible refine b_lcK ?_ | with_reducible refine b_sortScK ?_ | with_reducible refine b_dcK ?_ | with_reducible refine b_dcStepK ?_ | ((with_reducible apply b_pb); exact (rfl : _ = [_, _])) | ((with_reducible apply s_seqN); exact (rfl : _ = [_, _])) | ((with_reducible apply b_var_d); rfl) | ((with_reducible apply b_var_o); rfl) | ((with_reducible apply b_fzv); rfl) | ((with_reducible apply b_fzvA); rfl) | ((with_reducible apply s_asgV); rfl) | ((with_reducible apply s_asgs); rfl) | ((with_reducible apply s_asgsD); rfl; first | assumption | exact Fr.un | exact Fr.dat | exact Fr.own) | ((with_reducible apply s_asgsO); rfl; first | assumption | exact Fr.un | exact Fr.dat | exact Fr.own) | ((with_reducible apply s_asgF); rfl; first | assumption | exact Fr.un | exact Fr.dat | exact Fr.own) | ((with_reducible apply s_asgFO); rfl; first | assumption | exact Fr.un | exact Fr.dat | exact Fr.own) | ((with_reducible apply s_storeV); rfl) | ((with_reducible apply s_storeK); rfl) | ((with_reducible apply b_methL); rfl) | ((with_reducible apply b_methV); rfl) | ((with_reducible apply b_mkTup); rfl; exact Nat.le_of_ble_eq_true rfl) | ((with_reducible apply b_mkLst); rfl; exact Nat.le_of_ble_eq_true rfl) | ((with_reducible apply f_sl); rfl) | ((with_reducible apply f_sld); rfl) | ((with_reducible apply x_mul); rfl; rfl; (first | omega | decide)) | ((with_reducible apply x_mod); rfl; rfl; decide) | ((with_reducible apply x_div); rfl; rfl; (first | omega | decide)) | ((with_reducible apply b_opV); rfl; rfl; rfl) | ((with_reducible apply b_unV); rfl; rfl) | ((with_reducible apply b_callV); rfl; rfl) | ((with_reducible apply b_callFP); rfl; rfl) | ((with_reducible apply b_rng1); (first | omega | decide)) | ((with_reducible apply b_rng2); (first | omega | decide)) | ((with_reducible apply s_tupG); rfl; rfl) | ((with_reducible apply b_fzvA); rfl) | ((with_reducible apply b_seqO); rfl) | ((with_reducible apply b_selK); rfl) | ((with_reducible apply way_t); rfl) | ((with_reducible apply way_f); rfl)))
theorem firstE_wp {l : Log} {v : Int} {Q : Val → DEnv → Prop} {X : Ex → DEnv → Prop} (hl : l.length ≤ 400) (hv : v ∈ l.vals) (q : Q (.d (if v = 0 then .non else .int (l.fe v))) [.d l.d, .d (.int v)]) : (s_first_end [.d l.d, .d (.int v)]).wp Q X := by
  unfold s_first_end e_first_end
  refine f_fn rfl ?_
  repeat infer_instance
  refine checkv_wp hl hv ?_
  repeat infer_instance
  by_cases h0 : v = 0
  · rw [if_pos h0] at q
    refine way_f (by show (!decide (v = 0)) = false; simp [h0]) ?_
    repeat infer_instance
    exact q
  · rw [if_neg h0] at q
    refine way_t (by show (!decide (v = 0)) = true; simp [h0]) ?_
    repeat infer_instance
    refine ends_wp hl ?_
    repeat infer_instance
    refine x_idxD (g := fun v => .tup [.int (l.fe v), .int (l.lb v)]) rfl rfl hv ?_
    repeat infer_instance
    exact q
theorem lastB_wp {l : Log} {v : Int} {Q : Val → DEnv → Prop} {X : Ex → DEnv → Prop} (hl : l.length ≤ 400) (hv : v ∈ l.vals) (q : Q (.d (.int (l.lb v))) [.d l.d, .d (.int v)]) : (s_last_begin [.d l.d, .d (.int v)]).wp Q X := by
  unfold s_last_begin e_last_begin
  refine f_fn rfl ?_
  repeat infer_instance
  refine checkv_wp hl hv ?_
  repeat infer_instance
  refine ends_wp hl ?_
  repeat infer_instance
  refine x_idxD (g := fun v => .tup [.int (l.fe v), .int (l.lb v)]) rfl rfl hv ?_
  repeat infer_instance
  exact q
/-- one value is before another one -/
def Log.bef (l : Log) (t a b : Int) : Bool := decide (a ≠ b) && decide (l.fe a + t < l.lb b)
end
section
local macro_rules
  | `(tactic| infer_instance) => `(tactic| (first | with_reducible refine b_op ?_ | with_reducible refine b_cb ?_ | with_reducible refine b_un ?_ | with_reducible refine b_call ?_ | with_reducible refine b_cons ?_ | with_reducible refine b_nil ?_ | with_reducible refine b_C ?_ | with_reducible refine b_tup ?_ | with_reducible refine b_lst ?_ | with_reducible refine b_fz ?_ | with_reducible refine b_nsl ?_ | with_reducible refine b_nslD ?_ | with_reducible refine b_nslF ?_ | with_reducible refine b_nslS ?_ | with_reducible refine b_tst ?_ | with_reducible refine b_bT ?_ | with_reducible refine b_not ?_ | with_reducible refine b_ok ?_ | with_reducible refine b_rng ?_ | with_reducible refine b_iseq ?_ | with_reducible refine b_yes ?_ | with_reducible refine s_skip ?_ | with_reducible refine s_drop ?_ | with_reducible refine s_ret ?_ | with_reducible refine s_retN ?_ | with_reducible refine s_break ?_ | with_reducible refine s_cont ?_ | with_reducible refine s_asg ?_ | with_reducible refine s_par ?_ | with_reducible refine s_tgt ?_ | with_reducible refine s_for ?_ | with_reducible refine s_loop ?_ | with_reducible refine s_store ?_ | with_reducible refine s_asgsN ?_ | with_reducible refine f_d ?_ | with_reducible refine f_fr ?_ | with_reducible refine b_sl ?_ | with_reducible refine b_oNone ?_ | with_reducible refine b_oSome ?_ | with_reducible refine b_oV ?_ | with_reducible refine b_isN ?_ | with_reducible refine b_notN ?_ | with_reducible refine b_isnD ?_ | with_reducible refine b_notnD ?_ | with_reducible refine b_ienu ?_ | with_reducible refine b_newD ?_ | with_reducible refine b_iany ?_ | with_reducible refine b_seqT ?_ | with_reducible refine s_gsCons ?_ | with_reducible refine s_gsNil ?_ | with_reducible refine b_seqL ?_ | with_reducible refine b_seqF ?_ | with_reducible refine b_callK ?_ | with_reducible refine b_blK ?_ | with_reducible refine b_dtK ?_ | with_reducible refine b_intK ?_ | with_reducible refine b_eAndK ?_ | with_reducible refine b_eOrK ?_ | with_reducible refine b_eNotK ?_ | with_reducible refine b_chainK ?_ | with_reducible refine b_andW ?_ | with_reducible refine b_orW ?_ | with_reducible refine b_eIfW ?_ | with_reducible refine s_ifW ?_ | with_reducible refine b_lcK ?_ | with_reducible refine b_sortScK ?_ | with_reducible refine b_dcK ?_ | with_reducible refine b_dcStepK ?_ | ((with_reducible apply b_pb); exact (rfl : _ = [_, _, _, _])) | ((with_reducible apply s_seqN); exact (rfl : _ = [_, _, _, _])) | ((with_reducible apply b_var_d); rfl) | ((with_reducible apply b_var_o); rfl) | ((with_reducible apply b_fzv); rfl) | ((with_reducible apply b_fzvA); rfl) | ((with_reducible apply s_asgV); rfl) | ((with_reducible apply s_asgs); rfl) | ((with_reducible apply s_asgsD); rfl; first | assumption | exact Fr.un | exact Fr.dat | exact Fr.own) | ((with_reducible apply s_asgsO); rfl; first | assumption | exact Fr.un | exact Fr.dat | exact Fr.own) | ((with_reducible apply s_asgF); rfl; first | assumption | exact Fr.un | exact Fr.dat | exact Fr.own) | ((with_reducible apply s_asgFO); rfl; first | assumption | exact Fr.un | exact Fr.dat | exact Fr.own) | ((with_reducible apply s_storeV); rfl) | ((with_reducible apply s_storeK); rfl) | ((with_reducible apply b_methL); rfl) | ((with_reducible apply b_methV); rfl) | ((with_reducible apply b_mkTup); rfl; exact Nat.le_of_ble_eq_true rfl) | ((with_reducible apply b_mkLst); rfl; exact Nat.le_of_ble_eq_true rfl) | ((with_reducible apply f_sl); rfl) | ((with_reducible apply f_sld); rfl) | ((with_reducible apply x_mul); rfl; rfl; (first | omega | decide)) | ((with_reducible apply x_mod); rfl; rfl; decide) | ((with_reducible apply x_div); rfl; rfl; (first | omega | decide)) | ((with_reducible apply b_opV); rfl; rfl; rfl) | ((with_reducible apply b_unV); rfl; rfl) | ((with_reducible apply b_callV); rfl; rfl) | ((with_reducible apply b_callFP); rfl; rfl) | ((with_reducible apply b_rng1); (first | omega | decide)) | ((with_reducible apply b_rng2); (first | omega | decide)) | ((with_reducible apply s_tupG); rfl; rfl) | ((with_reducible apply b_fzvA); rfl) | ((with_reducible apply b_seqO); rfl) | ((with_reducible apply b_selK); rfl) | ((with_reducible apply way_t); rfl) | ((with_reducible apply way_f); rfl)))
theorem earlier_wp {l : Log} {s : DL.Slot} {t a b : Int} {Q : Val → DEnv → Prop} {X : Ex → DEnv → Prop} (hs : s = .d l.ends ∨ s = .ow (.dic (ikeys l.vals) (l.vals.map fun v => .tup [.int (l.fe v), .int (l.lb v)])) .bor ∨ s = .ow (.dic (ikeys l.vals) (l.vals.map fun v => .tup [.int (l.fe v), .int (l.lb v)])) .own) (ha : a ∈ l.vals) (hb : b ∈ l.vals)
    (q : Q (.d (.bl (l.bef t a b))) [backSlot s (some s), .d (.int t), .d (.int a), .d (.int b)]) : (s_is_earlier [s, .d (.int t), .d (.int a), .d (.int b)]).wp Q X := by
  rcases hs with rfl | rfl | rfl
  all_goals
    unfold s_is_earlier e_is_earlier
    try unfold Log.ends
    refine f_fn rfl ?_
    repeat infer_instance
    by_cases h0 : a = b
    · refine way_f (by show (!decide (a = b)) = false; simp [h0]) ?_
      repeat infer_instance
      have e : l.bef t a b = false := by unfold Log.bef; simp [h0]
      rw [e] at q
      exact q
    · refine way_t (by show (!decide (a = b)) = true; simp [h0]) ?_
      repeat infer_instance
      refine x_idxD (v := a) (ks := l.vals) (g := fun v => .tup [.int (l.fe v), .int (l.lb v)]) rfl rfl ha ?_
      repeat infer_instance
      refine x_idxD (v := b) (ks := l.vals) (g := fun v => .tup [.int (l.fe v), .int (l.lb v)]) rfl rfl hb ?_
      repeat infer_instance
      have e : l.bef t a b = decide (l.fe a + t < l.lb b) := by unfold Log.bef; simp [h0]
      rw [e] at q
      exact q
theorem before_wp {l : Log} {t a b : Int} {Q : Val → DEnv → Prop} {X : Ex → DEnv → Prop} (hl : l.length ≤ 400) (ha : a ∈ l.vals) (hb : b ∈ l.vals) (q : Q (.d (.bl (l.bef t a b))) [.d l.d, .d (.int t), .d (.int a), .d (.int b)]) :
    (s_is_before [.d l.d, .d (.int t), .d (.int a), .d (.int b)]).wp Q X := by
  unfold s_is_before e_is_before
  refine f_fn rfl ?_
  repeat infer_instance
  refine checkv_wp hl ha ?_
  repeat infer_instance
  refine checkv_wp hl hb ?_
  repeat infer_instance
  refine ends_wp hl ?_
  repeat infer_instance
  refine earlier_wp (.inr (.inr rfl)) ha hb ?_
  repeat infer_instance
  exact q
end
end CM
set_option maxHeartbeats 1000000
namespace CM
open PySem PySem.Spec PyProof.Rows L2 DL
section
local macro_rules
  | `(tactic| infer_instance) => `(tactic| (first | with_reducible refine b_op ?_ | with_reducible refine b_cb ?_ | with_reducible refine b_un ?_ | with_reducible refine b_call ?_ | with_reducible refine b_cons ?_ | with_reducible refine b_nil ?_ | with_reducible refine b_C ?_ | with_reducible refine b_tup ?_ | with_reducible refine b_lst ?_ | with_reducible refine b_fz ?_ | with_reducible refine b_nsl ?_ | with_reducible refine b_nslD ?_ | with_reducible refine b_nslF ?_ | with_reducible refine b_nslS ?_ | with_reducible refine b_tst ?_ | with_reducible refine b_bT ?_ | with_reducible refine b_not ?_ | with_reducible refine b_ok ?_ | with_reducible refine b_rng ?_ | with_reducible refine b_iseq ?_ | with_reducible refine b_yes ?_ | with_reducible refine s_skip ?_ | with_reducible refine s_drop ?_ | with_reducible refine s_ret ?_ | with_reducible refine s_retN ?_ | with_reducible refine s_break ?_ | with_reducible refine s_cont ?_ | with_reducible refine s_asg ?_ | with_reducible refine s_par ?_ | with_reducible refine s_tgt ?_ | with_reducible refine s_for ?_ | with_reducible refine s_loop ?_ | with_reducible refine s_store ?_ | with_reducible refine s_asgsN ?_ | with_reducible refine f_d ?_ | with_reducible refine f_fr ?_ | with_reducible refine b_sl ?_ | with_reducible refine b_oNone ?_ | with_reducible refine b_oSome ?_ | with_reducible refine b_oV ?_ | with_reducible refine b_isN ?_ | with_reducible refine b_notN ?_ | with_reducible refine b_isnD ?_ | with_reducible refine b_notnD ?_ | with_reducible refine b_ienu ?_ | with_reducible refine b_newD ?_ | with_reducible refine b_iany ?_ | with_reducible refine b_seqT ?_ | with_reducible refine s_gsCons ?_ | with_reducible refine s_gsNil ?_ | with_reducible refine b_seqL ?_ | with_reducible refine b_seqF ?_ | with_reducible refine b_callK ?_ | with_reducible refine b_blK ?_ | with_reducible refine b_dtK ?_ | with_reducible refine b_intK ?_ | with_reducible refine b_eAndK ?_ | with_reducible refine b_eOrK ?_ | with_reducible refine b_eNotK ?_ | with_reducible refine b_chainK ?_ | with_reducible refine b_andW ?_ | with_reducible refine b_orW ?_ | with_reducible refine b_eIfW ?_ | with_reducible refine s_ifW ?_ | with_reducible refine b_lcK ?_ | with_reducible refine b_sortScK ?_ | with_reducible refine b_dcK ?_ | with_reducible refine b_dcStepK ?_ | ((with_reducible apply b_pb); exact (rfl : _ = [_, _, _])) | ((with_reducible apply s_seqN); exact (rfl : _ = [_, _, _])) | ((with_reducible apply b_var_d); rfl) | ((with_reducible apply b_var_o); rfl) | ((with_reducible apply b_fzv); rfl) | ((with_reducible apply b_fzvA); rfl) | ((with_reducible apply s_asgV); rfl) | ((with_reducible apply s_asgs); rfl) | ((with_reducible apply s_asgsD); rfl; first | assumption | exact Fr.un | exact Fr.dat | exact Fr.own) | ((with_reducible apply s_asgsO); rfl; first | assumption | exact Fr.un | exact Fr.dat | exact Fr.own) | ((with_reducible apply s_asgF); rfl; first | assumption | exact Fr.un | exact Fr.dat | exact Fr.own) | ((with_reducible apply s_asgFO); rfl; first | assumption | exact Fr.un | exact Fr.dat | exact Fr.own) | ((with_reducible apply s_storeV); rfl) | ((with_reducible apply s_storeK); rfl) | ((with_reducible apply b_methL); rfl) | ((with_reducible apply b_methV); rfl) | ((with_reducible apply b_mkTup); rfl; exact Nat.le_of_ble_eq_true rfl) | ((with_reducible apply b_mkLst); rfl; exact Nat.le_of_ble_eq_true rfl) | ((with_reducible apply f_sl); rfl) | ((with_reducible apply f_sld); rfl) | ((with_reducible apply x_mul); rfl; rfl; (first | omega | decide)) | ((with_reducible apply x_mod); rfl; rfl; decide) | ((with_reducible apply x_div); rfl; rfl; (first | omega | decide)) | ((with_reducible apply b_opV); rfl; rfl; rfl) | ((with_reducible apply b_unV); rfl; rfl) | ((with_reducible apply b_callV); rfl; rfl) | ((with_reducible apply b_callFP); rfl; rfl) | ((with_reducible apply b_rng1); (first | omega | decide)) | ((with_reducible apply b_rng2); (first | omega | decide)) | ((with_reducible apply s_tupG); rfl; rfl) | ((with_reducible apply b_fzvA); rfl) | ((with_reducible apply b_seqO); rfl) | ((with_reducible apply b_selK); rfl) | ((with_reducible apply way_t); rfl) | ((with_reducible apply way_f); rfl)))
theorem isint_wp {i a b : Int} {Q : Val → DEnv → Prop} {X : Ex → DEnv → Prop} (q : Q (.d (.bl (decide (a ≤ i) && decide (i ≤ b)))) [.d (.int i), .d (.int a), .d (.int b)]) : (s_is_integer [.d (.int i), .d (.int a), .d (.int b)]).wp Q X := by
  unfold s_is_integer e_is_integer
  refine f_fn rfl ?_
  repeat infer_instance
  by_cases h : a ≤ i
  · refine way_t (by simpa using h) ?_
    repeat infer_instance
    rw [show (decide (a ≤ i) && decide (i ≤ b)) = decide (i ≤ b) by simp [h]] at q
    exact q
  · refine way_f (by simpa using h) ?_
    repeat infer_instance
    rw [show (decide (a ≤ i) && decide (i ≤ b)) = false by simp [h]] at q
    exact q
end
section
local macro_rules
  | `(tactic| infer_instance) => `(tactic| (first | with_reducible refine b_op ?_ | with_reducible refine b_cb ?_ | with_reducible refine b_un ?_ | with_reducible refine b_call ?_ | with_reducible refine b_cons ?_ | with_reducible refine b_nil ?_ | with_reducible refine b_C ?_ | with_reducible refine b_tup ?_ | with_reducible refine b_lst ?_ | with_reducible refine b_fz ?_ | with_reducible refine b_nsl ?_ | with_reducible refine b_nslD ?_ | with_reducible refine b_nslF ?_ | with_reducible refine b_nslS ?_ | with_reducible refine b_tst ?_ | with_reducible refine b_bT ?_ | with_reducible refine b_not ?_ | with_reducible refine b_ok ?_ | with_reducible refine b_rng ?_ | with_reducible refine b_iseq ?_ | with_reducible refine b_yes ?_ | with_reducible refine s_skip ?_ | with_reducible refine s_drop ?_ | with_reducible refine s_ret ?_ | with_reducible refine s_retN ?_ | with_reducible refine s_break ?_ | with_reducible refine s_cont ?_ | with_reducible refine s_asg ?_ | with_reducible refine s_par ?_ | with_reducible refine s_tgt ?_ | with_reducible refine s_for ?_ | with_reducible refine s_loop ?_ | with_reducible refine s_store ?_ | with_reducible refine s_asgsN ?_ | with_reducible refine f_d ?_ | with_reducible refine f_fr ?_ | with_reducible refine b_sl ?_ | with_reducible refine b_oNone ?_ | with_reducible refine b_oSome ?_ | with_reducible refine b_oV ?_ | with_reducible refine b_isN ?_ | with_reducible refine b_notN ?_ | with_reducible refine b_isnD ?_ | with_reducible refine b_notnD ?_ | with_reducible refine b_ienu ?_ | with_reducible refine b_newD ?_ | with_reducible refine b_iany ?_ | with_reducible refine b_seqT ?_ | with_reducible refine s_gsCons ?_ | with_reducible refine s_gsNil ?_ | with_reducible refine b_seqL ?_ | with_reducible refine b_seqF ?_ | with_reducible refine b_callK ?_ | with_reducible refine b_blK ?_ | with_reducible refine b_dtK ?_ | with_reducible refine b_intK ?_ | with_reducible refine b_eAndK ?_ | with_reducible refine b_eOrK ?_ | with_reducible refine b_eNotK ?_ | with_reducible refine b_chainK ?_ | with_reducible refine b_andW ?_ | with_reducible refine b_orW ?_ | with_reducible refine b_eIfW ?_ | with_reducible refine s_ifW ?_ | with_reducible refine b_lcK ?_ | with_reducible refine b_sortScK ?_ | with_reducible refine b_dcK ?_ | with_reducible refine b_dcStepK ?_ | ((with_reducible apply b_pb); exact (rfl : _ = [_, _])) | ((with_reducible apply s_seqN); exact (rfl : _ = [_, _])) | ((with_reducible apply b_var_d); rfl) | ((with_reducible apply b_var_o); rfl) | ((with_reducible apply b_fzv); rfl) | ((with_reducible apply b_fzvA); rfl) | ((with_reducible apply s_asgV); rfl) | ((with_reducible apply s_asgs); rfl) | ((with_reducible apply s_asgsD); rfl; first | assumption | exact Fr.un | exact Fr.dat | exact Fr.own) | ((with_reducible apply s_asgsO); rfl; first | assumption | exact Fr.un | exact Fr.dat | exact Fr.own) | ((with_reducible apply s_asgF); rfl; first | assumption | exact Fr.un | exact Fr.dat | exact Fr.own) | ((with_reducible apply s_asgFO); rfl; first | assumption | exact Fr.un | exact Fr.dat | exact Fr.own) | ((with_reducible apply s_storeV); rfl) | ((with_reducible apply s_storeK); rfl) | ((with_reducible apply b_methL); rfl) | ((with_reducible apply b_methV); rfl) | ((with_reducible apply b_mkTup); rfl; exact Nat.le_of_ble_eq_true rfl) | ((with_reducible apply b_mkLst); rfl; exact Nat.le_of_ble_eq_true rfl) | ((with_reducible apply f_sl); rfl) | ((with_reducible apply f_sld); rfl) | ((with_reducible apply x_mul); rfl; rfl; (first | omega | decide)) | ((with_reducible apply x_mod); rfl; rfl; decide) | ((with_reducible apply x_div); rfl; rfl; (first | omega | decide)) | ((with_reducible apply b_opV); rfl; rfl; rfl) | ((with_reducible apply b_unV); rfl; rfl) | ((with_reducible apply b_callV); rfl; rfl) | ((with_reducible apply b_callFP); rfl; rfl) | ((with_reducible apply b_rng1); (first | omega | decide)) | ((with_reducible apply b_rng2); (first | omega | decide)) | ((with_reducible apply s_tupG); rfl; rfl) | ((with_reducible apply b_fzvA); rfl) | ((with_reducible apply b_seqO); rfl) | ((with_reducible apply b_selK); rfl) | ((with_reducible apply way_t); rfl) | ((with_reducible apply way_f); rfl)))
theorem checki_wp {l : Log} {i : Nat} {Q : Val → DEnv → Prop} {X : Ex → DEnv → Prop} (hi : i < l.length) (q : Q (.d .non) [.d l.d, .d (.int (i : Nat))]) : (s_check_index [.d l.d, .d (.int (i : Nat))]).wp Q X := by
  unfold s_check_index e_check_index Log.d
  refine f_fn rfl ?_
  repeat infer_instance
  refine isint_wp ?_
  repeat infer_instance
  refine way_f (by simp; omega) ?_
  repeat infer_instance
  exact q
end
section
local macro_rules
  | `(tactic| infer_instance) => `(tactic| (first | with_reducible refine b_op ?_ | with_reducible refine b_cb ?_ | with_reducible refine b_un ?_ | with_reducible refine b_call ?_ | with_reducible refine b_cons ?_ | with_reducible refine b_nil ?_ | with_reducible refine b_C ?_ | with_reducible refine b_tup ?_ | with_reducible refine b_lst ?_ | with_reducible refine b_fz ?_ | with_reducible refine b_nsl ?_ | with_reducible refine b_nslD ?_ | with_reducible refine b_nslF ?_ | with_reducible refine b_nslS ?_ | with_reducible refine b_tst ?_ | with_reducible refine b_bT ?_ | with_reducible refine b_not ?_ | with_reducible refine b_ok ?_ | with_reducible refine b_rng ?_ | with_reducible refine b_iseq ?_ | with_reducible refine b_yes ?_ | with_reducible refine s_skip ?_ | with_reducible refine s_drop ?_ | with_reducible refine s_ret ?_ | with_reducible refine s_retN ?_ | with_reducible refine s_break ?_ | with_reducible refine s_cont ?_ | with_reducible refine s_asg ?_ | with_reducible refine s_par ?_ | with_reducible refine s_tgt ?_ | with_reducible refine s_for ?_ | with_reducible refine s_loop ?_ | with_reducible refine s_store ?_ | with_reducible refine s_asgsN ?_ | with_reducible refine f_d ?_ | with_reducible refine f_fr ?_ | with_reducible refine b_sl ?_ | with_reducible refine b_oNone ?_ | with_reducible refine b_oSome ?_ | with_reducible refine b_oV ?_ | with_reducible refine b_isN ?_ | with_reducible refine b_notN ?_ | with_reducible refine b_isnD ?_ | with_reducible refine b_notnD ?_ | with_reducible refine b_ienu ?_ | with_reducible refine b_newD ?_ | with_reducible refine b_iany ?_ | with_reducible refine b_seqT ?_ | with_reducible refine s_gsCons ?_ | with_reducible refine s_gsNil ?_ | with_reducible refine b_seqL ?_ | with_reducible refine b_seqF ?_ | with_reducible refine b_callK ?_ | with_reducible refine b_blK ?_ | with_reducible refine b_dtK ?_ | with_reducible refine b_intK ?_ | with_reducible refine b_eAndK ?_ | with_reducible refine b_eOrK ?_ | with_reducible refine b_eNotK ?_ | with_reducible refine b_chainK ?_ | with_reducible refine b_andW ?_ | with_reducible refine b_orW ?_ | with_reducible refine b_eIfW ?_ | with_reducible refine s_ifW ?_ | with_reducible refine b_lcK ?_ | with_reducible refine b_sortScK ?_ | with_reducible refine b_dcK ?_ | with_reducible refine b_dcStepK ?_ | ((with_reducible apply b_pb); exact (rfl : _ = [_, _, _])) | ((with_reducible apply s_seqN); exact (rfl : _ = [_, _, _])) | ((with_reducible apply b_var_d); rfl) | ((with_reducible apply b_var_o); rfl) | ((with_reducible apply b_fzv); rfl) | ((with_reducible apply b_fzvA); rfl) | ((with_reducible apply s_asgV); rfl) | ((with_reducible apply s_asgs); rfl) | ((with_reducible apply s_asgsD); rfl; first | assumption | exact Fr.un | exact Fr.dat | exact Fr.own) | ((with_reducible apply s_asgsO); rfl; first | assumption | exact Fr.un | exact Fr.dat | exact Fr.own) | ((with_reducible apply s_asgF); rfl; first | assumption | exact Fr.un | exact Fr.dat | exact Fr.own) | ((with_reducible apply s_asgFO); rfl; first | assumption | exact Fr.un | exact Fr.dat | exact Fr.own) | ((with_reducible apply s_storeV); rfl) | ((with_reducible apply s_storeK); rfl) | ((with_reducible apply b_methL); rfl) | ((with_reducible apply b_methV); rfl) | ((with_reducible apply b_mkTup); rfl; exact Nat.le_of_ble_eq_true rfl) | ((with_reducible apply b_mkLst); rfl; exact Nat.le_of_ble_eq_true rfl) | ((with_reducible apply f_sl); rfl) | ((with_reducible apply f_sld); rfl) | ((with_reducible apply x_mul); rfl; rfl; (first | omega | decide)) | ((with_reducible apply x_mod); rfl; rfl; decide) | ((with_reducible apply x_div); rfl; rfl; (first | omega | decide)) | ((with_reducible apply b_opV); rfl; rfl; rfl) | ((with_reducible apply b_unV); rfl; rfl) | ((with_reducible apply b_callV); rfl; rfl) | ((with_reducible apply b_callFP); rfl; rfl) | ((with_reducible apply b_rng1); (first | omega | decide)) | ((with_reducible apply b_rng2); (first | omega | decide)) | ((with_reducible apply s_tupG); rfl; rfl) | ((with_reducible apply b_fzvA); rfl) | ((with_reducible apply b_seqO); rfl) | ((with_reducible apply b_selK); rfl) | ((with_reducible apply way_t); rfl) | ((with_reducible apply way_f); rfl)))
theorem sure_wp {o p : Op} {t : Int} {Q : Val → DEnv → Prop} {X : Ex → DEnv → Prop} (q : Q (.d (.bl (decide (o.e + t < p.b)))) [.d o.d, .d p.d, .d (.int t)]) : (s_is_sure [.d o.d, .d p.d, .d (.int t)]).wp Q X := by
  obtain ⟨w, v, b, e⟩ := o
  obtain ⟨w', v', b', e'⟩ := p
  unfold s_is_sure e_is_sure
  refine f_fn rfl ?_
  repeat infer_instance
  exact q
end
section
local macro_rules
  | `(tactic| infer_instance) => `(tactic| (first | with_reducible refine b_op ?_ | with_reducible refine b_cb ?_ | with_reducible refine b_un ?_ | with_reducible refine b_call ?_ | with_reducible refine b_cons ?_ | with_reducible refine b_nil ?_ | with_reducible refine b_C ?_ | with_reducible refine b_tup ?_ | with_reducible refine b_lst ?_ | with_reducible refine b_fz ?_ | with_reducible refine b_nsl ?_ | with_reducible refine b_nslD ?_ | with_reducible refine b_nslF ?_ | with_reducible refine b_nslS ?_ | with_reducible refine b_tst ?_ | with_reducible refine b_bT ?_ | with_reducible refine b_not ?_ | with_reducible refine b_ok ?_ | with_reducible refine b_rng ?_ | with_reducible refine b_iseq ?_ | with_reducible refine b_yes ?_ | with_reducible refine s_skip ?_ | with_reducible refine s_drop ?_ | with_reducible refine s_ret ?_ | with_reducible refine s_retN ?_ | with_reducible refine s_break ?_ | with_reducible refine s_cont ?_ | with_reducible refine s_asg ?_ | with_reducible refine s_par ?_ | with_reducible refine s_tgt ?_ | with_reducible refine s_for ?_ | with_reducible refine s_loop ?_ | with_reducible refine s_store ?_ | with_reducible refine s_asgsN ?_ | with_reducible refine f_d ?_ | with_reducible refine f_fr ?_ | with_reducible refine b_sl ?_ | with_reducible refine b_oNone ?_ | with_reducible refine b_oSome ?_ | with_reducible refine b_oV ?_ | with_reducible refine b_isN ?_ | with_reducible refine b_notN ?_ | with_reducible refine b_isnD ?_ | with_reducible refine b_notnD ?_ | with_reducible refine b_ienu ?_ | with_reducible refine b_newD ?_ | with_reducible refine b_iany ?_ | with_reducible refine b_seqT ?_ | with_reducible refine s_gsCons ?_ | with_reducible refine s_gsNil ?_ | with_reducible refine b_seqL ?_ | with_reducible refine b_seqF ?_ | with_reducible refine b_callK ?_ | with_reducible refine b_blK ?_ | with_reducible refine b_dtK ?_ | with_reducible refine b_intK ?_ | with_reducible refine b_eAndK ?_ | with_reducible refine b_eOrK ?_ | with_reducible refine b_eNotK ?_ | with_reducible refine b_chainK ?_ | with_reducible refine b_andW ?_ | with_reducible refine b_orW ?_ | with_reducible refine b_eIfW ?_ | with_reducible refine s_ifW ?_ | with_reducible refine b_lcK ?_ | with_reducible refine b_sortScK ?_ | with_reducible refine b_dcK ?_ | with_reducible refine b_dcStepK ?_ | ((with_reducible apply b_pb); exact (rfl : _ = [_, _, _, _])) | ((with_reducible apply s_seqN); exact (rfl : _ = [_, _, _, _])) | ((with_reducible apply b_var_d); rfl) | ((with_reducible apply b_var_o); rfl) | ((with_reducible apply b_fzv); rfl) | ((with_reducible apply b_fzvA); rfl) | ((with_reducible apply s_asgV); rfl) | ((with_reducible apply s_asgs); rfl) | ((with_reducible apply s_asgsD); rfl; first | assumption | exact Fr.un | exact Fr.dat | exact Fr.own) | ((with_reducible apply s_asgsO); rfl; first | assumption | exact Fr.un | exact Fr.dat | exact Fr.own) | ((with_reducible apply s_asgF); rfl; first | assumption | exact Fr.un | exact Fr.dat | exact Fr.own) | ((with_reducible apply s_asgFO); rfl; first | assumption | exact Fr.un | exact Fr.dat | exact Fr.own) | ((with_reducible apply s_storeV); rfl) | ((with_reducible apply s_storeK); rfl) | ((with_reducible apply b_methL); rfl) | ((with_reducible apply b_methV); rfl) | ((with_reducible apply b_mkTup); rfl; exact Nat.le_of_ble_eq_true rfl) | ((with_reducible apply b_mkLst); rfl; exact Nat.le_of_ble_eq_true rfl) | ((with_reducible apply f_sl); rfl) | ((with_reducible apply f_sld); rfl) | ((with_reducible apply x_mul); rfl; rfl; (first | omega | decide)) | ((with_reducible apply x_mod); rfl; rfl; decide) | ((with_reducible apply x_div); rfl; rfl; (first | omega | decide)) | ((with_reducible apply b_opV); rfl; rfl; rfl) | ((with_reducible apply b_unV); rfl; rfl) | ((with_reducible apply b_callV); rfl; rfl) | ((with_reducible apply b_callFP); rfl; rfl) | ((with_reducible apply b_rng1); (first | omega | decide)) | ((with_reducible apply b_rng2); (first | omega | decide)) | ((with_reducible apply s_tupG); rfl; rfl) | ((with_reducible apply b_fzvA); rfl) | ((with_reducible apply b_seqO); rfl) | ((with_reducible apply b_selK); rfl) | ((with_reducible apply way_t); rfl) | ((with_reducible apply way_f); rfl)))
theorem surely_wp {l : Log} {i j : Nat} {o p : Op} {t : Int} {Q : Val → DEnv → Prop} {X : Ex → DEnv → Prop} (hi : l[i]? = some o) (hj : l[j]? = some p) (q : Q (.d (.bl (decide (o.e + t < p.b)))) [.d l.d, .d (.int t), .d (.int (i : Nat)), .d (.int (j : Nat))]) :
    (s_surely_before [.d l.d, .d (.int t), .d (.int (i : Nat)), .d (.int (j : Nat))]).wp Q X := by
  have h1 := (List.getElem?_eq_some_iff.mp hi).1
  have h2 := (List.getElem?_eq_some_iff.mp hj).1
  unfold s_surely_before e_surely_before
  refine f_fn rfl ?_
  repeat infer_instance
  refine checki_wp h1 ?_
  repeat infer_instance
  refine checki_wp h2 ?_
  repeat infer_instance
  refine x_idxLog rfl rfl hi ?_
  repeat infer_instance
  refine x_idxLog rfl rfl hj ?_
  repeat infer_instance
  refine sure_wp ?_
  repeat infer_instance
  exact q
end
end CM
namespace K06
open PySem PySem.Spec PyProof.Rows L2 DL
/-! is_integer (common: CM.s_is_integer): slots 0 value, 1 least, 2 greatest -/
def ps_is_integer : List Str := [("value" : Str), ("least" : Str), ("greatest" : Str)]
/-! is_sure (common: CM.s_is_sure): slots 0 one, 1 other, 2 tolerance -/
def ps_is_sure : List Str := [("one" : Str), ("other" : Str), ("tolerance" : Str)]
/-! check_index (common: CM.s_check_index): slots 0 log, 1 value -/
def ps_check_index : List Str := [("log" : Str), ("value" : Str)]
/-! surely_before (common: CM.s_surely_before): slots 0 log, 1 tolerance, 2 one, 3 other -/
def ps_surely_before : List Str := [("log" : Str), ("tolerance" : Str), ("one" : Str), ("other" : Str)]
/-! values_of (common: CM.s_values_of): slots 0 log, 1 kind, 2 value, 3 begin, 4 end -/
def ps_values_of : List Str := [("log" : Str)]
/-! ends_of (common: CM.s_ends_of): slots 0 log, 1 found, 2 kind, 3 value, 4 begin, 5 end, 6 first, 7 last -/
def ps_ends_of : List Str := [("log" : Str)]
/-! check_value (common: CM.s_check_value): slots 0 log, 1 value -/
def ps_check_value : List Str := [("log" : Str), ("value" : Str)]
/-! is_earlier (common: CM.s_is_earlier): slots 0 ends, 1 tolerance, 2 one, 3 other -/
def ps_is_earlier : List Str := [("ends" : Str), ("tolerance" : Str), ("one" : Str), ("other" : Str)]
/-! is_before (common: CM.s_is_before): slots 0 log, 1 tolerance, 2 one, 3 other -/
def ps_is_before : List Str := [("log" : Str), ("tolerance" : Str), ("one" : Str), ("other" : Str)]
/-! _law_pot (common: CM.s_l_pot): slots 0 _law_script, 1 _law_k, 2 _law_cell, 3 _law_own -/
def ps__law_pot : List Str := [("_law_script" : Str), ("_law_k" : Str)]
/-! _law_draw (common: CM.s_l_draw): slots 0 _law_pot_here, 1 _law_many, 2 _law_prime, 3 _law_mixed_here, 4 _law_digit -/
def ps__law_draw : List Str := [("_law_pot_here" : Str), ("_law_many" : Str)]
/-! _law_any (common: CM.s_l_any): slots 0 _law_pot_here, 1 _law_items -/
def ps__law_any : List Str := [("_law_pot_here" : Str), ("_law_items" : Str)]
/-! _law_mixed (common: CM.s_l_mixed): slots 0 _law_pot_here, 1 _law_items, 2 _law_left, 3 _law_found -/
def ps__law_mixed : List Str := [("_law_pot_here" : Str), ("_law_items" : Str)]
/-! _law_wild (common: CM.s_l_wild): slots 0 _law_pot_here, 1 _law_most, 2 _law_room, 3 _law_turn, 4 _law_found, 5 _law_written, 6 _law_begin, 7 _law_kind, 8 _law_worth, 9 _law_some -/
def ps__law_wild : List Str := [("_law_pot_here" : Str), ("_law_most" : Str), ("_law_room" : Str)]
/-! _law_true (common: CM.s_l_true): slots 0 _law_pot_here, 1 _law_many, 2 _law_off, 3 _law_step, 4 _law_names, 5 _law_turn, 6 _law_found, 7 _law_worth, 8 _law_time, 9 _law_kind, 10 _law_ends_here, 11 _law_begin, 12 _law_end -/
def ps__law_true : List Str := [("_law_pot_here" : Str), ("_law_many" : Str), ("_law_off" : Str), ("_law_step" : Str)]
/-! _law_worths (common: CM.s_l_worths): slots 0 _law_book, 1 _law_left -/
def ps__law_worths : List Str := [("_law_book" : Str)]
/-! _law_ends: slots 0 _law_book, 1 _law_found, 2 _law_worth, 3 _law_own, 4 _law_first, 5 _law_left -/
def ps__law_ends : List Str := [("_law_book" : Str)]
def c1__law_ends : EM := eLc [5] (iSeq (eVar 0)) (asgV 5) (tst (eOp eqV' (eOp idxD (eVar 5) (eC (.int 1))) (eVar 2))) (fz (eVar 5))
def c2__law_ends : EM := eLc [5] (iSeq (eVar 3)) (asgV 5) tYesD (fz (eOp idxD (eVar 5) (eC (.int 3))))
def c3__law_ends : EM := eLc [5] (iSeq (eVar 3)) (asgV 5) tYesD (fz (eOp idxD (eVar 5) (eC (.int 2))))
def l1__law_ends : SM := sFor (iSeq (eCall CM.s_l_worths (aCons (eVar 0) aNil))) (asgV 2)
    (sSeq (sAsg 3 c1__law_ends)
    (sSeq (sAsg 4 (eIf (tst (eOp gtD (eVar 2) (eC (.int 0)))) (eCallB minD (aCons c2__law_ends aNil)) (eUn negD (eOp powD (eC (.int 10)) (eC (.int 18))))))
    (sStore 1 (eVar 2) (fz (eTup (aCons (fz (eVar 4)) (aCons (fz (eCallB maxD (aCons c3__law_ends aNil))) aNil)))))))
def e__law_ends : SM := (sSeq (sAsg 1 eNewD)
    (sSeq l1__law_ends
    (sRet (eVar 1))))
def s__law_ends : FM := fnD 1 5 e__law_ends
/-! _law_pair_right: slots 0 _law_book, 1 _law_ends_here, 2 _law_slack, 3 _law_left, 4 _law_right_here, 5 _law_due, 6 _law_own, 7 _law_its, 8 _law_at, 9 _law_call, 10 _law_a, 11 _law_b -/
def ps__law_pair_right : List Str := [("_law_book" : Str), ("_law_ends_here" : Str), ("_law_slack" : Str), ("_law_left" : Str), ("_law_right_here" : Str)]
def c1__law_pair_right : EM := eLc [8, 9] (iEnu (eVar 0)) (tupG 2 (gsCons (asgV 8) (gsCons (asgV 9) gsNil))) (tst (eOp eqV' (eOp idxD (eVar 9) (eC (.int 1))) (eVar 3))) (fz (eVar 8))
def c2__law_pair_right : EM := eLc [8, 9] (iEnu (eVar 0)) (tupG 2 (gsCons (asgV 8) (gsCons (asgV 9) gsNil))) (tst (eOp eqV' (eOp idxD (eVar 9) (eC (.int 1))) (eVar 4))) (fz (eVar 8))
def c3__law_pair_right : EM := eLc [11] (iSeq (eVar 7)) (asgV 11) tYesD (fz (eCall CM.s_surely_before (aCons (eVar 0) (aCons (eVar 2) (aCons (eVar 10) (aCons (eVar 11) aNil))))))
def c4__law_pair_right : EM := eLc [10] (iSeq (eVar 6)) (asgV 10) tYesD (fz (eCallB anyD (aCons c3__law_pair_right aNil)))
def e__law_pair_right : SM := (sSeq (sAsg 5 (eAnd (eOp neV' (eVar 3) (eVar 4)) (eOp ltD (eOp addD (eOp idxD (eOp idxD (eVar 1) (eVar 3)) (eC (.int 0))) (eVar 2)) (eOp idxD (eOp idxD (eVar 1) (eVar 4)) (eC (.int 1))))))
    (sSeq (sIf (tAndM (tst (eOp eqV' (eVar 3) (eC (.int 0)))) (tAndM (tst (eOp neV' (eVar 4) (eC (.int 0)))) (tNotM (tst (eVar 5)))))
    (sRet (eC (.bl false)))
    sSkip)
    (sSeq (sIf (tst (eOp neV' (eCallB reprX (aCons (eCall CM.s_is_before (aCons (eVar 0) (aCons (eVar 2) (aCons (eVar 3) (aCons (eVar 4) aNil))))) aNil)) (eCallB reprX (aCons (eVar 5) aNil))))
    (sRet (eC (.bl false)))
    sSkip)
    (sSeq (sIf (tst (eOp neV' (eCallB reprX (aCons (eCallK [3, 2, 1, 0] CM.s_is_before aNil (aCons (eVar 4) (aCons (eVar 3) (aCons (eVar 2) (aCons (eVar 0) aNil))))) aNil)) (eCallB reprX (aCons (eVar 5) aNil))))
    (sRet (eC (.bl false)))
    sSkip)
    (sSeq (sIf (tOrM (tAndM (tst (eOp inD (eC (.int 0)) (eTup (aCons (fz (eVar 3)) (aCons (fz (eVar 4)) aNil))))) (tst (eOp eqV' (eVar 3) (eC (.int 0))))) (tst (eOp eqV' (eVar 3) (eVar 4))))
    (sRet (eC (.bl true)))
    sSkip)
    (sSeq (sAsg 6 c1__law_pair_right)
    (sSeq (sAsg 7 c2__law_pair_right)
    (sRet (eOp eqV' (eVar 5) (eCallB anyD (aCons c4__law_pair_right aNil)))))))))))
def s__law_pair_right : FM := fnD 5 7 e__law_pair_right
/-! _law_log_right: slots 0 _law_book, 1 _law_slack, 2 _law_left, 3 _law_ends_here, 4 _law_kept, 5 _law_right_here -/
def ps__law_log_right : List Str := [("_law_book" : Str), ("_law_slack" : Str)]
def c1__law_log_right : EM := eLc [5] (iAny (eVar 3)) (asgV 5) tYesD (fz (eCall s__law_pair_right (aCons (eVar 0) (aCons (eVar 3) (aCons (eVar 1) (aCons (eVar 2) (aCons (eVar 5) aNil)))))))
def l1__law_log_right : SM := sFor (iAny (eVar 3)) (asgV 2)
    (sIf (tNotM (tst (eCallB allD (aCons c1__law_log_right aNil))))
    (sRet (eC (.bl false)))
    sSkip)
def e__law_log_right : SM := (sSeq (sPar [3, 4] (aCons (nsl (eCall s__law_ends (aCons (eVar 0) aNil))) (aCons (nsl (eCallB reprX (aCons (eVar 0) aNil))) aNil)))
    (sSeq l1__law_log_right
    (sRet (eOp eqV' (eCallB reprX (aCons (eVar 0) aNil)) (eVar 4)))))
def s__law_log_right : FM := fnD 2 4 e__law_log_right
/-! _law_right: slots 0 _law_pot_here, 1 _law_far, 2 _law_turn, 3 _law_book, 4 _law_gap, 5 _law_slack, 6 _law_at, 7 _law_far_one -/
def ps__law_right : List Str := [("_law_pot_here" : Str)]
def l1__law_right : SM := sFor (iSeq (eTup (aCons (eC (.int 0)) (aCons (fz (eVar 4)) (aCons (fz (eCallB maxD (aCons (eC (.int 0)) (aCons (eOp subD (eVar 4) (eC (.int 1))) aNil)))) (aCons (fz (eOp mulD (eC (.int 2)) (eVar 1))) (aCons (fz (eOp powD (eC (.int 10)) (eC (.int 16)))) aNil))))))) (asgV 5)
    (sIf (tNotM (tst (eCall s__law_log_right (aCons (eVar 3) (aCons (eVar 5) aNil)))))
    (sRet (eC (.bl false)))
    sSkip)
def l2__law_right : SM := sFor (iRng (aCons (eC (.int 3)) aNil)) (asgV 2)
    (sSeq (sAsg 3 (eOp addD (eCall CM.s_l_any (aCons (eVar 0) (aCons (eLst (aCons (fz (eCall CM.s_l_wild (aCons (eVar 0) (aCons (eC (.int 12)) (aCons (eC (.int 14)) aNil))))) (aCons (fz (eCall CM.s_l_true (aCons (eVar 0) (aCons (eC (.int 12)) (aCons (eC (.int 2)) (aCons (eC (.int 5)) aNil)))))) aNil))) aNil))) (eTup (aCons (fz (eTup (aCons (eC (.str ("read" : Str))) (aCons (eC (.int 0)) (aCons (fz (eUn negD (eVar 1))) (aCons (fz (eVar 1)) aNil)))))) aNil))))
    (sSeq (sIf (tst (eOp eqV' (eCall CM.s_l_draw (aCons (eVar 0) (aCons (eC (.int 2)) aNil))) (eC (.int 0))))
    (sAsg 3 (eOp addD (eVar 3) (eTup (aCons (fz (eTup (aCons (eC (.str ("read" : Str))) (aCons (eC (.int 0)) (aCons (fz (eVar 1)) (aCons (fz (eVar 1)) aNil)))))) (aCons (fz (eTup (aCons (eC (.str ("write" : Str))) (aCons (fz (eOp powD (eC (.int 10)) (eC (.int 9)))) (aCons (fz (eUn negD (eVar 1))) (aCons (fz (eUn negD (eVar 1))) aNil)))))) aNil)))))
    sSkip)
    (sSeq (sPar [6, 7] (aCons (nsl (eCall CM.s_l_draw (aCons (eVar 0) (aCons (eCallB lenD (aCons (eVar 3) aNil)) aNil)))) (aCons (nsl (eCall CM.s_l_draw (aCons (eVar 0) (aCons (eCallB lenD (aCons (eVar 3) aNil)) aNil)))) aNil)))
    (sSeq (sAsg 4 (eCallB maxD (aCons (eC (.int 0)) (aCons (eOp subD (eOp idxD (eOp idxD (eVar 3) (eVar 6)) (eC (.int 2))) (eOp idxD (eOp idxD (eVar 3) (eVar 7)) (eC (.int 3)))) aNil))))
    l1__law_right))))
def e__law_right : SM := (sSeq (sAsg 1 (eOp powD (eC (.int 10)) (eC (.int 15))))
    (sSeq l2__law_right
    (sRet (eC (.bl true)))))
def s__law_right : FM := fnD 1 7 e__law_right
/-! law: slots 0 _law_script, 1 _law_k -/
def ps_law : List Str := [("_law_script" : Str)]
def c1_law : EM := eLc [1] (iRng (aCons (eCallB maxD (aCons (eC (.int 1)) (aCons (eCallB minD (aCons (eC (.int 3)) (aCons (eCallB lenD (aCons (eVar 0) aNil)) aNil))) aNil))) aNil)) (asgV 1) tYesD (fz (eCall s__law_right (aCons (eCall CM.s_l_pot (aCons (eVar 0) (aCons (eVar 1) aNil))) aNil)))
def e_law : SM := (sRet (eCallB allD (aCons c1_law aNil)))
def s_law : FM := fnD 1 1 e_law
end K06
set_option maxHeartbeats 1000000
namespace K06
open PySem PySem.Spec PyProof.Rows L2 DL CM
abbrev F (l : Log) (v : Int) : Log := l.filter (·.v = v)
abbrev e2 (l : Log) (v : Int) : D := .tup [.int (l.fe v), .int (l.lb v)]
theorem F_ne {l : Log} {v : Int} (hv : v ∈ l.vals) : F l v ≠ [] := by
  obtain ⟨o, ho, e⟩ := mem_vals.mp hv
  exact List.ne_nil_of_mem (List.mem_filter.mpr ⟨ho, by simpa using e⟩)
section
local macro_rules
  | `(tactic| infer_instance) => `(tactic| (first | with_reducible refine b_op ?_ | with_reducible refine b_cb ?_ | with_reducible refine b_un ?_ | with_reducible refine b_call ?_ | with_reducible refine b_cons ?_ | with_reducible refine b_nil ?_ | with_reducible refine b_C ?_ | with_reducible refine b_tup ?_ | with_reducible refine b_lst ?_ | with_reducible refine b_fz ?_ | with_reducible refine b_nsl ?_ | with_reducible refine b_nslD ?_ | with_reducible refine b_nslF ?_ | with_reducible refine b_nslS ?_ | with_reducible refine b_tst ?_ | with_reducible refine b_bT ?_ | with_reducible refine b_not ?_ | with_reducible refine b_ok ?_ | with_reducible refine b_rng ?_ | with_reducible refine b_iseq ?_ | with_reducible refine b_yes ?_ | with_reducible refine s_skip ?_ | with_reducible refine s_drop ?_ | with_reducible refine s_ret ?_ | with_reducible refine s_retN ?_ | with_reducible refine s_break ?_ | with_reducible refine s_cont ?_ | with_reducible refine s_asg ?_ | with_reducible refine s_par ?_ | with_reducible refine s_tgt ?_ | with_reducible refine s_for ?_ | with_reducible refine s_loop ?_ | with_reducible refine s_store ?_ | with_reducible refine s_asgsN ?_ | with_reducible refine f_d ?_ | with_reducible refine f_fr ?_ | with_reducible refine b_sl ?_ | with_reducible refine b_oNone ?_ | with_reducible refine b_oSome ?_ | with_reducible refine b_oV ?_ | with_reducible refine b_isN ?_ | with_reducible refine b_notN ?_ | with_reducible refine b_isnD ?_ | with_reducible refine b_notnD ?_ | with_reducible refine b_ienu ?_ | with_reducible refine b_newD ?_ | with_reducible refine b_iany ?_ | with_reducible refine b_seqT ?_ | with_reducible refine s_gsCons ?_ | with_reducible refine s_gsNil ?_ | with_reducible refine b_seqL ?_ | with_reducible refine b_seqF ?_ | with_reducible refine b_callK ?_ | with_reducible refine b_blK ?_ | with_reducible refine b_dtK ?_ | with_reducible refine b_intK ?_ | with_reducible refine b_eAndK ?_ | with_reducible refine b_eOrK ?_ | with_reducible refine b_eNotK ?_ | with_reducible refine b_chainK ?_ | with_reducible refine b_andW ?_ | with_reducible refine b_orW ?_ | with_reducible refine b_eIfW ?_ | with_reducible refine s_ifW ?_ | with_reducible refine b_lcK ?_ | with_reducible refine b_sortScK ?_ | with_reducible refine b_dcK ?_ | with_reducible refine b_dcStepK ?_ | ((with_reducible apply b_pb); exact (rfl : _ = [_, _, _, _, _, _])) | ((with_reducible apply s_seqN); exact (rfl : _ = [_, _, _, _, _, _])) | ((with_reducible apply b_var_d); rfl) | ((with_reducible apply b_var_o); rfl) | ((with_reducible apply b_fzv); rfl) | ((with_reducible apply b_fzvA); rfl) | ((with_reducible apply s_asgV); rfl) | ((with_reducible apply s_asgs); rfl) | ((with_reducible apply s_asgsD); rfl; first | assumption | exact Fr.un | exact Fr.dat | exact Fr.own) | ((with_reducible apply s_asgsO); rfl; first | assumption | exact Fr.un | exact Fr.dat | exact Fr.own) | ((with_reducible apply s_asgF); rfl; first | assumption | exact Fr.un | exact Fr.dat | exact Fr.own) | ((with_reducible apply s_asgFO); rfl; first | assumption | exact Fr.un | exact Fr.dat | exact Fr.own) | ((with_reducible apply s_storeV); rfl) | ((with_reducible apply s_storeK); rfl) | ((with_reducible apply b_methL); rfl) | ((with_reducible apply b_methV); rfl) | ((with_reducible apply b_mkTup); rfl; exact Nat.le_of_ble_eq_true rfl) | ((with_reducible apply b_mkLst); rfl; exact Nat.le_of_ble_eq_true rfl) | ((with_reducible apply f_sl); rfl) | ((with_reducible apply f_sld); rfl) | ((with_reducible apply x_mul); rfl; rfl; (first | omega | decide)) | ((with_reducible apply x_mod); rfl; rfl; decide) | ((with_reducible apply x_div); rfl; rfl; (first | omega | decide)) | ((with_reducible apply b_opV); rfl; rfl; rfl) | ((with_reducible apply b_unV); rfl; rfl) | ((with_reducible apply b_callV); rfl; rfl) | ((with_reducible apply b_callFP); rfl; rfl) | ((with_reducible apply b_rng1); (first | omega | decide)) | ((with_reducible apply b_rng2); (first | omega | decide)) | ((with_reducible apply s_tupG); rfl; rfl) | ((with_reducible apply b_fzvA); rfl) | ((with_reducible apply b_seqO); rfl) | ((with_reducible apply b_selK); rfl) | ((with_reducible apply way_t); rfl) | ((with_reducible apply way_f); rfl)))
theorem c1e_wp {l : Log} {v : Int} {s1 s3 s4 s5 : DL.Slot} {Q : Val → DEnv → Prop} {X : Ex → DEnv → Prop} (hl : l.length ≤ 400) (f5 : Fr s5) (q : Q (.fr (.lst ((F l v).map Op.d))) [.d l.d, s1, .d (.int v), s3, s4, s5]) :
    (c1__law_ends [.d l.d, s1, .d (.int v), s3, s4, s5]).wp Q X := by
  unfold c1__law_ends Log.d
  repeat infer_instance
  refine b_compK rfl (by rw [List.length_map]; omega) ?_
  refine comp_map (ρ := [.d (.tup (l.map Op.d)), s1, .d (.int v), s3, s4, .un]) (fun o : Op => decide (o.v = v)) Op.d (fun o ho => ?_) ?_
  · obtain ⟨ow, ov, ob, oe⟩ := o
    repeat infer_instance
    refine ⟨rfl, fun _ => rfl, fun _ => ?_⟩
    repeat infer_instance
    exact ⟨rfl, rfl⟩
  · repeat infer_instance
    exact q
theorem c2e_wp {g : Log} {s0 s1 s2 s4 s5 : DL.Slot} {Q : Val → DEnv → Prop} {X : Ex → DEnv → Prop} (hl : g.length ≤ 400) (f5 : Fr s5) (q : Q (.fr (.lst ((g.map (·.e)).map D.int))) [s0, s1, s2, .ow (.lst (g.map Op.d)) .own, s4, s5]) :
    (c2__law_ends [s0, s1, s2, .ow (.lst (g.map Op.d)) .own, s4, s5]).wp Q X := by
  unfold c2__law_ends
  repeat infer_instance
  refine b_compK rfl (by rw [List.length_map]; omega) ?_
  refine comp_map (ρ := [s0, s1, s2, .ow (.lst (g.map Op.d)) .lck, s4, .un]) (fun _ => true) (fun o : Op => .int o.e) (fun o ho => ?_) ?_
  · obtain ⟨ow, ov, ob, oe⟩ := o
    repeat infer_instance
    refine ⟨rfl, fun h => (by cases h), fun _ => ?_⟩
    repeat infer_instance
    exact ⟨rfl, rfl⟩
  · repeat infer_instance
    rw [List.filter_eq_self.mpr (fun _ _ => rfl)]
    rw [List.map_map] at q
    exact q
theorem c3e_wp {g : Log} {s0 s1 s2 s4 s5 : DL.Slot} {Q : Val → DEnv → Prop} {X : Ex → DEnv → Prop} (hl : g.length ≤ 400) (f5 : Fr s5) (q : Q (.fr (.lst ((g.map (·.b)).map D.int))) [s0, s1, s2, .ow (.lst (g.map Op.d)) .own, s4, s5]) :
    (c3__law_ends [s0, s1, s2, .ow (.lst (g.map Op.d)) .own, s4, s5]).wp Q X := by
  unfold c3__law_ends
  repeat infer_instance
  refine b_compK rfl (by rw [List.length_map]; omega) ?_
  refine comp_map (ρ := [s0, s1, s2, .ow (.lst (g.map Op.d)) .lck, s4, .un]) (fun _ => true) (fun o : Op => .int o.b) (fun o ho => ?_) ?_
  · obtain ⟨ow, ov, ob, oe⟩ := o
    repeat infer_instance
    refine ⟨rfl, fun h => (by cases h), fun _ => ?_⟩
    repeat infer_instance
    exact ⟨rfl, rfl⟩
  · repeat infer_instance
    rw [List.filter_eq_self.mpr (fun _ _ => rfl)]
    rw [List.map_map] at q
    exact q
theorem p18 : -((10 : Int) ^ Int.toNat 18) = LOWEST := by decide +kernel
theorem ends_loop {l : Log} {s2 s3 s4 s5 : DL.Slot} {P : Po} (h : l.Wk) (f2 : Fr s2) (f3 : Fr s3) (f4 : Fr s4) (f5 : Fr s5)
    (q : ∀ s2 s3 s4 s5, P.nx [.d l.d, .ow (.dic (ikeys l.vals) (l.vals.map (e2 l))) .own, s2, s3, s4, s5]) : (l1__law_ends [.d l.d, .ow (.dic [] []) .own, s2, s3, s4, s5]).wp P := by
  have hl := h.len
  have hvl := vals_len l
  unfold l1__law_ends
  repeat infer_instance
  refine worthsW_wp (by omega) ?_
  repeat infer_instance
  refine loop_inv (fun j ρ => ∃ s2 s3 s4 s5, ρ = [.d l.d, .ow (.dic (ikeys (l.vals.take j)) ((l.vals.take j).map (e2 l))) .own, s2, s3, s4, s5] ∧ Fr s2 ∧ Fr s3 ∧ Fr s4 ∧ Fr s5) _ 0 _ ⟨s2, s3, s4, s5, rfl, f2, f3, f4, f5⟩ (fun j dd ρ hj hI => ?_) fun ρ hI => ?_
  · obtain ⟨s2, s3, s4, s5, rfl, f2, f3, f4, f5⟩ := hI
    rw [List.getElem?_map] at hj
    obtain ⟨v, hjv, rfl⟩ := Option.map_eq_some_iff.mp hj
    have hv : v ∈ l.vals := List.mem_of_getElem? hjv
    have hbd := vals_bdW h hv
    have hF := F_ne hv
    have hFl : (F l v).length ≤ 400 := Nat.le_trans (List.length_filter_le _ _) (by omega)
    have hnin : v ∉ l.vals.take (0 + j) := fun z => by
      obtain ⟨i, hi, e⟩ := List.mem_iff_getElem.mp z
      rw [List.length_take] at hi
      rw [List.getElem_take] at e
      have := nodup_get (vals_nd l) (show l.vals[i]? = some v by rw [List.getElem?_eq_getElem (by omega), e]) hjv
      omega
    have tk : l.vals.take (0 + j + 1) = l.vals.take (0 + j) ++ [v] := by rw [Nat.zero_add, List.take_add_one, hjv]; rfl
    have htl : (l.vals.take (0 + j)).length < 16777216 := by rw [List.length_take]; omega
    repeat infer_instance
    refine c1e_wp (by omega) f5 ?_
    repeat infer_instance
    by_cases h0 : v = 0
    · refine way_f (by simp; omega) ?_
      repeat infer_instance
      rw [p18]
      repeat infer_instance
      refine c3e_wp hFl f5 ?_
      repeat infer_instance
      refine x_maxL rfl (fun z => hF (List.map_eq_nil_iff.mp z)) ?_
      repeat infer_instance
      refine x_storeDn (v := v) (ks := l.vals.take (0 + j)) (g := e2 l) rfl (.inl rfl) rfl hnin htl ?_
      refine ⟨.d (.int v), .ow (.lst ((F l v).map Op.d)) .own, .d (.int LOWEST), s5, ?_, Fr.dat, Fr.own, Fr.dat, f5⟩
      have ee : e2 l v = .tup [.int LOWEST, .int (maxL ((F l v).map (·.b)))] := by unfold e2 Log.fe Log.lb; rw [if_pos h0]
      rw [tk, List.map_append, List.map_singleton, ee]
      rfl
    · refine way_t (by simp; omega) ?_
      repeat infer_instance
      refine c2e_wp hFl f5 ?_
      repeat infer_instance
      refine x_minL rfl (fun z => hF (List.map_eq_nil_iff.mp z)) ?_
      repeat infer_instance
      refine c3e_wp hFl f5 ?_
      repeat infer_instance
      refine x_maxL rfl (fun z => hF (List.map_eq_nil_iff.mp z)) ?_
      repeat infer_instance
      refine x_storeDn (v := v) (ks := l.vals.take (0 + j)) (g := e2 l) rfl (.inl rfl) rfl hnin htl ?_
      refine ⟨.d (.int v), .ow (.lst ((F l v).map Op.d)) .own, .d (.int (minL ((F l v).map (·.e)))), s5, ?_, Fr.dat, Fr.own, Fr.dat, f5⟩
      have ee : e2 l v = .tup [.int (minL ((F l v).map (·.e))), .int (maxL ((F l v).map (·.b)))] := by unfold e2 Log.fe Log.lb; rw [if_neg h0]
      rw [tk, List.map_append, List.map_singleton, ee]
      rfl
  · obtain ⟨s2, s3, s4, s5, rfl, f2, f3, f4, f5⟩ := hI
    rw [Nat.zero_add, List.length_map, List.take_length]
    exact q s2 s3 s4 s5
theorem lends_wp {l : Log} {Q : Val → DEnv → Prop} {X : Ex → DEnv → Prop} (h : l.Wk) (q : Q (.fr (.dic (ikeys l.vals) (l.vals.map (e2 l)))) [.d l.d]) : (s__law_ends [.d l.d]).wp Q X := by
  unfold s__law_ends e__law_ends
  refine f_fn rfl ?_
  repeat infer_instance
  refine ends_loop h Fr.un Fr.un Fr.un Fr.un fun s2 s3 s4 s5 => ?_
  repeat infer_instance
  exact q
/-! one pair -/
def E (l : Log) (i : Nat) : Int := ((l[i]?).map (·.e)).getD 0
def B (l : Log) (i : Nat) : Int := ((l[i]?).map (·.b)).getD 0
def fs (l : Log) (t : Int) (i j : Nat) : Bool := decide (E l i + t < B l j)
theorem bef_any {l : Log} {t a b : Int} (ha : a ∈ l.vals) (hb : b ∈ l.vals) (h0 : a ≠ 0) (hab : a ≠ b) : l.bef t a b = (l.own a).any fun i => (l.own b).any (fs l t i) := by
  have hFa := F_ne ha
  have hFb := F_ne hb
  have e1 : l.fe a = minL ((F l a).map (·.e)) := if_neg h0
  have e2 : l.bef t a b = decide (l.fe a + t < l.lb b) := by unfold Log.bef; simp [hab]
  rw [e2, Bool.eq_iff_iff, decide_eq_true_iff, List.any_eq_true]
  constructor
  · intro h
    obtain ⟨o, ho, eo⟩ := List.mem_map.mp (minL_mem (fun z => hFa (List.map_eq_nil_iff.mp z)) : minL ((F l a).map (·.e)) ∈ (F l a).map (·.e))
    obtain ⟨p, hp, ep⟩ := List.mem_map.mp (maxL_mem (fun z => hFb (List.map_eq_nil_iff.mp z)) : maxL ((F l b).map (·.b)) ∈ (F l b).map (·.b))
    obtain ⟨ho1, ho2⟩ := List.mem_filter.mp ho
    obtain ⟨hp1, hp2⟩ := List.mem_filter.mp hp
    obtain ⟨i, hi, ei⟩ := List.mem_iff_getElem.mp ho1
    obtain ⟨j, hj, ej⟩ := List.mem_iff_getElem.mp hp1
    have gi : l[i]? = some o := by rw [List.getElem?_eq_getElem hi, ei]
    have gj : l[j]? = some p := by rw [List.getElem?_eq_getElem hj, ej]
    refine ⟨i, mem_own.mpr ⟨o, gi, by simpa using ho2⟩, List.any_eq_true.mpr ⟨j, mem_own.mpr ⟨p, gj, by simpa using hp2⟩, ?_⟩⟩
    unfold fs E B
    rw [gi, gj, decide_eq_true_iff]
    show o.e + t < p.b
    rw [eo, ep, ← e1]
    exact h
  · rintro ⟨i, hi, h⟩
    obtain ⟨j, hj, h⟩ := List.any_eq_true.mp h
    obtain ⟨o, gi, ho⟩ := mem_own.mp hi
    obtain ⟨p, gj, hp⟩ := mem_own.mp hj
    unfold fs E B at h
    rw [gi, gj, decide_eq_true_iff] at h
    have h : o.e + t < p.b := h
    have m1 : minL ((F l a).map (·.e)) ≤ o.e := minL_le (List.mem_map.mpr ⟨o, List.mem_filter.mpr ⟨List.mem_of_getElem? gi, by simpa using ho⟩, rfl⟩)
    have m2 : p.b ≤ l.lb b := maxL_le (List.mem_map.mpr ⟨p, List.mem_filter.mpr ⟨List.mem_of_getElem? gj, by simpa using hp⟩, rfl⟩)
    rw [e1]
    omega
end
section
local macro_rules
  | `(tactic| infer_instance) => `(tactic| (first | with_reducible refine b_op ?_ | with_reducible refine b_cb ?_ | with_reducible refine b_un ?_ | with_reducible refine b_call ?_ | with_reducible refine b_cons ?_ | with_reducible refine b_nil ?_ | with_reducible refine b_C ?_ | with_reducible refine b_tup ?_ | with_reducible refine b_lst ?_ | with_reducible refine b_fz ?_ | with_reducible refine b_nsl ?_ | with_reducible refine b_nslD ?_ | with_reducible refine b_nslF ?_ | with_reducible refine b_nslS ?_ | with_reducible refine b_tst ?_ | with_reducible refine b_bT ?_ | with_reducible refine b_not ?_ | with_reducible refine b_ok ?_ | with_reducible refine b_rng ?_ | with_reducible refine b_iseq ?_ | with_reducible refine b_yes ?_ | with_reducible refine s_skip ?_ | with_reducible refine s_drop ?_ | with_reducible refine s_ret ?_ | with_reducible refine s_retN ?_ | with_reducible refine s_break ?_ | with_reducible refine s_cont ?_ | with_reducible refine s_asg ?_ | with_reducible refine s_par ?_ | with_reducible refine s_tgt ?_ | with_reducible refine s_for ?_ | with_reducible refine s_loop ?_ | with_reducible refine s_store ?_ | with_reducible refine s_asgsN ?_ | with_reducible refine f_d ?_ | with_reducible refine f_fr ?_ | with_reducible refine b_sl ?_ | with_reducible refine b_oNone ?_ | with_reducible refine b_oSome ?_ | with_reducible refine b_oV ?_ | with_reducible refine b_isN ?_ | with_reducible refine b_notN ?_ | with_reducible refine b_isnD ?_ | with_reducible refine b_notnD ?_ | with_reducible refine b_ienu ?_ | with_reducible refine b_newD ?_ | with_reducible refine b_iany ?_ | with_reducible refine b_seqT ?_ | with_reducible refine s_gsCons ?_ | with_reducible refine s_gsNil ?_ | with_reducible refine b_seqL ?_ | with_reducible refine b_seqF ?_ | with_reducible refine b_callK ?_ | with_reducible refine b_blK ?_ | with_reducible refine b_dtK ?_ | with_reducible refine b_intK ?_ | with_reducible refine b_eAndK ?_ | with_reducible refine b_eOrK ?_ | with_reducible refine b_eNotK ?_ | with_reducible refine b_chainK ?_ | with_reducible refine b_andW ?_ | with_reducible refine b_orW ?_ | with_reducible refine b_eIfW ?_ | with_reducible refine s_ifW ?_ | with_reducible refine b_lcK ?_ | with_reducible refine b_sortScK ?_ | with_reducible refine b_dcK ?_ | with_reducible refine b_dcStepK ?_ | ((with_reducible apply b_pb); exact (rfl : _ = [_, _, _, _, _, _, _, _, _, _, _, _])) | ((with_reducible apply s_seqN); exact (rfl : _ = [_, _, _, _, _, _, _, _, _, _, _, _])) | ((with_reducible apply b_var_d); rfl) | ((with_reducible apply b_var_o); rfl) | ((with_reducible apply b_fzv); rfl) | ((with_reducible apply b_fzvA); rfl) | ((with_reducible apply s_asgV); rfl) | ((with_reducible apply s_asgs); rfl) | ((with_reducible apply s_asgsD); rfl; first | assumption | exact Fr.un | exact Fr.dat | exact Fr.own) | ((with_reducible apply s_asgsO); rfl; first | assumption | exact Fr.un | exact Fr.dat | exact Fr.own) | ((with_reducible apply s_asgF); rfl; first | assumption | exact Fr.un | exact Fr.dat | exact Fr.own) | ((with_reducible apply s_asgFO); rfl; first | assumption | exact Fr.un | exact Fr.dat | exact Fr.own) | ((with_reducible apply s_storeV); rfl) | ((with_reducible apply s_storeK); rfl) | ((with_reducible apply b_methL); rfl) | ((with_reducible apply b_methV); rfl) | ((with_reducible apply b_mkTup); rfl; exact Nat.le_of_ble_eq_true rfl) | ((with_reducible apply b_mkLst); rfl; exact Nat.le_of_ble_eq_true rfl) | ((with_reducible apply f_sl); rfl) | ((with_reducible apply f_sld); rfl) | ((with_reducible apply x_mul); rfl; rfl; (first | omega | decide)) | ((with_reducible apply x_mod); rfl; rfl; decide) | ((with_reducible apply x_div); rfl; rfl; (first | omega | decide)) | ((with_reducible apply b_opV); rfl; rfl; rfl) | ((with_reducible apply b_unV); rfl; rfl) | ((with_reducible apply b_callV); rfl; rfl) | ((with_reducible apply b_callFP); rfl; rfl) | ((with_reducible apply b_rng1); (first | omega | decide)) | ((with_reducible apply b_rng2); (first | omega | decide)) | ((with_reducible apply s_tupG); rfl; rfl) | ((with_reducible apply b_fzvA); rfl) | ((with_reducible apply b_seqO); rfl) | ((with_reducible apply b_selK); rfl) | ((with_reducible apply way_t); rfl) | ((with_reducible apply way_f); rfl)))
theorem c1p_wp {l : Log} {v : Int} {s1 s2 s4 s5 s6 s7 s8 s9 s10 s11 : DL.Slot} {Q : Val → DEnv → Prop} {X : Ex → DEnv → Prop} (hl : l.length ≤ 400) (f8 : Fr s8) (f9 : Fr s9) (q : Q (.fr (.lst (natsD (l.own v)))) [.d l.d, s1, s2, .d (.int v), s4, s5, s6, s7, s8, s9, s10, s11]) :
    (c1__law_pair_right [.d l.d, s1, s2, .d (.int v), s4, s5, s6, s7, s8, s9, s10, s11]).wp Q X := by
  unfold c1__law_pair_right Log.d
  repeat infer_instance
  refine b_compK rfl (by rw [enumL_len, List.length_map]; omega) ?_
  rw [enumL_map]
  refine comp_map (ρ := [.d (.tup (l.map Op.d)), s1, s2, .d (.int v), s4, s5, s6, s7, .un, .un, s10, s11]) (fun p : Op × Nat => decide (p.1.v = v)) (fun p => .int (p.2 : Nat)) (fun p hp => ?_) ?_
  · obtain ⟨⟨ow, ov, ob, oe⟩, i⟩ := p
    repeat infer_instance
    refine ⟨rfl, fun _ => rfl, fun _ => ?_⟩
    repeat infer_instance
    exact ⟨rfl, rfl⟩
  · have e : (l.zipIdx.filter fun p => decide (p.1.v = v)).map (fun p => D.int (p.2 : Nat)) = natsD (l.own v) := by unfold natsD Log.own; rw [List.map_map]; rfl
    rw [e]
    repeat infer_instance
    exact q
theorem c2p_wp {l : Log} {v : Int} {s1 s2 s3 s5 s6 s7 s8 s9 s10 s11 : DL.Slot} {Q : Val → DEnv → Prop} {X : Ex → DEnv → Prop} (hl : l.length ≤ 400) (f8 : Fr s8) (f9 : Fr s9) (q : Q (.fr (.lst (natsD (l.own v)))) [.d l.d, s1, s2, s3, .d (.int v), s5, s6, s7, s8, s9, s10, s11]) :
    (c2__law_pair_right [.d l.d, s1, s2, s3, .d (.int v), s5, s6, s7, s8, s9, s10, s11]).wp Q X := by
  unfold c2__law_pair_right Log.d
  repeat infer_instance
  refine b_compK rfl (by rw [enumL_len, List.length_map]; omega) ?_
  rw [enumL_map]
  refine comp_map (ρ := [.d (.tup (l.map Op.d)), s1, s2, s3, .d (.int v), s5, s6, s7, .un, .un, s10, s11]) (fun p : Op × Nat => decide (p.1.v = v)) (fun p => .int (p.2 : Nat)) (fun p hp => ?_) ?_
  · obtain ⟨⟨ow, ov, ob, oe⟩, i⟩ := p
    repeat infer_instance
    refine ⟨rfl, fun _ => rfl, fun _ => ?_⟩
    repeat infer_instance
    exact ⟨rfl, rfl⟩
  · have e : (l.zipIdx.filter fun p => decide (p.1.v = v)).map (fun p => D.int (p.2 : Nat)) = natsD (l.own v) := by unfold natsD Log.own; rw [List.map_map]; rfl
    rw [e]
    repeat infer_instance
    exact q
theorem c3p_wp {l : Log} {t b : Int} {i : Nat} {m : Md} {s1 s3 s4 s5 s6 s8 s9 s11 : DL.Slot} {Q : Val → DEnv → Prop} {X : Ex → DEnv → Prop} (hl : l.length ≤ 400) (hi : i < l.length) (f11 : Fr s11) (q : Q (.fr (.lst (((l.own b).map (fs l t i)).map D.bl))) [.d l.d, s1, .d (.int t), s3, s4, s5, s6, .ow (.lst (natsD (l.own b))) .own, s8, s9, .d (.int (i : Nat)), s11]) :
    (c3__law_pair_right [.d l.d, s1, .d (.int t), s3, s4, s5, s6, .ow (.lst (natsD (l.own b))) .own, s8, s9, .d (.int (i : Nat)), s11]).wp Q X := by
  have hol := own_len l b
  unfold c3__law_pair_right
  repeat infer_instance
  refine b_compK rfl (by rw [natsD_len]; omega) ?_
  unfold natsD
  refine comp_map (ρ := [.d l.d, s1, .d (.int t), s3, s4, s5, s6, .ow (.lst (natsD (l.own b))) .lck, s8, s9, .d (.int (i : Nat)), .un]) (fun _ => true) (fun j => .bl (fs l t i j)) (fun j hj => ?_) ?_
  · obtain ⟨p, gj, hp⟩ := mem_own.mp hj
    have gi : l[i]? = some l[i] := List.getElem?_eq_getElem hi
    repeat infer_instance
    refine ⟨rfl, fun h => (by cases h), fun _ => ?_⟩
    repeat infer_instance
    refine surely_wp gi gj ?_
    repeat infer_instance
    have e : fs l t i j = decide (l[i].e + t < p.b) := by unfold fs E B; rw [gi, gj]; rfl
    exact ⟨by rw [e], rfl⟩
  · repeat infer_instance
    rw [List.filter_eq_self.mpr (fun _ _ => rfl)]
    rw [List.map_map] at q
    exact q
theorem c4p_wp {l : Log} {t a b : Int} {s1 s3 s4 s5 s8 s9 s10 s11 : DL.Slot} {Q : Val → DEnv → Prop} {X : Ex → DEnv → Prop} (hl : l.length ≤ 400) (f10 : Fr s10) (f11 : Fr s11) (q : Q (.fr (.lst (((l.own a).map fun i => (l.own b).any (fs l t i)).map D.bl))) [.d l.d, s1, .d (.int t), s3, s4, s5, .ow (.lst (natsD (l.own a))) .own, .ow (.lst (natsD (l.own b))) .own, s8, s9, s10, s11]) :
    (c4__law_pair_right [.d l.d, s1, .d (.int t), s3, s4, s5, .ow (.lst (natsD (l.own a))) .own, .ow (.lst (natsD (l.own b))) .own, s8, s9, s10, s11]).wp Q X := by
  have hol := own_len l a
  unfold c4__law_pair_right
  repeat infer_instance
  refine b_compK rfl (by rw [natsD_len]; omega) ?_
  unfold natsD
  refine comp_map (ρ := [.d l.d, s1, .d (.int t), s3, s4, s5, .ow (.lst (natsD (l.own a))) .lck, .ow (.lst (natsD (l.own b))) .own, s8, s9, .un, s11]) (fun _ => true) (fun i => .bl ((l.own b).any (fs l t i))) (fun i hi => ?_) ?_
  · obtain ⟨o, gi, ho⟩ := mem_own.mp hi
    have hil := (List.getElem?_eq_some_iff.mp gi).1
    repeat infer_instance
    refine ⟨rfl, fun h => (by cases h), fun _ => ?_⟩
    repeat infer_instance
    refine c3p_wp (m := .own) hl hil f11 ?_
    repeat infer_instance
    refine b_callV rfl any_bls ?_
    repeat infer_instance
    exact ⟨by rw [List.any_map]; rfl, rfl⟩
  · repeat infer_instance
    rw [List.filter_eq_self.mpr (fun _ _ => rfl)]
    rw [List.map_map] at q
    exact q
end
end K06
set_option maxHeartbeats 1000000
namespace K06
open PySem PySem.Spec PyProof.Rows L2 DL CM
theorem fe0 (l : Log) : l.fe 0 = LOWEST := rfl
theorem lb_bd {l : Log} (h : l.Wk) {v : Int} (hv : v ∈ l.vals) : -1000000000000000 ≤ l.lb v := by
  have h1 : l.lb v ∈ (l.filter (·.v = v)).map (·.b) := maxL_mem fun z => F_ne hv (List.map_eq_nil_iff.mp z)
  obtain ⟨o1, m1, e1⟩ := List.mem_map.mp h1
  have b1 := h.ops o1 (List.mem_filter.mp m1).1
  have := b1.b
  omega
section
local macro_rules
  | `(tactic| infer_instance) => `(tactic| (first | with_reducible refine b_op ?_ | with_reducible refine b_cb ?_ | with_reducible refine b_un ?_ | with_reducible refine b_call ?_ | with_reducible refine b_cons ?_ | with_reducible refine b_nil ?_ | with_reducible refine b_C ?_ | with_reducible refine b_tup ?_ | with_reducible refine b_lst ?_ | with_reducible refine b_fz ?_ | with_reducible refine b_nsl ?_ | with_reducible refine b_nslD ?_ | with_reducible refine b_nslF ?_ | with_reducible refine b_nslS ?_ | with_reducible refine b_tst ?_ | with_reducible refine b_bT ?_ | with_reducible refine b_not ?_ | with_reducible refine b_ok ?_ | with_reducible refine b_rng ?_ | with_reducible refine b_iseq ?_ | with_reducible refine b_yes ?_ | with_reducible refine s_skip ?_ | with_reducible refine s_drop ?_ | with_reducible refine s_ret ?_ | with_reducible refine s_retN ?_ | with_reducible refine s_break ?_ | with_reducible refine s_cont ?_ | with_reducible refine s_asg ?_ | with_reducible refine s_par ?_ | with_reducible refine s_tgt ?_ | with_reducible refine s_for ?_ | with_reducible refine s_loop ?_ | with_reducible refine s_store ?_ | with_reducible refine s_asgsN ?_ | with_reducible refine f_d ?_ | with_reducible refine f_fr ?_ | with_reducible refine b_sl ?_ | with_reducible refine b_oNone ?_ | with_reducible refine b_oSome ?_ | with_reducible refine b_oV ?_ | with_reducible refine b_isN ?_ | with_reducible refine b_notN ?_ | with_reducible refine b_isnD ?_ | with_reducible refine b_notnD ?_ | with_reducible refine b_ienu ?_ | with_reducible refine b_newD ?_ | with_reducible refine b_iany ?_ | with_reducible refine b_seqT ?_ | with_reducible refine s_gsCons ?_ | with_reducible refine s_gsNil ?_ | with_reducible refine b_seqL ?_ | with_reducible refine b_seqF ?_ | with_reducible refine b_callK ?_ | with_reducible refine b_blK ?_ | with_reducible refine b_dtK ?_ | with_reducible refine b_intK ?_ | with_reducible refine b_eAndK ?_ | with_reducible refine b_eOrK ?_ | with_reducible refine b_eNotK ?_ | with_reducible refine b_chainK ?_ | with_reducible refine b_andW ?_ | with_reducible refine b_orW ?_ | with_reducible refine b_eIfW ?_ | with_reducible refine s_ifW ?_ | with_reducible refine b_lcK ?_ | with_reducible refine b_sortScK ?_ | with_reducible refine b_dcK ?_ | with_reducible refine b_dcStepK ?_ | ((with_reducible apply b_pb); exact (rfl : _ = [_, _, _, _, _, _, _, _, _, _, _, _])) | ((with_reducible apply s_seqN); exact (rfl : _ = [_, _, _, _, _, _, _, _, _, _, _, _])) | ((with_reducible apply b_var_d); rfl) | ((with_reducible apply b_var_o); rfl) | ((with_reducible apply b_fzv); rfl) | ((with_reducible apply b_fzvA); rfl) | ((with_reducible apply s_asgV); rfl) | ((with_reducible apply s_asgs); rfl) | ((with_reducible apply s_asgsD); rfl; first | assumption | exact Fr.un | exact Fr.dat | exact Fr.own) | ((with_reducible apply s_asgsO); rfl; first | assumption | exact Fr.un | exact Fr.dat | exact Fr.own) | ((with_reducible apply s_asgF); rfl; first | assumption | exact Fr.un | exact Fr.dat | exact Fr.own) | ((with_reducible apply s_asgFO); rfl; first | assumption | exact Fr.un | exact Fr.dat | exact Fr.own) | ((with_reducible apply s_storeV); rfl) | ((with_reducible apply s_storeK); rfl) | ((with_reducible apply b_methL); rfl) | ((with_reducible apply b_methV); rfl) | ((with_reducible apply b_mkTup); rfl; exact Nat.le_of_ble_eq_true rfl) | ((with_reducible apply b_mkLst); rfl; exact Nat.le_of_ble_eq_true rfl) | ((with_reducible apply f_sl); rfl) | ((with_reducible apply f_sld); rfl) | ((with_reducible apply x_mul); rfl; rfl; (first | omega | decide)) | ((with_reducible apply x_mod); rfl; rfl; decide) | ((with_reducible apply x_div); rfl; rfl; (first | omega | decide)) | ((with_reducible apply b_opV); rfl; rfl; rfl) | ((with_reducible apply b_unV); rfl; rfl) | ((with_reducible apply b_callV); rfl; rfl) | ((with_reducible apply b_callFP); rfl; rfl) | ((with_reducible apply b_rng1); (first | omega | decide)) | ((with_reducible apply b_rng2); (first | omega | decide)) | ((with_reducible apply s_tupG); rfl; rfl) | ((with_reducible apply b_fzvA); rfl) | ((with_reducible apply b_seqO); rfl) | ((with_reducible apply b_selK); rfl) | ((with_reducible apply way_t); rfl) | ((with_reducible apply way_f); rfl)))
theorem pair_wp {l : Log} {t a b : Int} {Q : Val → DEnv → Prop} {X : Ex → DEnv → Prop} (h : l.Wk) (t0 : 0 ≤ t) (t1 : t ≤ 10000000000000000) (ha : a ∈ l.vals) (hb : b ∈ l.vals) (q : Q (.d (.bl true)) [.d l.d, .d l.ends, .d (.int t), .d (.int a), .d (.int b)]) :
    (s__law_pair_right [.d l.d, .d l.ends, .d (.int t), .d (.int a), .d (.int b)]).wp Q X := by
  have hl := h.len
  unfold s__law_pair_right e__law_pair_right
  unfold Log.ends at q ⊢
  refine f_fn rfl ?_
  repeat infer_instance
  by_cases hab : a = b
  · have hk : l.bef t a b = false := by unfold Log.bef; simp [hab]
    refine way_f (by simp [hab]) ?_
    repeat infer_instance
    by_cases h0 : a = 0
    · refine way_t (by simp [h0]) ?_
      repeat infer_instance
      refine way_f (by simp [← hab, h0]) ?_
      repeat infer_instance
      refine before_wp (by omega) ha hb ?_
      rw [hk]
      repeat infer_instance
      try refine way_eq ?_
      repeat infer_instance
      refine before_wp (by omega) ha hb ?_
      rw [hk]
      repeat infer_instance
      try refine way_eq ?_
      repeat infer_instance
      refine way_t (by show inS (.int 0) ([a, b].map D.int) = true; rw [inS_int]; simp [h0]) ?_
      repeat infer_instance
      refine way_t (by simp [h0]) ?_
      repeat infer_instance
      exact q
    · refine way_f (by simp [h0]) ?_
      repeat infer_instance
      refine before_wp (by omega) ha hb ?_
      rw [hk]
      repeat infer_instance
      try refine way_eq ?_
      repeat infer_instance
      refine before_wp (by omega) ha hb ?_
      rw [hk]
      repeat infer_instance
      try refine way_eq ?_
      repeat infer_instance
      refine way_f (by show inS (.int 0) ([a, b].map D.int) = false; rw [inS_int, ← hab]; exact decide_eq_false fun z => by simp at z; exact h0 z.symm) ?_
      repeat infer_instance
      refine way_t (by simp [hab]) ?_
      repeat infer_instance
      exact q
  · have hk0 : l.bef t a b = decide (l.fe a + t < l.lb b) := by unfold Log.bef; simp [hab]
    refine way_t (by simp [hab]) ?_
    repeat infer_instance
    refine x_idxD (v := a) (ks := l.vals) (g := e2 l) rfl rfl ha ?_
    repeat infer_instance
    refine x_idxD (v := b) (ks := l.vals) (g := e2 l) rfl rfl hb ?_
    repeat infer_instance
    by_cases h0 : a = 0
    · have hlt : l.fe a + t < l.lb b := by
        have := lb_bd h hb
        rw [h0, fe0]
        unfold LOWEST
        omega
      have hk : l.bef t a b = true := by rw [hk0]; simp [hlt]
      have e : decide (l.fe a + t < l.lb b) = true := by simp [hlt]
      rw [show ((fun i j : Int => decide (i < j)) (l.fe a + t) (l.lb b)) = true from e]
      refine way_t (by simp [h0]) ?_
      repeat infer_instance
      refine way_t (by have hbz : b ≠ 0 := fun z => hab (h0.trans z.symm); simp [hbz]) ?_
      repeat infer_instance
      refine before_wp (by omega) ha hb ?_
      rw [hk]
      repeat infer_instance
      try refine way_eq ?_
      repeat infer_instance
      refine before_wp (by omega) ha hb ?_
      rw [hk]
      repeat infer_instance
      try refine way_eq ?_
      repeat infer_instance
      refine way_t (by show inS (.int 0) ([a, b].map D.int) = true; rw [inS_int]; simp [h0]) ?_
      repeat infer_instance
      refine way_t (by simp [h0]) ?_
      repeat infer_instance
      exact q
    · obtain ⟨k, hk⟩ : ∃ k, l.bef t a b = k := ⟨_, rfl⟩
      have e : decide (l.fe a + t < l.lb b) = k := by rw [← hk0, hk]
      rw [show ((fun i j : Int => decide (i < j)) (l.fe a + t) (l.lb b)) = k from e]
      refine way_f (by simp [h0]) ?_
      repeat infer_instance
      refine before_wp (by omega) ha hb ?_
      rw [hk]
      repeat infer_instance
      try refine way_eq ?_
      repeat infer_instance
      refine before_wp (by omega) ha hb ?_
      rw [hk]
      repeat infer_instance
      try refine way_eq ?_
      repeat infer_instance
      by_cases hb0 : (0 : Int) ∈ [a, b]
      · refine way_t (by show inS (.int 0) ([a, b].map D.int) = true; rw [inS_int]; exact decide_eq_true hb0) ?_
        repeat infer_instance
        refine way_f (by simp [h0]) ?_
        repeat infer_instance
        refine way_f (by simp [hab]) ?_
        repeat infer_instance
        refine c1p_wp (by omega) Fr.un Fr.un ?_
        repeat infer_instance
        refine c2p_wp (by omega) Fr.un Fr.un ?_
        repeat infer_instance
        refine c4p_wp (by omega) Fr.un Fr.un ?_
        repeat infer_instance
        refine b_callV rfl any_bls ?_
        repeat infer_instance
        have ek : (((l.own a).map fun i => (l.own b).any (fs l t i)).any id) = k := by
          rw [← hk, bef_any ha hb h0 hab, List.any_map]
          rfl
        rw [ek]
        have eb : (k == k) = true := by cases k <;> rfl
        rw [eb]
        exact q
      · refine way_f (by show inS (.int 0) ([a, b].map D.int) = false; rw [inS_int]; exact decide_eq_false hb0) ?_
        repeat infer_instance
        refine way_f (by simp [hab]) ?_
        repeat infer_instance
        refine c1p_wp (by omega) Fr.un Fr.un ?_
        repeat infer_instance
        refine c2p_wp (by omega) Fr.un Fr.un ?_
        repeat infer_instance
        refine c4p_wp (by omega) Fr.un Fr.un ?_
        repeat infer_instance
        refine b_callV rfl any_bls ?_
        repeat infer_instance
        have ek : (((l.own a).map fun i => (l.own b).any (fs l t i)).any id) = k := by
          rw [← hk, bef_any ha hb h0 hab, List.any_map]
          rfl
        rw [ek]
        have eb : (k == k) = true := by cases k <;> rfl
        rw [eb]
        exact q
end
section
local macro_rules
  | `(tactic| infer_instance) => `(tactic| (first | with_reducible refine b_op ?_ | with_reducible refine b_cb ?_ | with_reducible refine b_un ?_ | with_reducible refine b_call ?_ | with_reducible refine b_cons ?_ | with_reducible refine b_nil ?_ | with_reducible refine b_C ?_ | with_reducible refine b_tup ?_ | with_reducible refine b_lst ?_ | with_reducible refine b_fz ?_ | with_reducible refine b_nsl ?_ | with_reducible refine b_nslD ?_ | with_reducible refine b_nslF ?_ | with_reducible refine b_nslS ?_ | with_reducible refine b_tst ?_ | with_reducible refine b_bT ?_ | with_reducible refine b_not ?_ | with_reducible refine b_ok ?_ | with_reducible refine b_rng ?_ | with_reducible refine b_iseq ?_ | with_reducible refine b_yes ?_ | with_reducible refine s_skip ?_ | with_reducible refine s_drop ?_ | with_reducible refine s_ret ?_ | with_reducible refine s_retN ?_ | with_reducible refine s_break ?_ | with_reducible refine s_cont ?_ | with_reducible refine s_asg ?_ | with_reducible refine s_par ?_ | with_reducible refine s_tgt ?_ | with_reducible refine s_for ?_ | with_reducible refine s_loop ?_ | with_reducible refine s_store ?_ | with_reducible refine s_asgsN ?_ | with_reducible refine f_d ?_ | with_reducible refine f_fr ?_ | with_reducible refine b_sl ?_ | with_reducible refine b_oNone ?_ | with_reducible refine b_oSome ?_ | with_reducible refine b_oV ?_ | with_reducible refine b_isN ?_ | with_reducible refine b_notN ?_ | with_reducible refine b_isnD ?_ | with_reducible refine b_notnD ?_ | with_reducible refine b_ienu ?_ | with_reducible refine b_newD ?_ | with_reducible refine b_iany ?_ | with_reducible refine b_seqT ?_ | with_reducible refine s_gsCons ?_ | with_reducible refine s_gsNil ?_ | with_reducible refine b_seqL ?_ | with_reducible refine b_seqF ?_ | with_reducible refine b_callK ?_ | with_reducible refine b_blK ?_ | with_reducible refine b_dtK ?_ | with_reducible refine b_intK ?_ | with_reducible refine b_eAndK ?_ | with_reducible refine b_eOrK ?_ | with_reducible refine b_eNotK ?_ | with_reducible refine b_chainK ?_ | with_reducible refine b_andW ?_ | with_reducible refine b_orW ?_ | with_reducible refine b_eIfW ?_ | with_reducible refine s_ifW ?_ | with_reducible refine b_lcK ?_ | with_reducible refine b_sortScK ?_ | with_reducible refine b_dcK ?_ | with_reducible refine b_dcStepK ?_ | ((with_reducible apply b_pb); exact (rfl : _ = [_, _, _, _, _, _])) | ((with_reducible apply s_seqN); exact (rfl : _ = [_, _, _, _, _, _])) | ((with_reducible apply b_var_d); rfl) | ((with_reducible apply b_var_o); rfl) | ((with_reducible apply b_fzv); rfl) | ((with_reducible apply b_fzvA); rfl) | ((with_reducible apply s_asgV); rfl) | ((with_reducible apply s_asgs); rfl) | ((with_reducible apply s_asgsD); rfl; first | assumption | exact Fr.un | exact Fr.dat | exact Fr.own) | ((with_reducible apply s_asgsO); rfl; first | assumption | exact Fr.un | exact Fr.dat | exact Fr.own) | ((with_reducible apply s_asgF); rfl; first | assumption | exact Fr.un | exact Fr.dat | exact Fr.own) | ((with_reducible apply s_asgFO); rfl; first | assumption | exact Fr.un | exact Fr.dat | exact Fr.own) | ((with_reducible apply s_storeV); rfl) | ((with_reducible apply s_storeK); rfl) | ((with_reducible apply b_methL); rfl) | ((with_reducible apply b_methV); rfl) | ((with_reducible apply b_mkTup); rfl; exact Nat.le_of_ble_eq_true rfl) | ((with_reducible apply b_mkLst); rfl; exact Nat.le_of_ble_eq_true rfl) | ((with_reducible apply f_sl); rfl) | ((with_reducible apply f_sld); rfl) | ((with_reducible apply x_mul); rfl; rfl; (first | omega | decide)) | ((with_reducible apply x_mod); rfl; rfl; decide) | ((with_reducible apply x_div); rfl; rfl; (first | omega | decide)) | ((with_reducible apply b_opV); rfl; rfl; rfl) | ((with_reducible apply b_unV); rfl; rfl) | ((with_reducible apply b_callV); rfl; rfl) | ((with_reducible apply b_callFP); rfl; rfl) | ((with_reducible apply b_rng1); (first | omega | decide)) | ((with_reducible apply b_rng2); (first | omega | decide)) | ((with_reducible apply s_tupG); rfl; rfl) | ((with_reducible apply b_fzvA); rfl) | ((with_reducible apply b_seqO); rfl) | ((with_reducible apply b_selK); rfl) | ((with_reducible apply way_t); rfl) | ((with_reducible apply way_f); rfl)))
theorem c1r_wp {l : Log} {t a : Int} {s4 s5 : DL.Slot} {Q : Val → DEnv → Prop} {X : Ex → DEnv → Prop} (h : l.Wk) (t0 : 0 ≤ t) (t1 : t ≤ 10000000000000000) (ha : a ∈ l.vals) (f5 : Fr s5) (q : Q (.fr (.lst (List.replicate l.vals.length (.bl true)))) [.d l.d, .d (.int t), .d (.int a), .d l.ends, s4, s5]) :
    (c1__law_log_right [.d l.d, .d (.int t), .d (.int a), .d l.ends, s4, s5]).wp Q X := by
  have hl := h.len
  have hvl := vals_len l
  unfold c1__law_log_right
  repeat infer_instance
  refine b_anyDic (ks := ikeys l.vals) (vs := l.vals.map fun v => .tup [.int (l.fe v), .int (l.lb v)]) rfl rfl ?_
  rw [keys_ints]
  refine b_compK rfl (by rw [List.length_map]; omega) ?_
  refine comp_map (ρ := [.d l.d, .d (.int t), .d (.int a), .d l.ends, s4, .un]) (fun _ => true) (fun _ => .bl true) (fun b hb => ?_) ?_
  · repeat infer_instance
    refine ⟨rfl, fun h => (by cases h), fun _ => ?_⟩
    repeat infer_instance
    refine pair_wp h t0 t1 ha hb ?_
    repeat infer_instance
    exact ⟨rfl, rfl⟩
  · rw [List.filter_eq_self.mpr (fun _ _ => rfl), List.map_const']
    repeat infer_instance
    exact q
theorem log_loop {l : Log} {t : Int} {s2 s4 s5 : DL.Slot} {P : Po} (h : l.Wk) (t0 : 0 ≤ t) (t1 : t ≤ 10000000000000000) (f2 : Fr s2) (f5 : Fr s5)
    (q : ∀ s2 s5, P.nx [.d l.d, .d (.int t), s2, .d l.ends, s4, s5]) : (l1__law_log_right [.d l.d, .d (.int t), s2, .ow (.dic (ikeys l.vals) (l.vals.map (e2 l))) .own, s4, s5]).wp P := by
  have hl := h.len
  have hvl := vals_len l
  unfold l1__law_log_right
  repeat infer_instance
  refine b_anyDic (ks := ikeys l.vals) (vs := l.vals.map (e2 l)) rfl rfl ?_
  rw [keys_ints]
  repeat infer_instance
  refine loop_inv (fun j ρ => ∃ s2 s5, ρ = [.d l.d, .d (.int t), s2, .d l.ends, s4, s5] ∧ Fr s2 ∧ Fr s5) _ 0 _ ⟨s2, s5, rfl, f2, f5⟩ (fun j dd ρ hj hI => ?_) fun ρ hI => ?_
  · obtain ⟨s2, s5, rfl, f2, f5⟩ := hI
    rw [List.getElem?_map] at hj
    obtain ⟨a, hja, rfl⟩ := Option.map_eq_some_iff.mp hj
    have ha : a ∈ l.vals := List.mem_of_getElem? hja
    repeat infer_instance
    refine c1r_wp h t0 t1 ha f5 ?_
    repeat infer_instance
    refine b_callV rfl (all_true _) ?_
    repeat infer_instance
    exact ⟨_, _, rfl, Fr.dat, f5⟩
  · obtain ⟨s2, s5, rfl, f2, f5⟩ := hI
    exact q s2 s5
theorem log_wp {l : Log} {t : Int} {Q : Val → DEnv → Prop} {X : Ex → DEnv → Prop} (h : l.Wk) (t0 : 0 ≤ t) (t1 : t ≤ 10000000000000000) (q : Q (.d (.bl true)) [.d l.d, .d (.int t)]) : (s__law_log_right [.d l.d, .d (.int t)]).wp Q X := by
  unfold s__law_log_right e__law_log_right
  refine f_fn rfl ?_
  repeat infer_instance
  refine lends_wp h ?_
  repeat infer_instance
  refine b_callV rfl (h.gd.reprX (by decide) (by decide)) ?_
  repeat infer_instance
  refine log_loop h t0 t1 Fr.un Fr.un fun s2 s5 => ?_
  repeat infer_instance
  refine b_callV rfl (h.gd.reprX (by decide) (by decide)) ?_
  repeat infer_instance
  have e : decide (shownD l.d = shownD l.d) = true := by simp
  rw [e]
  exact q
end
end K06
set_option maxHeartbeats 1000000
namespace K06
open PySem PySem.Spec PyProof.Rows L2 DL CM
theorem Wk_app {l g : Log} (h : l.Wk) (hg : ∀ o ∈ g, o.Ok) (hl : l.length + g.length ≤ 200) : Log.Wk (l ++ g) := ⟨fun o ho => by
  rcases List.mem_append.mp ho with z | z
  · exact h.ops o z
  · exact hg o z, by rw [List.length_append]; exact hl⟩
theorem p15 : ((10 : Int) ^ Int.toNat 15) = 1000000000000000 := by decide +kernel
theorem p16 : ((10 : Int) ^ Int.toNat 16) = 10000000000000000 := by decide +kernel
theorem p9 : ((10 : Int) ^ Int.toNat 9) = 1000000000 := by decide +kernel
section
local macro_rules
  | `(tactic| infer_instance) => `(tactic| (first | with_reducible refine b_op ?_ | with_reducible refine b_cb ?_ | with_reducible refine b_un ?_ | with_reducible refine b_call ?_ | with_reducible refine b_cons ?_ | with_reducible refine b_nil ?_ | with_reducible refine b_C ?_ | with_reducible refine b_tup ?_ | with_reducible refine b_lst ?_ | with_reducible refine b_fz ?_ | with_reducible refine b_nsl ?_ | with_reducible refine b_nslD ?_ | with_reducible refine b_nslF ?_ | with_reducible refine b_nslS ?_ | with_reducible refine b_tst ?_ | with_reducible refine b_bT ?_ | with_reducible refine b_not ?_ | with_reducible refine b_ok ?_ | with_reducible refine b_rng ?_ | with_reducible refine b_iseq ?_ | with_reducible refine b_yes ?_ | with_reducible refine s_skip ?_ | with_reducible refine s_drop ?_ | with_reducible refine s_ret ?_ | with_reducible refine s_retN ?_ | with_reducible refine s_break ?_ | with_reducible refine s_cont ?_ | with_reducible refine s_asg ?_ | with_reducible refine s_par ?_ | with_reducible refine s_tgt ?_ | with_reducible refine s_for ?_ | with_reducible refine s_loop ?_ | with_reducible refine s_store ?_ | with_reducible refine s_asgsN ?_ | with_reducible refine f_d ?_ | with_reducible refine f_fr ?_ | with_reducible refine b_sl ?_ | with_reducible refine b_oNone ?_ | with_reducible refine b_oSome ?_ | with_reducible refine b_oV ?_ | with_reducible refine b_isN ?_ | with_reducible refine b_notN ?_ | with_reducible refine b_isnD ?_ | with_reducible refine b_notnD ?_ | with_reducible refine b_ienu ?_ | with_reducible refine b_newD ?_ | with_reducible refine b_iany ?_ | with_reducible refine b_seqT ?_ | with_reducible refine s_gsCons ?_ | with_reducible refine s_gsNil ?_ | with_reducible refine b_seqL ?_ | with_reducible refine b_seqF ?_ | with_reducible refine b_callK ?_ | with_reducible refine b_blK ?_ | with_reducible refine b_dtK ?_ | with_reducible refine b_intK ?_ | with_reducible refine b_eAndK ?_ | with_reducible refine b_eOrK ?_ | with_reducible refine b_eNotK ?_ | with_reducible refine b_chainK ?_ | with_reducible refine b_andW ?_ | with_reducible refine b_orW ?_ | with_reducible refine b_eIfW ?_ | with_reducible refine s_ifW ?_ | with_reducible refine b_lcK ?_ | with_reducible refine b_sortScK ?_ | with_reducible refine b_dcK ?_ | with_reducible refine b_dcStepK ?_ | ((with_reducible apply b_pb); exact (rfl : _ = [_, _, _, _, _, _, _, _])) | ((with_reducible apply s_seqN); exact (rfl : _ = [_, _, _, _, _, _, _, _])) | ((with_reducible apply b_var_d); rfl) | ((with_reducible apply b_var_o); rfl) | ((with_reducible apply b_fzv); rfl) | ((with_reducible apply b_fzvA); rfl) | ((with_reducible apply s_asgV); rfl) | ((with_reducible apply s_asgs); rfl) | ((with_reducible apply s_asgsD); rfl; first | assumption | exact Fr.un | exact Fr.dat | exact Fr.own) | ((with_reducible apply s_asgsO); rfl; first | assumption | exact Fr.un | exact Fr.dat | exact Fr.own) | ((with_reducible apply s_asgF); rfl; first | assumption | exact Fr.un | exact Fr.dat | exact Fr.own) | ((with_reducible apply s_asgFO); rfl; first | assumption | exact Fr.un | exact Fr.dat | exact Fr.own) | ((with_reducible apply s_storeV); rfl) | ((with_reducible apply s_storeK); rfl) | ((with_reducible apply b_methL); rfl) | ((with_reducible apply b_methV); rfl) | ((with_reducible apply b_mkTup); rfl; exact Nat.le_of_ble_eq_true rfl) | ((with_reducible apply b_mkLst); rfl; exact Nat.le_of_ble_eq_true rfl) | ((with_reducible apply f_sl); rfl) | ((with_reducible apply f_sld); rfl) | ((with_reducible apply x_mul); rfl; rfl; (first | omega | decide)) | ((with_reducible apply x_mod); rfl; rfl; decide) | ((with_reducible apply x_div); rfl; rfl; (first | omega | decide)) | ((with_reducible apply b_opV); rfl; rfl; rfl) | ((with_reducible apply b_unV); rfl; rfl) | ((with_reducible apply b_callV); rfl; rfl) | ((with_reducible apply b_callFP); rfl; rfl) | ((with_reducible apply b_rng1); (first | omega | decide)) | ((with_reducible apply b_rng2); (first | omega | decide)) | ((with_reducible apply s_tupG); rfl; rfl) | ((with_reducible apply b_fzvA); rfl) | ((with_reducible apply b_seqO); rfl) | ((with_reducible apply b_selK); rfl) | ((with_reducible apply way_t); rfl) | ((with_reducible apply way_f); rfl)))
theorem l1_wp {l : Log} {g : Int} {s0 s2 s5 s6 s7 : DL.Slot} {P : Po} (h : l.Wk) (g0 : 0 ≤ g) (g1 : g ≤ 2000000000000000) (f5 : Fr s5) (q : ∀ s5, Fr s5 → P.nx [s0, .d (.int 1000000000000000), s2, .d l.d, .d (.int g), s5, s6, s7]) :
    (l1__law_right [s0, .d (.int 1000000000000000), s2, .d l.d, .d (.int g), s5, s6, s7]).wp P := by
  unfold l1__law_right
  repeat infer_instance
  rw [p16]
  repeat infer_instance
  have hL : ∀ x ∈ [D.int 0, .int g, .int (max 0 (g - 1)), .int (2 * 1000000000000000), .int 10000000000000000], ∃ t, x = .int t ∧ 0 ≤ t ∧ t ≤ 10000000000000000 := fun x hx => by
    simp only [List.mem_cons, List.not_mem_nil, or_false] at hx
    rcases hx with rfl | rfl | rfl | rfl | rfl
    · exact ⟨_, rfl, by omega, by omega⟩
    · exact ⟨_, rfl, by omega, by omega⟩
    · exact ⟨_, rfl, by omega, by omega⟩
    · exact ⟨_, rfl, by omega, by omega⟩
    · exact ⟨_, rfl, by omega, by omega⟩
  refine loop_inv (fun j ρ => ∃ s5, ρ = [s0, .d (.int 1000000000000000), s2, .d l.d, .d (.int g), s5, s6, s7] ∧ Fr s5) _ 0 _ ⟨s5, rfl, f5⟩ (fun j dd ρ hj hI => ?_) fun ρ hI => ?_
  · obtain ⟨s5, rfl, f5⟩ := hI
    obtain ⟨t, rfl, t0, t1⟩ := hL dd (List.mem_of_getElem? hj)
    repeat infer_instance
    refine log_wp h t0 t1 ?_
    repeat infer_instance
    exact ⟨_, rfl, Fr.dat⟩
  · obtain ⟨s5, rfl, f5⟩ := hI
    exact q s5 f5
def restS : SM := (sSeq (sPar [6, 7] (aCons (nsl (eCall CM.s_l_draw (aCons (eVar 0) (aCons (eCallB lenD (aCons (eVar 3) aNil)) aNil)))) (aCons (nsl (eCall CM.s_l_draw (aCons (eVar 0) (aCons (eCallB lenD (aCons (eVar 3) aNil)) aNil)))) aNil)))
    (sSeq (sAsg 4 (eCallB maxD (aCons (eC (.int 0)) (aCons (eOp subD (eOp idxD (eOp idxD (eVar 3) (eVar 6)) (eC (.int 2))) (eOp idxD (eOp idxD (eVar 3) (eVar 7)) (eC (.int 3)))) aNil))))
    l1__law_right))
theorem rest_wp {l : Log} {p : List D} {c : Nat} {s2 s4 s5 s6 s7 : DL.Slot} {P : Po} (hp : Pot c p) (hc : c < 900000000) (h : l.Wk) (hn : 0 < l.length) (f4 : Fr s4) (f5 : Fr s5) (f6 : Fr s6) (f7 : Fr s7)
    (q : ∀ p' s4 s5 s6 s7, Pot (c + 2) p' → Fr s4 → Fr s5 → Fr s6 → Fr s7 → P.nx [.ow (.lst p') .own, .d (.int 1000000000000000), s2, .d l.d, s4, s5, s6, s7]) :
    (restS [.ow (.lst p) .own, .d (.int 1000000000000000), s2, .d l.d, s4, s5, s6, s7]).wp P := by
  have hl := h.len
  unfold restS
  have hlm : (l.map Op.d).length = l.length := List.length_map _
  repeat infer_instance
  refine draw_wp hp (by omega) (by omega) (by omega) fun r p1 h1 h2 hp1 => ?_
  repeat infer_instance
  refine draw_wp hp1 (by omega) (by omega) (by omega) fun r2 p2 h3 h4 hp2 => ?_
  obtain ⟨i, rfl⟩ := Int.eq_ofNat_of_zero_le h1
  obtain ⟨j, rfl⟩ := Int.eq_ofNat_of_zero_le h3
  have gi : l[i]? = some l[i] := List.getElem?_eq_getElem (by omega)
  have gj : l[j]? = some l[j] := List.getElem?_eq_getElem (by omega)
  have oi := h.ops _ (List.mem_of_getElem? gi)
  have oj := h.ops _ (List.mem_of_getElem? gj)
  generalize l[i] = o at gi oi
  generalize l[j] = o2 at gj oj
  obtain ⟨w, v, b, e⟩ := o
  obtain ⟨w2, v2, b2, e2⟩ := o2
  obtain ⟨a1, a2, a3, a4, a5, a6⟩ := oi
  obtain ⟨c1, c2, c3, c4, c5, c6⟩ := oj
  dsimp only at a4 a5 a6 c4 c5 c6
  repeat infer_instance
  refine x_idxLog rfl rfl gi ?_
  repeat infer_instance
  refine x_idxLog rfl rfl gj ?_
  repeat infer_instance
  refine l1_wp h (g := max 0 (b - e2)) (by omega) (by omega) f5 fun s5 f5 => ?_
  exact q p2 _ s5 _ _ hp2 Fr.dat f5 Fr.dat Fr.dat
theorem l2_wp {p : List D} {s2 s3 s4 s5 s6 s7 : DL.Slot} {P : Po} (hp : Pot 0 p) (f2 : Fr s2) (f3 : Fr s3) (f4 : Fr s4) (f5 : Fr s5) (f6 : Fr s6) (f7 : Fr s7) (q : ∀ ρ : DEnv, (∃ p' s2 s3 s4 s5 s6 s7, ρ = [.ow (.lst p') .own, .d (.int 1000000000000000), s2, s3, s4, s5, s6, s7]) → P.nx ρ) :
    (l2__law_right [.ow (.lst p) .own, .d (.int 1000000000000000), s2, s3, s4, s5, s6, s7]).wp P := by
  unfold l2__law_right
  repeat infer_instance
  refine loop_inv (fun k ρ => ∃ p' s2 s3 s4 s5 s6 s7, ρ = [.ow (.lst p') .own, .d (.int 1000000000000000), s2, s3, s4, s5, s6, s7] ∧ Pot (20000 * k) p' ∧ Fr s2 ∧ Fr s3 ∧ Fr s4 ∧ Fr s5 ∧ Fr s6 ∧ Fr s7) _ 0 _ ⟨p, s2, s3, s4, s5, s6, s7, rfl, hp, f2, f3, f4, f5, f6, f7⟩ (fun j dd ρ hj hI => ?_) fun ρ hI => ?_
  · obtain ⟨p1, s2, s3, s4, s5, s6, s7, rfl, hp1, f2, f3, f4, f5, f6, f7⟩ := hI
    obtain ⟨hjl, rfl⟩ := rng_at hj
    have hj3 : j < 3 := hjl
    repeat infer_instance
    refine wildT_wp hp1 (by decide) (by decide) (by decide) (by decide) (by omega) fun l1 p2 o1 hl1 hp2 => ?_
    repeat infer_instance
    refine trueT_wp hp2 ⟨by decide, by decide, by decide, by decide, by decide, by decide⟩ (by decide) (by omega) fun l2 p3 o2 hl2 hp3 => ?_
    repeat infer_instance
    refine any_wp hp3 (by omega) (.inl rfl) (by simp) (by simp) fun x p4 hx hp4 => ?_
    have hx2 : ∃ l : Log, x = l.d ∧ l.Wk ∧ l.length ≤ 12 := by
      have hx : x ∈ [l1.d, l2.d] := hx
      simp only [List.mem_cons, List.not_mem_nil, or_false] at hx
      rcases hx with rfl | rfl
      · exact ⟨l1, rfl, o1.wk, by omega⟩
      · exact ⟨l2, rfl, o2.wk, by omega⟩
    obtain ⟨l, rfl, wl, ll⟩ := hx2
    repeat infer_instance
    refine x_addT (xs := l.map Op.d) (ys := [Op.d ⟨false, 0, -1000000000000000, 1000000000000000⟩]) rfl rfl (by simp; omega) ?_
    rw [show l.map Op.d ++ [Op.d ⟨false, 0, -1000000000000000, 1000000000000000⟩] = (l ++ [⟨false, 0, -1000000000000000, 1000000000000000⟩] : Log).map Op.d from by rw [List.map_append]; rfl]
    have wb : Log.Wk (l ++ [⟨false, 0, -1000000000000000, 1000000000000000⟩]) := Wk_app wl (fun o ho => by
      rw [List.mem_singleton] at ho; subst ho
      constructor <;> simp) (by simp; omega)
    have lb : List.length (l ++ [(⟨false, 0, -1000000000000000, 1000000000000000⟩ : Op)]) ≤ 13 ∧ 0 < List.length (l ++ [(⟨false, 0, -1000000000000000, 1000000000000000⟩ : Op)]) := by simp; omega
    generalize (l ++ [⟨false, 0, -1000000000000000, 1000000000000000⟩] : Log) = b at wb lb
    repeat infer_instance
    refine draw_wp hp4 (by omega) (by omega) (by omega) fun r p5 r0 r1 hp5 => ?_
    repeat infer_instance
    by_cases hr : r = 0
    · refine way_t (by simp [hr]) ?_
      repeat infer_instance
      rw [p9]
      refine x_addT (xs := b.map Op.d) (ys := [Op.d ⟨false, 0, 1000000000000000, 1000000000000000⟩, Op.d ⟨true, 1000000000, -1000000000000000, -1000000000000000⟩]) rfl rfl (by simp; omega) ?_
      rw [show b.map Op.d ++ [Op.d ⟨false, 0, 1000000000000000, 1000000000000000⟩, Op.d ⟨true, 1000000000, -1000000000000000, -1000000000000000⟩] = (b ++ [⟨false, 0, 1000000000000000, 1000000000000000⟩, ⟨true, 1000000000, -1000000000000000, -1000000000000000⟩] : Log).map Op.d from by rw [List.map_append]; rfl]
      have wg : Log.Wk (b ++ [⟨false, 0, 1000000000000000, 1000000000000000⟩, ⟨true, 1000000000, -1000000000000000, -1000000000000000⟩]) := Wk_app wb (fun o ho => by
        simp only [List.mem_cons, List.not_mem_nil, or_false] at ho
        rcases ho with rfl | rfl <;> constructor <;> simp) (by simp; omega)
      have lg : 0 < List.length (b ++ [(⟨false, 0, 1000000000000000, 1000000000000000⟩ : Op), ⟨true, 1000000000, -1000000000000000, -1000000000000000⟩]) := by simp
      generalize (b ++ [⟨false, 0, 1000000000000000, 1000000000000000⟩, ⟨true, 1000000000, -1000000000000000, -1000000000000000⟩] : Log) = b2 at wg lg ⊢
      refine s_asgF rfl Fr.dat ?_
      show (restS _).wp _
      refine s_nN (ρ' := [.ow (.lst p5) .own, .d (.int 1000000000000000), .d (.int (0 + (j : Int))), .d b2.d, s4, s5, s6, s7]) rfl ?_
      refine rest_wp (l := b2) hp5 (by omega) wg lg f4 f5 f6 f7 fun p6 s4 s5 s6 s7 hp6 f4 f5 f6 f7 => ?_
      exact ⟨p6, _, _, s4, s5, s6, s7, rfl, hp6.mono (by omega), Fr.dat, Fr.dat, f4, f5, f6, f7⟩
    · refine way_f (by simp [hr]) ?_
      refine s_skip ?_
      show (restS _).wp _
      refine s_nN (ρ' := [.ow (.lst p5) .own, .d (.int 1000000000000000), .d (.int (0 + (j : Int))), .d b.d, s4, s5, s6, s7]) rfl ?_
      refine rest_wp (l := b) hp5 (by omega) wb lb.2 f4 f5 f6 f7 fun p6 s4 s5 s6 s7 hp6 f4 f5 f6 f7 => ?_
      exact ⟨p6, _, _, s4, s5, s6, s7, rfl, hp6.mono (by omega), Fr.dat, Fr.dat, f4, f5, f6, f7⟩
  · obtain ⟨p1, s2, s3, s4, s5, s6, s7, rfl, hp1, f2, f3, f4, f5, f6, f7⟩ := hI
    exact q _ ⟨p1, s2, s3, s4, s5, s6, s7, rfl⟩
theorem right_wp (p : List D) (Q : Val → DEnv → Prop) (X : Ex → DEnv → Prop) (hp : Pot 0 p) (q : Q (.d (.bl true)) [.un]) : (s__law_right [.ow (.lst p) .own]).wp Q X := by
  unfold s__law_right e__law_right
  refine f_fn rfl ?_
  repeat infer_instance
  rw [p15]
  repeat infer_instance
  refine l2_wp hp Fr.un Fr.un Fr.un Fr.un Fr.un Fr.un fun ρ hρ => ?_
  obtain ⟨p', s2, s3, s4, s5, s6, s7, rfl⟩ := hρ
  repeat infer_instance
  exact q
theorem sem_law (ns : List Int) (h : ns.length ≤ 63) : ∃ as', s_law [.d (.scr ns)] = .ret (.d (.bl true)) as' :=
  lawF_sem (n := 3) (by decide) (R := s__law_right) (fun p Q X hp q => right_wp p Q X hp q) ns h
end
end K06
namespace K06
open PySem PySem.Spec PyProof.Rows L2 DL
def topS (i : Nat) : Stmt := PySem.Challenge.pw_clockslack_k06_values_before_others.main.body.getD i (.Pass ⟨0, 0, 0, 0⟩)
abbrev st_is_integer : Stmt := topS 5
abbrev st_is_sure : Stmt := topS 6
abbrev st_check_index : Stmt := topS 7
abbrev st_surely_before : Stmt := topS 8
abbrev st_values_of : Stmt := topS 11
abbrev st_ends_of : Stmt := topS 12
abbrev st_check_value : Stmt := topS 13
abbrev st_is_earlier : Stmt := topS 14
abbrev st_is_before : Stmt := topS 15
abbrev st__law_pot : Stmt := topS 17
abbrev st__law_draw : Stmt := topS 18
abbrev st__law_any : Stmt := topS 19
abbrev st__law_mixed : Stmt := topS 20
abbrev st__law_wild : Stmt := topS 21
abbrev st__law_true : Stmt := topS 22
abbrev st__law_worths : Stmt := topS 23
abbrev st__law_ends : Stmt := topS 24
abbrev st__law_pair_right : Stmt := topS 25
abbrev st__law_log_right : Stmt := topS 26
abbrev st__law_right : Stmt := topS 27
abbrev st_law : Stmt := topS 28
section
variable {P : Program} {w : World} {K : PySem.W.Frag} {mg : Str → Option Value} {base : Heap}
theorem sc_is_integer : FnScope [("value" : Str), ("least" : Str), ("greatest" : Str)] ps_is_integer (defScope st_is_integer) := ⟨rfl, rfl, rfl, by decide +kernel, rfl, by decide +kernel, by decide +kernel⟩
theorem g_is_integer {f : Addr} {fd : FuncData} (Fu : Fun K ("is_integer" : Str) ("is_integer" : Str) st_is_integer f fd) (c_isinstance : mg ("isinstance" : Str) = none) (c_int : mg ("int" : Str) = none) (c_bool : mg ("bool" : Str) = none) : GFn P w K mg base 1 f fd ps_is_integer CM.s_is_integer := by
  refine gfn_of (g := CM.e_is_integer) Fu sc_is_integer 0 rfl fun cdv A outer s H E hr hG => ?_
  have hu1 := hu1_of hr
  have sc := sc_is_integer
  exact (ds_one (ds_ret (de_and (de_callB CR_isi cs_isi (by rfl) c_isinstance PyProof.Rows.boot_isinstance (da_cons (de_var 0) (da_cons (de_bty (by rfl) c_int PyProof.Rows.boot_int) da_nil))) (de_and (de_not (de_callB CR_isi cs_isi (by rfl) c_isinstance PyProof.Rows.boot_isinstance (da_cons (de_var 0) (da_cons (de_bty (by rfl) c_bool PyProof.Rows.boot_bool) da_nil)))) (de_one (de_leLe (de_var 1) (de_var 0) (de_var 2)))))))
theorem sc_is_sure : FnScope [("one" : Str), ("other" : Str), ("tolerance" : Str)] ps_is_sure (defScope st_is_sure) := ⟨rfl, rfl, rfl, by decide +kernel, rfl, by decide +kernel, by decide +kernel⟩
theorem g_is_sure {f : Addr} {fd : FuncData} (Fu : Fun K ("is_sure" : Str) ("is_sure" : Str) st_is_sure f fd)  : GFn P w K mg base 1 f fd ps_is_sure CM.s_is_sure := by
  refine gfn_of (g := CM.e_is_sure) Fu sc_is_sure 0 rfl fun cdv A outer s H E hr hG => ?_
  have hu1 := hu1_of hr
  have sc := sc_is_sure
  exact (ds_one (ds_ret (de_lt (de_add (de_idx hu1 (de_var 0) de_int) (de_var 2)) (de_idx hu1 (de_var 1) de_int))))
theorem sc_check_index : FnScope [("log" : Str), ("value" : Str)] ps_check_index (defScope st_check_index) := ⟨rfl, rfl, rfl, by decide +kernel, rfl, by decide +kernel, by decide +kernel⟩
theorem g_check_index {f : Addr} {fd : FuncData} (Fu : Fun K ("check_index" : Str) ("check_index" : Str) st_check_index f fd) {f_is_integer : Addr} {fd_is_integer : FuncData} (G_is_integer : GFn P w K mg base 1 f_is_integer fd_is_integer ps_is_integer CM.s_is_integer) (m_is_integer : mg ("is_integer" : Str) = some (.ref f_is_integer)) (k_is_integer : PySem.W.keepIn K (.ref f_is_integer) = true) (b_is_integer : Binds K fd_is_integer ps_is_integer []) (c_len : mg ("len" : Str) = none) : GFn P w K mg base 2 f fd ps_check_index CM.s_check_index := by
  refine gfn_of (g := CM.e_check_index) Fu sc_check_index 0 rfl fun cdv A outer s H E hr hG => ?_
  have hu1 := hu1_of hr
  have sc := sc_check_index
  exact (ds_one (ds_if (dt_not (dt_val (de_call G_is_integer hr hG (takes_of rfl rfl rfl rfl) (by rfl) m_is_integer k_is_integer b_is_integer (da_cons (de_var 1) (da_cons de_int (da_cons (de_sub (de_callB CR_len cs_len (by rfl) c_len PySem.boot_len (da_cons (de_var 0) da_nil)) de_int) da_nil))) (aCons_len (aCons_len (aCons_len fun _ _ _ => aNil_len))))))
    (ds_one ds_bad)
    ds_nil))
theorem sc_surely_before : FnScope [("log" : Str), ("tolerance" : Str), ("one" : Str), ("other" : Str)] ps_surely_before (defScope st_surely_before) := ⟨rfl, rfl, rfl, by decide +kernel, rfl, by decide +kernel, by decide +kernel⟩
theorem g_surely_before {f : Addr} {fd : FuncData} (Fu : Fun K ("surely_before" : Str) ("surely_before" : Str) st_surely_before f fd) {f_check_index : Addr} {fd_check_index : FuncData} (G_check_index : GFn P w K mg base 2 f_check_index fd_check_index ps_check_index CM.s_check_index) (m_check_index : mg ("check_index" : Str) = some (.ref f_check_index)) (k_check_index : PySem.W.keepIn K (.ref f_check_index) = true) (b_check_index : Binds K fd_check_index ps_check_index []) {f_is_sure : Addr} {fd_is_sure : FuncData} (G_is_sure : GFn P w K mg base 2 f_is_sure fd_is_sure ps_is_sure CM.s_is_sure) (m_is_sure : mg ("is_sure" : Str) = some (.ref f_is_sure)) (k_is_sure : PySem.W.keepIn K (.ref f_is_sure) = true) (b_is_sure : Binds K fd_is_sure ps_is_sure []) : GFn P w K mg base 3 f fd ps_surely_before CM.s_surely_before := by
  refine gfn_of (g := CM.e_surely_before) Fu sc_surely_before 0 rfl fun cdv A outer s H E hr hG => ?_
  have hu1 := hu1_of hr
  have sc := sc_surely_before
  exact (ds_cons (ds_expr (de_call G_check_index hr hG (takes_of rfl rfl rfl rfl) (by rfl) m_check_index k_check_index b_check_index (da_cons (de_var 0) (da_cons (de_var 2) da_nil)) (aCons_len (aCons_len fun _ _ _ => aNil_len))))
    (ds_cons (ds_expr (de_call G_check_index hr hG (takes_of rfl rfl rfl rfl) (by rfl) m_check_index k_check_index b_check_index (da_cons (de_var 0) (da_cons (de_var 3) da_nil)) (aCons_len (aCons_len fun _ _ _ => aNil_len))))
    (ds_one (ds_ret (de_call G_is_sure hr hG (takes_of rfl rfl rfl rfl) (by rfl) m_is_sure k_is_sure b_is_sure (da_cons (de_idx hu1 (de_var 0) (de_var 2)) (da_cons (de_idx hu1 (de_var 0) (de_var 3)) (da_cons (de_var 1) da_nil))) (aCons_len (aCons_len (aCons_len fun _ _ _ => aNil_len))))))))
theorem sc_values_of : FnScope [("log" : Str), ("kind" : Str), ("value" : Str), ("begin" : Str), ("end" : Str)] ps_values_of (defScope st_values_of) := ⟨rfl, rfl, rfl, by decide +kernel, rfl, by decide +kernel, by decide +kernel⟩
theorem g_values_of {f : Addr} {fd : FuncData} (Fu : Fun K ("values_of" : Str) ("values_of" : Str) st_values_of f fd) (c_tuple : mg ("tuple" : Str) = none) (c_sorted : mg ("sorted" : Str) = none) : GFn P w K mg base 1 f fd ps_values_of CM.s_values_of := by
  refine gfn_of (g := CM.e_values_of) Fu sc_values_of 4 rfl fun cdv A outer s H E hr hG => ?_
  have hu1 := hu1_of hr
  have sc := sc_values_of
  exact (ds_one (ds_ret (de_callTy call_tuple_of cs_tuple (by rfl) c_tuple PyProof.Rows.boot_tuple (da_cons (de_sortSc (own := [(("kind" : Str), 1), (("value" : Str), 2), (("begin" : Str), 3), (("end" : Str), 4)]) rfl sc.nd (by rfl) c_sorted (di_seq (de_var 0)) (blkOk_by (by first | (show blkC [("log" : Str), ("kind" : Str), ("value" : Str), ("begin" : Str), ("end" : Str)] (defScope st_values_of) _ _ = true; decide +kernel) | rfl)) (by decide) (fun _ _ _ _ _ => (dg_tup 4 rfl (dgs_cons (dg_name 1 sc.nd) (dgs_cons (dg_name 2 sc.nd) (dgs_cons (dg_name 3 sc.nd) (dgs_cons (dg_name 4 sc.nd) dgs_nil)))))) (fun _ _ _ _ _ => dts_nil) (fun _ _ _ _ _ => (de_var 2))) da_nil))))
theorem sc_ends_of : FnScope [("log" : Str), ("found" : Str), ("kind" : Str), ("value" : Str), ("begin" : Str), ("end" : Str), ("first" : Str), ("last" : Str)] ps_ends_of (defScope st_ends_of) := ⟨rfl, rfl, rfl, by decide +kernel, rfl, by decide +kernel, by decide +kernel⟩
theorem g_ends_of {f : Addr} {fd : FuncData} (Fu : Fun K ("ends_of" : Str) ("ends_of" : Str) st_ends_of f fd) {f_values_of : Addr} {fd_values_of : FuncData} (G_values_of : GFn P w K mg base 1 f_values_of fd_values_of ps_values_of CM.s_values_of) (m_values_of : mg ("values_of" : Str) = some (.ref f_values_of)) (k_values_of : PySem.W.keepIn K (.ref f_values_of) = true) (b_values_of : Binds K fd_values_of ps_values_of []) (c_min : mg ("min" : Str) = none) {t_LOWEST : Tok} (c_LOWEST : mg ("LOWEST" : Str) = some (.int (-1000000000000000000) t_LOWEST)) (c_max : mg ("max" : Str) = none) : GFn P w K mg base 2 f fd ps_ends_of CM.s_ends_of := by
  refine gfn_of (g := CM.e_ends_of) Fu sc_ends_of 7 rfl fun cdv A outer s H E hr hG => ?_
  have hu1 := hu1_of hr
  have sc := sc_ends_of
  exact (ds_cons (by first | exact (ds_setDc 1 (own := [(("value" : Str), 3)]) rfl sc.nd (di_seq (de_call G_values_of hr hG (takes_of rfl rfl rfl rfl) (by rfl) m_values_of k_values_of b_values_of (da_cons (de_var 0) da_nil) (aCons_len fun _ _ _ => aNil_len))) (blkOk_by (by first | (show blkC [("log" : Str), ("found" : Str), ("kind" : Str), ("value" : Str), ("begin" : Str), ("end" : Str), ("first" : Str), ("last" : Str)] (defScope st_ends_of) _ _ = true; decide +kernel) | rfl)) (by decide) (fun _ _ _ _ _ => (dg_name 3 sc.nd)) (fun _ _ _ _ _ => dts_nil) (fun _ _ _ _ _ => (de_var 3)) (fun _ _ _ _ _ => (de_fz (de_tup (da_cons de_non (da_cons de_non da_nil))))) rfl) | exact (ds_asg 1 sc.nd (de_dc (own := [(("value" : Str), 3)]) rfl sc.nd (di_seq (de_call G_values_of hr hG (takes_of rfl rfl rfl rfl) (by rfl) m_values_of k_values_of b_values_of (da_cons (de_var 0) da_nil) (aCons_len fun _ _ _ => aNil_len))) (blkOk_by (by first | (show blkC [("log" : Str), ("found" : Str), ("kind" : Str), ("value" : Str), ("begin" : Str), ("end" : Str), ("first" : Str), ("last" : Str)] (defScope st_ends_of) _ _ = true; decide +kernel) | rfl)) (by decide) (fun _ _ _ _ _ => (dg_name 3 sc.nd)) (fun _ _ _ _ _ => dts_nil) (fun _ _ _ _ _ => (de_var 3)) (fun _ _ _ _ _ => (de_fz (de_tup (da_cons de_non (da_cons de_non da_nil))))))))
    (ds_cons (ds_for (passes_of rfl) rfl (di_seq (de_var 0)) (dg_tup 4 rfl (dgs_cons (dg_name 2 sc.nd) (dgs_cons (dg_name 3 sc.nd) (dgs_cons (dg_name 4 sc.nd) (dgs_cons (dg_name 5 sc.nd) dgs_nil)))))
    (ds_cons (ds_tgt (de_idx hu1 (de_var 1) (de_var 3)) (dg_tup 2 rfl (dgs_cons (dg_name 6 sc.nd) (dgs_cons (dg_name 7 sc.nd) dgs_nil))) (nx_tupG (nx_gsCons (nx_asgV 6) (nx_gsCons (nx_asgV 7) nx_gsNil))))
    (ds_cons (ds_asg 6 sc.nd (de_if (dt_isN (de_var 6)) (de_var 5) (de_callB CR_min cs_min (by rfl) c_min PyProof.Rows.boot_min (da_cons (de_var 6) (da_cons (de_var 5) da_nil)))))
    (ds_one (ds_store 1 hu1 (de_tup (da_cons (de_fz (de_if (dt_ne hr.units (de_var 3) de_int) (de_var 6) (de_globI (by rfl) c_LOWEST))) (da_cons (de_fz (de_if (dt_isN (de_var 7)) (de_var 4) (de_callB CR_max cs_max (by rfl) c_max PyProof.Rows.boot_max (da_cons (de_var 7) (da_cons (de_var 4) da_nil))))) da_nil))) (de_var 3))))))
    (ds_one (ds_ret (de_var 1)))))
theorem sc_check_value : FnScope [("log" : Str), ("value" : Str)] ps_check_value (defScope st_check_value) := ⟨rfl, rfl, rfl, by decide +kernel, rfl, by decide +kernel, by decide +kernel⟩
theorem g_check_value {f : Addr} {fd : FuncData} (Fu : Fun K ("check_value" : Str) ("check_value" : Str) st_check_value f fd) {f_values_of : Addr} {fd_values_of : FuncData} (G_values_of : GFn P w K mg base 1 f_values_of fd_values_of ps_values_of CM.s_values_of) (m_values_of : mg ("values_of" : Str) = some (.ref f_values_of)) (k_values_of : PySem.W.keepIn K (.ref f_values_of) = true) (b_values_of : Binds K fd_values_of ps_values_of []) (c_isinstance : mg ("isinstance" : Str) = none) (c_bool : mg ("bool" : Str) = none) (c_int : mg ("int" : Str) = none) : GFn P w K mg base 2 f fd ps_check_value CM.s_check_value := by
  refine gfn_of (g := CM.e_check_value) Fu sc_check_value 0 rfl fun cdv A outer s H E hr hG => ?_
  have hu1 := hu1_of hr
  have sc := sc_check_value
  exact (ds_one (ds_if ((dw_or (dt_not (dt_val (de_callB CR_isi cs_isi (by rfl) c_isinstance PyProof.Rows.boot_isinstance (da_cons (de_var 1) (da_cons (de_bty (by rfl) c_int PyProof.Rows.boot_int) da_nil))))) (dw_or (dt_val (de_callB CR_isi cs_isi (by rfl) c_isinstance PyProof.Rows.boot_isinstance (da_cons (de_var 1) (da_cons (de_bty (by rfl) c_bool PyProof.Rows.boot_bool) da_nil)))) (dw_or1 (dt_nin hu1 (de_var 1) (de_call G_values_of hr hG (takes_of rfl rfl rfl rfl) (by rfl) m_values_of k_values_of b_values_of (da_cons (de_var 0) da_nil) (aCons_len fun _ _ _ => aNil_len))))))).dt
    (ds_one ds_bad)
    ds_nil))
theorem sc_is_earlier : FnScope [("ends" : Str), ("tolerance" : Str), ("one" : Str), ("other" : Str)] ps_is_earlier (defScope st_is_earlier) := ⟨rfl, rfl, rfl, by decide +kernel, rfl, by decide +kernel, by decide +kernel⟩
theorem g_is_earlier {f : Addr} {fd : FuncData} (Fu : Fun K ("is_earlier" : Str) ("is_earlier" : Str) st_is_earlier f fd)  : GFn P w K mg base 1 f fd ps_is_earlier CM.s_is_earlier := by
  refine gfn_of (g := CM.e_is_earlier) Fu sc_is_earlier 0 rfl fun cdv A outer s H E hr hG => ?_
  have hu1 := hu1_of hr
  have sc := sc_is_earlier
  exact (ds_one (ds_ret (de_and (de_ne hr.units (de_var 2) (de_var 3)) (de_one (de_lt (de_add (de_idx hu1 (de_idx hu1 (de_var 0) (de_var 2)) de_int) (de_var 1)) (de_idx hu1 (de_idx hu1 (de_var 0) (de_var 3)) de_int))))))
theorem sc_is_before : FnScope [("log" : Str), ("tolerance" : Str), ("one" : Str), ("other" : Str)] ps_is_before (defScope st_is_before) := ⟨rfl, rfl, rfl, by decide +kernel, rfl, by decide +kernel, by decide +kernel⟩
theorem g_is_before {f : Addr} {fd : FuncData} (Fu : Fun K ("is_before" : Str) ("is_before" : Str) st_is_before f fd) {f_check_value : Addr} {fd_check_value : FuncData} (G_check_value : GFn P w K mg base 2 f_check_value fd_check_value ps_check_value CM.s_check_value) (m_check_value : mg ("check_value" : Str) = some (.ref f_check_value)) (k_check_value : PySem.W.keepIn K (.ref f_check_value) = true) (b_check_value : Binds K fd_check_value ps_check_value []) {f_is_earlier : Addr} {fd_is_earlier : FuncData} (G_is_earlier : GFn P w K mg base 2 f_is_earlier fd_is_earlier ps_is_earlier CM.s_is_earlier) (m_is_earlier : mg ("is_earlier" : Str) = some (.ref f_is_earlier)) (k_is_earlier : PySem.W.keepIn K (.ref f_is_earlier) = true) (b_is_earlier : Binds K fd_is_earlier ps_is_earlier []) {f_ends_of : Addr} {fd_ends_of : FuncData} (G_ends_of : GFn P w K mg base 2 f_ends_of fd_ends_of ps_ends_of CM.s_ends_of) (m_ends_of : mg ("ends_of" : Str) = some (.ref f_ends_of)) (k_ends_of : PySem.W.keepIn K (.ref f_ends_of) = true) (b_ends_of : Binds K fd_ends_of ps_ends_of []) : GFn P w K mg base 3 f fd ps_is_before CM.s_is_before := by
  refine gfn_of (g := CM.e_is_before) Fu sc_is_before 0 rfl fun cdv A outer s H E hr hG => ?_
  have hu1 := hu1_of hr
  have sc := sc_is_before
  exact (ds_cons (ds_expr (de_call G_check_value hr hG (takes_of rfl rfl rfl rfl) (by rfl) m_check_value k_check_value b_check_value (da_cons (de_var 0) (da_cons (de_var 2) da_nil)) (aCons_len (aCons_len fun _ _ _ => aNil_len))))
    (ds_cons (ds_expr (de_call G_check_value hr hG (takes_of rfl rfl rfl rfl) (by rfl) m_check_value k_check_value b_check_value (da_cons (de_var 0) (da_cons (de_var 3) da_nil)) (aCons_len (aCons_len fun _ _ _ => aNil_len))))
    (ds_one (ds_ret (de_call G_is_earlier hr hG (takes_of rfl rfl rfl rfl) (by rfl) m_is_earlier k_is_earlier b_is_earlier (da_cons (de_call G_ends_of hr hG (takes_of rfl rfl rfl rfl) (by rfl) m_ends_of k_ends_of b_ends_of (da_cons (de_var 0) da_nil) (aCons_len fun _ _ _ => aNil_len)) (da_cons (de_var 1) (da_cons (de_var 2) (da_cons (de_var 3) da_nil)))) (aCons_len (aCons_len (aCons_len (aCons_len fun _ _ _ => aNil_len)))))))))
theorem sc__law_pot : FnScope [("_law_script" : Str), ("_law_k" : Str), ("_law_cell" : Str), ("_law_own" : Str)] ps__law_pot (defScope st__law_pot) := ⟨rfl, rfl, rfl, by decide +kernel, rfl, by decide +kernel, by decide +kernel⟩
theorem g__law_pot {f : Addr} {fd : FuncData} (Fu : Fun K ("_law_pot" : Str) ("_law_pot" : Str) st__law_pot f fd) (c_len : mg ("len" : Str) = none) (c_int : mg ("int" : Str) = none) (c_abs : mg ("abs" : Str) = none) : GFn P w K mg base 1 f fd ps__law_pot CM.s_l_pot := by
  refine gfn_of (g := CM.e_l_pot) Fu sc__law_pot 2 rfl fun cdv A outer s H E hr hG => ?_
  have hu1 := hu1_of hr
  have sc := sc__law_pot
  exact (ds_cons (ds_asg 2 sc.nd (de_add (de_mul de_int (de_var 1)) de_int))
    (ds_cons (ds_if (dt_lt (de_var 1) (de_callB CR_len cs_len (by rfl) c_len PySem.boot_len (da_cons (de_var 0) da_nil)))
    (ds_one (ds_asg 2 sc.nd (de_idx hu1 (de_var 0) (de_var 1))))
    ds_nil)
    (ds_cons (ds_asg 3 sc.nd (de_mul (de_mod (de_callB call_abs cs_abs (by rfl) c_abs PyProof.Rows.boot_abs (da_cons (de_var 2) da_nil)) (de_pow (de_pow de_int de_int) de_int)) (de_callTy call_int1 cs_int (by rfl) c_int PyProof.Rows.boot_int (da_cons (de_ge (de_callB call_abs cs_abs (by rfl) c_abs PyProof.Rows.boot_abs (da_cons (de_var 2) da_nil)) (de_pow de_int de_int)) da_nil))))
    (ds_one (ds_ret (de_lst (da_cons (de_fz (de_var 3)) (da_cons (de_fz (de_mod (de_add (de_add (de_mul (de_mod (de_var 2) de_int) de_int) (de_mul (de_mul de_int (de_var 1)) (de_var 1))) de_int) de_int)) (da_cons de_int da_nil)))))))))
theorem sc__law_draw : FnScope [("_law_pot_here" : Str), ("_law_many" : Str), ("_law_prime" : Str), ("_law_mixed_here" : Str), ("_law_digit" : Str)] ps__law_draw (defScope st__law_draw) := ⟨rfl, rfl, rfl, by decide +kernel, rfl, by decide +kernel, by decide +kernel⟩
theorem g__law_draw {f : Addr} {fd : FuncData} (Fu : Fun K ("_law_draw" : Str) ("_law_draw" : Str) st__law_draw f fd)  : GFn P w K mg base 1 f fd ps__law_draw CM.s_l_draw := by
  refine gfn_of (g := CM.e_l_draw) Fu sc__law_draw 3 rfl fun cdv A outer s H E hr hG => ?_
  have hu1 := hu1_of hr
  have sc := sc__law_draw
  exact (ds_cons (ds_if (dt_gt (de_idx hu1 (de_var 0) de_int) de_int)
    (ds_cons (ds_asg 4 sc.nd (de_mod (de_idx hu1 (de_var 0) de_int) (de_var 1)))
    (ds_cons (ds_store 0 hu1 (de_div (de_idx hu1 (de_var 0) de_int) (de_var 1)) de_int)
    (ds_one (ds_ret (de_var 4)))))
    ds_nil)
    (ds_cons (ds_store 0 hu1 (de_add (de_idx hu1 (de_var 0) de_int) de_int) de_int)
    (ds_cons (ds_asg 2 sc.nd (de_idx hu1 (de_lst (da_cons de_int (da_cons de_int (da_cons de_int (da_cons de_int (da_cons de_int da_nil)))))) (de_mod (de_idx hu1 (de_var 0) de_int) de_int)))
    (ds_cons (ds_asg 3 sc.nd (de_mod (de_pow (de_add (de_add (de_idx hu1 (de_var 0) de_int) (de_mul (de_mul de_int (de_idx hu1 (de_var 0) de_int)) (de_idx hu1 (de_var 0) de_int))) de_int) de_int) (de_var 2)))
    (ds_one (ds_ret (de_mod (de_div (de_mod (de_mul (de_var 3) (de_add (de_mod (de_var 3) de_int) (de_mul de_int (de_idx hu1 (de_var 0) de_int)))) de_int) de_int) (de_var 1))))))))
theorem sc__law_any : FnScope [("_law_pot_here" : Str), ("_law_items" : Str)] ps__law_any (defScope st__law_any) := ⟨rfl, rfl, rfl, by decide +kernel, rfl, by decide +kernel, by decide +kernel⟩
theorem g__law_any {f : Addr} {fd : FuncData} (Fu : Fun K ("_law_any" : Str) ("_law_any" : Str) st__law_any f fd) {f__law_draw : Addr} {fd__law_draw : FuncData} (G__law_draw : GFn P w K mg base 1 f__law_draw fd__law_draw ps__law_draw CM.s_l_draw) (m__law_draw : mg ("_law_draw" : Str) = some (.ref f__law_draw)) (k__law_draw : PySem.W.keepIn K (.ref f__law_draw) = true) (b__law_draw : Binds K fd__law_draw ps__law_draw []) (c_len : mg ("len" : Str) = none) : GFn P w K mg base 2 f fd ps__law_any CM.s_l_any := by
  refine gfn_of (g := CM.e_l_any) Fu sc__law_any 0 rfl fun cdv A outer s H E hr hG => ?_
  have hu1 := hu1_of hr
  have sc := sc__law_any
  exact (ds_one (ds_ret (de_idx hu1 (de_var 1) (de_call G__law_draw hr hG (takes_of rfl rfl rfl rfl) (by rfl) m__law_draw k__law_draw b__law_draw (da_cons (de_var 0) (da_cons (de_callB CR_len cs_len (by rfl) c_len PySem.boot_len (da_cons (de_var 1) da_nil)) da_nil)) (aCons_len (aCons_len fun _ _ _ => aNil_len))))))
theorem sc__law_mixed : FnScope [("_law_pot_here" : Str), ("_law_items" : Str), ("_law_left" : Str), ("_law_found" : Str)] ps__law_mixed (defScope st__law_mixed) := ⟨rfl, rfl, rfl, by decide +kernel, rfl, by decide +kernel, by decide +kernel⟩
theorem g__law_mixed {f : Addr} {fd : FuncData} (Fu : Fun K ("_law_mixed" : Str) ("_law_mixed" : Str) st__law_mixed f fd) {f__law_draw : Addr} {fd__law_draw : FuncData} (G__law_draw : GFn P w K mg base 1 f__law_draw fd__law_draw ps__law_draw CM.s_l_draw) (m__law_draw : mg ("_law_draw" : Str) = some (.ref f__law_draw)) (k__law_draw : PySem.W.keepIn K (.ref f__law_draw) = true) (b__law_draw : Binds K fd__law_draw ps__law_draw []) (c_list : mg ("list" : Str) = none) (c_len : mg ("len" : Str) = none) : GFn P w K mg base 2 f fd ps__law_mixed CM.s_l_mixed := by
  refine gfn_of (g := CM.e_l_mixed) Fu sc__law_mixed 2 rfl fun cdv A outer s H E hr hG => ?_
  have hu1 := hu1_of hr
  have sc := sc__law_mixed
  exact (ds_cons (by first | exact (ds_par2 2 3 rfl sc.nd (da_cons (de_nsl (de_callTy call_list_of cs_list (by rfl) c_list PyProof.Rows.boot_list (da_cons (de_var 1) da_nil))) (da_cons (de_nsl (de_lst da_nil)) da_nil))) | exact (ds_parT2 2 3 rfl sc.nd (da_cons (de_nsl (de_callTy call_list_of cs_list (by rfl) c_list PyProof.Rows.boot_list (da_cons (de_var 1) da_nil))) (da_cons (de_nsl (de_lst da_nil)) da_nil))))
    (ds_cons (ds_while 1000000 (passes_of rfl) (dt_ne hr.units (de_var 2) (de_lst da_nil))
    (ds_one (ds_expr (de_append 3 (de_popAt 2 (de_call G__law_draw hr hG (takes_of rfl rfl rfl rfl) (by rfl) m__law_draw k__law_draw b__law_draw (da_cons (de_var 0) (da_cons (de_callB CR_len cs_len (by rfl) c_len PySem.boot_len (da_cons (de_var 2) da_nil)) da_nil)) (aCons_len (aCons_len fun _ _ _ => aNil_len))))))))
    (ds_one (ds_ret (de_var 3)))))
theorem sc__law_wild : FnScope [("_law_pot_here" : Str), ("_law_most" : Str), ("_law_room" : Str), ("_law_turn" : Str), ("_law_found" : Str), ("_law_written" : Str), ("_law_begin" : Str), ("_law_kind" : Str), ("_law_worth" : Str), ("_law_some" : Str)] ps__law_wild (defScope st__law_wild) := ⟨rfl, rfl, rfl, by decide +kernel, rfl, by decide +kernel, by decide +kernel⟩
theorem g__law_wild {f : Addr} {fd : FuncData} (Fu : Fun K ("_law_wild" : Str) ("_law_wild" : Str) st__law_wild f fd) {f__law_draw : Addr} {fd__law_draw : FuncData} (G__law_draw : GFn P w K mg base 2 f__law_draw fd__law_draw ps__law_draw CM.s_l_draw) (m__law_draw : mg ("_law_draw" : Str) = some (.ref f__law_draw)) (k__law_draw : PySem.W.keepIn K (.ref f__law_draw) = true) (b__law_draw : Binds K fd__law_draw ps__law_draw []) {f__law_mixed : Addr} {fd__law_mixed : FuncData} (G__law_mixed : GFn P w K mg base 2 f__law_mixed fd__law_mixed ps__law_mixed CM.s_l_mixed) (m__law_mixed : mg ("_law_mixed" : Str) = some (.ref f__law_mixed)) (k__law_mixed : PySem.W.keepIn K (.ref f__law_mixed) = true) (b__law_mixed : Binds K fd__law_mixed ps__law_mixed []) {f__law_any : Addr} {fd__law_any : FuncData} (G__law_any : GFn P w K mg base 2 f__law_any fd__law_any ps__law_any CM.s_l_any) (m__law_any : mg ("_law_any" : Str) = some (.ref f__law_any)) (k__law_any : PySem.W.keepIn K (.ref f__law_any) = true) (b__law_any : Binds K fd__law_any ps__law_any []) (c_range : mg ("range" : Str) = none) (c_tuple : mg ("tuple" : Str) = none) : GFn P w K mg base 3 f fd ps__law_wild CM.s_l_wild := by
  refine gfn_of (g := CM.e_l_wild) Fu sc__law_wild 7 rfl fun cdv A outer s H E hr hG => ?_
  have hu1 := hu1_of hr
  have sc := sc__law_wild
  exact (ds_cons (by first | exact (ds_par2 4 5 rfl sc.nd (da_cons (de_nsl (de_lst da_nil)) (da_cons (de_nsl (de_lst da_nil)) da_nil))) | exact (ds_parT2 4 5 rfl sc.nd (da_cons (de_nsl (de_lst da_nil)) (da_cons (de_nsl (de_lst da_nil)) da_nil))))
    (ds_cons (ds_for (passes_of rfl) rfl (di_range1 (by rfl) c_range (da_cons (de_call G__law_draw hr hG (takes_of rfl rfl rfl rfl) (by rfl) m__law_draw k__law_draw b__law_draw (da_cons (de_var 0) (da_cons (de_add (de_var 1) de_int) da_nil)) (aCons_len (aCons_len fun _ _ _ => aNil_len))) da_nil) rfl (aCons_len fun _ _ _ => aNil_len)) (dg_name 3 sc.nd)
    (ds_cons (by first | exact (ds_par2 7 8 rfl sc.nd (da_cons (de_nsl (de_call G__law_any hr hG (takes_of rfl rfl rfl rfl) (by rfl) m__law_any k__law_any b__law_any (da_cons (de_var 0) (da_cons (de_lst (da_cons de_str (da_cons de_str (da_cons de_str da_nil)))) da_nil)) (aCons_len (aCons_len fun _ _ _ => aNil_len)))) (da_cons (de_nsl (de_call G__law_draw hr hG (takes_of rfl rfl rfl rfl) (by rfl) m__law_draw k__law_draw b__law_draw (da_cons (de_var 0) (da_cons de_int da_nil)) (aCons_len (aCons_len fun _ _ _ => aNil_len)))) da_nil))) | exact (ds_parT2 7 8 rfl sc.nd (da_cons (de_nsl (de_call G__law_any hr hG (takes_of rfl rfl rfl rfl) (by rfl) m__law_any k__law_any b__law_any (da_cons (de_var 0) (da_cons (de_lst (da_cons de_str (da_cons de_str (da_cons de_str da_nil)))) da_nil)) (aCons_len (aCons_len fun _ _ _ => aNil_len)))) (da_cons (de_nsl (de_call G__law_draw hr hG (takes_of rfl rfl rfl rfl) (by rfl) m__law_draw k__law_draw b__law_draw (da_cons (de_var 0) (da_cons de_int da_nil)) (aCons_len (aCons_len fun _ _ _ => aNil_len)))) da_nil))))
    (ds_cons (ds_asg 6 sc.nd (de_call G__law_draw hr hG (takes_of rfl rfl rfl rfl) (by rfl) m__law_draw k__law_draw b__law_draw (da_cons (de_var 0) (da_cons (de_var 2) da_nil)) (aCons_len (aCons_len fun _ _ _ => aNil_len))))
    (ds_one (ds_if ((dw_and (dt_eq hr.units (de_var 7) de_str) (dw_and (dt_gt (de_var 8) de_int) (dw_and1 (dt_nin hu1 (de_var 8) (de_var 5)))))).dt
    (ds_cons (ds_expr (de_append 5 (de_var 8)))
    (ds_one (ds_expr (de_append 4 (de_tup (da_cons de_str (da_cons (de_fz (de_var 8)) (da_cons (de_fz (de_var 6)) (da_cons (de_fz (de_add (de_var 6) (de_call G__law_draw hr hG (takes_of rfl rfl rfl rfl) (by rfl) m__law_draw k__law_draw b__law_draw (da_cons (de_var 0) (da_cons (de_add (de_div (de_var 2) de_int) de_int) da_nil)) (aCons_len (aCons_len fun _ _ _ => aNil_len))))) da_nil)))))))))
    (ds_cons (ds_asg 9 sc.nd (de_add (de_var 5) (de_lst (da_cons de_int da_nil))))
    (ds_cons (ds_asg 8 sc.nd (de_call G__law_any hr hG (takes_of rfl rfl rfl rfl) (by rfl) m__law_any k__law_any b__law_any (da_cons (de_var 0) (da_cons (de_add (de_add (de_var 9) (de_var 9)) (de_lst (da_cons (de_fz (de_var 8)) da_nil))) da_nil)) (aCons_len (aCons_len fun _ _ _ => aNil_len))))
    (ds_one (ds_expr (de_append 4 (de_tup (da_cons de_str (da_cons (de_fz (de_var 8)) (da_cons (de_fz (de_var 6)) (da_cons (de_fz (de_add (de_var 6) (de_call G__law_draw hr hG (takes_of rfl rfl rfl rfl) (by rfl) m__law_draw k__law_draw b__law_draw (da_cons (de_var 0) (da_cons (de_add (de_div (de_var 2) de_int) de_int) da_nil)) (aCons_len (aCons_len fun _ _ _ => aNil_len))))) da_nil)))))))))))))))
    (ds_one (ds_ret (de_callTy call_tuple_of cs_tuple (by rfl) c_tuple PyProof.Rows.boot_tuple (da_cons (de_call G__law_mixed hr hG (takes_of rfl rfl rfl rfl) (by rfl) m__law_mixed k__law_mixed b__law_mixed (da_cons (de_var 0) (da_cons (de_var 4) da_nil)) (aCons_len (aCons_len fun _ _ _ => aNil_len))) da_nil))))))
theorem sc__law_true : FnScope [("_law_pot_here" : Str), ("_law_many" : Str), ("_law_off" : Str), ("_law_step" : Str), ("_law_names" : Str), ("_law_turn" : Str), ("_law_found" : Str), ("_law_worth" : Str), ("_law_time" : Str), ("_law_kind" : Str), ("_law_ends_here" : Str), ("_law_begin" : Str), ("_law_end" : Str)] ps__law_true (defScope st__law_true) := ⟨rfl, rfl, rfl, by decide +kernel, rfl, by decide +kernel, by decide +kernel⟩
theorem g__law_true {f : Addr} {fd : FuncData} (Fu : Fun K ("_law_true" : Str) ("_law_true" : Str) st__law_true f fd) {f__law_mixed : Addr} {fd__law_mixed : FuncData} (G__law_mixed : GFn P w K mg base 2 f__law_mixed fd__law_mixed ps__law_mixed CM.s_l_mixed) (m__law_mixed : mg ("_law_mixed" : Str) = some (.ref f__law_mixed)) (k__law_mixed : PySem.W.keepIn K (.ref f__law_mixed) = true) (b__law_mixed : Binds K fd__law_mixed ps__law_mixed []) {f__law_any : Addr} {fd__law_any : FuncData} (G__law_any : GFn P w K mg base 2 f__law_any fd__law_any ps__law_any CM.s_l_any) (m__law_any : mg ("_law_any" : Str) = some (.ref f__law_any)) (k__law_any : PySem.W.keepIn K (.ref f__law_any) = true) (b__law_any : Binds K fd__law_any ps__law_any []) {f__law_draw : Addr} {fd__law_draw : FuncData} (G__law_draw : GFn P w K mg base 2 f__law_draw fd__law_draw ps__law_draw CM.s_l_draw) (m__law_draw : mg ("_law_draw" : Str) = some (.ref f__law_draw)) (k__law_draw : PySem.W.keepIn K (.ref f__law_draw) = true) (b__law_draw : Binds K fd__law_draw ps__law_draw []) (c_range : mg ("range" : Str) = none) (c_tuple : mg ("tuple" : Str) = none) (c_list : mg ("list" : Str) = none) (c_min : mg ("min" : Str) = none) (c_max : mg ("max" : Str) = none) : GFn P w K mg base 3 f fd ps__law_true CM.s_l_true := by
  refine gfn_of (g := CM.e_l_true) Fu sc__law_true 9 rfl fun cdv A outer s H E hr hG => ?_
  have hu1 := hu1_of hr
  have sc := sc__law_true
  exact (ds_cons (by first | exact (ds_par3 6 7 8 rfl sc.nd (da_cons (de_nsl (de_lst da_nil)) (da_cons (de_nsl de_int) (da_cons (de_nsl (de_call G__law_any hr hG (takes_of rfl rfl rfl rfl) (by rfl) m__law_any k__law_any b__law_any (da_cons (de_var 0) (da_cons (de_lst (da_cons de_int (da_cons (de_fz (de_neg de_int)) (da_cons (de_fz (de_pow de_int de_int)) da_nil)))) da_nil)) (aCons_len (aCons_len fun _ _ _ => aNil_len)))) da_nil)))) | exact (ds_parT3 6 7 8 rfl sc.nd (da_cons (de_nsl (de_lst da_nil)) (da_cons (de_nsl de_int) (da_cons (de_nsl (de_call G__law_any hr hG (takes_of rfl rfl rfl rfl) (by rfl) m__law_any k__law_any b__law_any (da_cons (de_var 0) (da_cons (de_lst (da_cons de_int (da_cons (de_fz (de_neg de_int)) (da_cons (de_fz (de_pow de_int de_int)) da_nil)))) da_nil)) (aCons_len (aCons_len fun _ _ _ => aNil_len)))) da_nil)))))
    (ds_cons (ds_asg 4 sc.nd (de_call G__law_mixed hr hG (takes_of rfl rfl rfl rfl) (by rfl) m__law_mixed k__law_mixed b__law_mixed (da_cons (de_var 0) (da_cons (de_lrg2 rfl (by rfl) c_list (by rfl) c_range de_int (de_add (de_var 1) de_int)) da_nil)) (aCons_len (aCons_len fun _ _ _ => aNil_len))))
    (ds_cons (ds_for (passes_of rfl) rfl (di_range1 (by rfl) c_range (da_cons (de_var 1) da_nil) rfl (aCons_len fun _ _ _ => aNil_len)) (dg_name 5 sc.nd)
    (ds_cons (ds_asg 8 sc.nd (de_add (de_var 8) (de_call G__law_draw hr hG (takes_of rfl rfl rfl rfl) (by rfl) m__law_draw k__law_draw b__law_draw (da_cons (de_var 0) (da_cons (de_add (de_var 3) de_int) da_nil)) (aCons_len (aCons_len fun _ _ _ => aNil_len)))))
    (ds_cons (ds_asg 9 sc.nd (de_call G__law_any hr hG (takes_of rfl rfl rfl rfl) (by rfl) m__law_any k__law_any b__law_any (da_cons (de_var 0) (da_cons (de_lst (da_cons de_str (da_cons de_str (da_cons de_str da_nil)))) da_nil)) (aCons_len (aCons_len fun _ _ _ => aNil_len))))
    (ds_cons (ds_if (dt_eq hr.units (de_var 9) de_str)
    (ds_one (ds_asg 7 sc.nd (de_idx hu1 (de_var 4) (de_var 5))))
    ds_nil)
    (ds_cons (ds_asg 10 sc.nd (de_tup (da_cons (de_fz (de_sub (de_var 8) (de_call G__law_draw hr hG (takes_of rfl rfl rfl rfl) (by rfl) m__law_draw k__law_draw b__law_draw (da_cons (de_var 0) (da_cons (de_add (de_var 3) de_int) da_nil)) (aCons_len (aCons_len fun _ _ _ => aNil_len))))) (da_cons (de_fz (de_add (de_var 8) (de_call G__law_draw hr hG (takes_of rfl rfl rfl rfl) (by rfl) m__law_draw k__law_draw b__law_draw (da_cons (de_var 0) (da_cons (de_add (de_var 3) de_int) da_nil)) (aCons_len (aCons_len fun _ _ _ => aNil_len))))) da_nil))))
    (ds_cons (ds_asg 11 sc.nd (de_add (de_sub (de_idx hu1 (de_var 10) de_int) (de_var 2)) (de_call G__law_draw hr hG (takes_of rfl rfl rfl rfl) (by rfl) m__law_draw k__law_draw b__law_draw (da_cons (de_var 0) (da_cons (de_add (de_mul de_int (de_var 2)) de_int) da_nil)) (aCons_len (aCons_len fun _ _ _ => aNil_len)))))
    (ds_cons (ds_asg 12 sc.nd (de_add (de_sub (de_idx hu1 (de_var 10) de_int) (de_var 2)) (de_call G__law_draw hr hG (takes_of rfl rfl rfl rfl) (by rfl) m__law_draw k__law_draw b__law_draw (da_cons (de_var 0) (da_cons (de_add (de_mul de_int (de_var 2)) de_int) da_nil)) (aCons_len (aCons_len fun _ _ _ => aNil_len)))))
    (ds_one (ds_expr (de_append 6 (de_tup (da_cons (de_fz (de_var 9)) (da_cons (de_fz (de_var 7)) (da_cons (de_fz (de_callB CR_min cs_min (by rfl) c_min PyProof.Rows.boot_min (da_cons (de_var 11) (da_cons (de_var 12) da_nil)))) (da_cons (de_fz (de_callB CR_max cs_max (by rfl) c_max PyProof.Rows.boot_max (da_cons (de_var 11) (da_cons (de_var 12) da_nil)))) da_nil)))))))))))))))
    (ds_one (ds_ret (de_callTy call_tuple_of cs_tuple (by rfl) c_tuple PyProof.Rows.boot_tuple (da_cons (de_call G__law_mixed hr hG (takes_of rfl rfl rfl rfl) (by rfl) m__law_mixed k__law_mixed b__law_mixed (da_cons (de_var 0) (da_cons (de_var 6) da_nil)) (aCons_len (aCons_len fun _ _ _ => aNil_len))) da_nil)))))))
theorem sc__law_worths : FnScope [("_law_book" : Str), ("_law_left" : Str)] ps__law_worths (defScope st__law_worths) := ⟨rfl, rfl, rfl, by decide +kernel, rfl, by decide +kernel, by decide +kernel⟩
theorem g__law_worths {f : Addr} {fd : FuncData} (Fu : Fun K ("_law_worths" : Str) ("_law_worths" : Str) st__law_worths f fd) (c_sorted : mg ("sorted" : Str) = none) (c_set : mg ("set" : Str) = none) : GFn P w K mg base 1 f fd ps__law_worths CM.s_l_worths := by
  refine gfn_of (g := CM.e_l_worths) Fu sc__law_worths 1 rfl fun cdv A outer s H E hr hG => ?_
  have hu1 := hu1_of hr
  have sc := sc__law_worths
  exact (ds_one (ds_ret (de_sortSet rfl (by rfl) c_sorted (by rfl) c_set (de_lc rfl sc.nd (di_seq (de_var 0)) (own := [(("_law_left" : Str), 1)]) (blkOk_by (by first | (show blkC [("_law_book" : Str), ("_law_left" : Str)] (defScope st__law_worths) _ _ = true; decide +kernel) | rfl)) (by decide) (fun _ _ _ _ _ => (dg_name 1 sc.nd)) (fun _ _ _ _ _ => dts_nil) (fun _ _ _ _ _ => (de_fz (de_idx hu1 (de_var 1) de_int)))))))
theorem sc__law_ends : FnScope [("_law_book" : Str), ("_law_found" : Str), ("_law_worth" : Str), ("_law_own" : Str), ("_law_first" : Str), ("_law_left" : Str)] ps__law_ends (defScope st__law_ends) := ⟨rfl, rfl, rfl, by decide +kernel, rfl, by decide +kernel, by decide +kernel⟩
theorem g__law_ends {f : Addr} {fd : FuncData} (Fu : Fun K ("_law_ends" : Str) ("_law_ends" : Str) st__law_ends f fd) {f__law_worths : Addr} {fd__law_worths : FuncData} (G__law_worths : GFn P w K mg base 1 f__law_worths fd__law_worths ps__law_worths CM.s_l_worths) (m__law_worths : mg ("_law_worths" : Str) = some (.ref f__law_worths)) (k__law_worths : PySem.W.keepIn K (.ref f__law_worths) = true) (b__law_worths : Binds K fd__law_worths ps__law_worths []) (c_min : mg ("min" : Str) = none) (c_max : mg ("max" : Str) = none) : GFn P w K mg base 2 f fd ps__law_ends s__law_ends := by
  refine gfn_of (g := e__law_ends) Fu sc__law_ends 5 rfl fun cdv A outer s H E hr hG => ?_
  have hu1 := hu1_of hr
  have sc := sc__law_ends
  exact (ds_cons (ds_asg 1 sc.nd de_newD)
    (ds_cons (ds_for (passes_of rfl) rfl (di_seq (de_call G__law_worths hr hG (takes_of rfl rfl rfl rfl) (by rfl) m__law_worths k__law_worths b__law_worths (da_cons (de_var 0) da_nil) (aCons_len fun _ _ _ => aNil_len))) (dg_name 2 sc.nd)
    (ds_cons (by first | exact (ds_setLc 3 rfl sc.nd (di_seq (de_var 0)) (own := [(("_law_left" : Str), 5)]) (blkOk_by (by first | (show blkC [("_law_book" : Str), ("_law_found" : Str), ("_law_worth" : Str), ("_law_own" : Str), ("_law_first" : Str), ("_law_left" : Str)] (defScope st__law_ends) _ _ = true; decide +kernel) | rfl)) (by decide) (fun _ _ _ _ _ => (dg_name 5 sc.nd)) (fun _ _ _ _ _ => (dts_one (dt_eq hr.units (de_idx hu1 (de_var 5) de_int) (de_var 2)))) (fun _ _ _ _ _ => (de_fz (de_var 5))) rfl) | exact (ds_asg 3 sc.nd (de_lc rfl sc.nd (di_seq (de_var 0)) (own := [(("_law_left" : Str), 5)]) (blkOk_by (by first | (show blkC [("_law_book" : Str), ("_law_found" : Str), ("_law_worth" : Str), ("_law_own" : Str), ("_law_first" : Str), ("_law_left" : Str)] (defScope st__law_ends) _ _ = true; decide +kernel) | rfl)) (by decide) (fun _ _ _ _ _ => (dg_name 5 sc.nd)) (fun _ _ _ _ _ => (dts_one (dt_eq hr.units (de_idx hu1 (de_var 5) de_int) (de_var 2)))) (fun _ _ _ _ _ => (de_fz (de_var 5))))))
    (ds_cons (ds_asg 4 sc.nd (de_if (dt_gt (de_var 2) de_int) (de_callB CR_min cs_min (by rfl) c_min PyProof.Rows.boot_min (da_cons (de_lc rfl sc.nd (di_seq (de_var 3)) (own := [(("_law_left" : Str), 5)]) (blkOk_by (by first | (show blkC [("_law_book" : Str), ("_law_found" : Str), ("_law_worth" : Str), ("_law_own" : Str), ("_law_first" : Str), ("_law_left" : Str)] (defScope st__law_ends) _ _ = true; decide +kernel) | rfl)) (by decide) (fun _ _ _ _ _ => (dg_name 5 sc.nd)) (fun _ _ _ _ _ => dts_nil) (fun _ _ _ _ _ => (de_fz (de_idx hu1 (de_var 5) de_int)))) da_nil)) (de_neg (de_pow de_int de_int))))
    (ds_one (ds_store 1 hu1 (de_tup (da_cons (de_fz (de_var 4)) (da_cons (de_fz (de_callB CR_max cs_max (by rfl) c_max PyProof.Rows.boot_max (da_cons (de_lc rfl sc.nd (di_seq (de_var 3)) (own := [(("_law_left" : Str), 5)]) (blkOk_by (by first | (show blkC [("_law_book" : Str), ("_law_found" : Str), ("_law_worth" : Str), ("_law_own" : Str), ("_law_first" : Str), ("_law_left" : Str)] (defScope st__law_ends) _ _ = true; decide +kernel) | rfl)) (by decide) (fun _ _ _ _ _ => (dg_name 5 sc.nd)) (fun _ _ _ _ _ => dts_nil) (fun _ _ _ _ _ => (de_fz (de_idx hu1 (de_var 5) de_int)))) da_nil))) da_nil))) (de_var 2))))))
    (ds_one (ds_ret (de_var 1)))))
theorem sc__law_pair_right : FnScope [("_law_book" : Str), ("_law_ends_here" : Str), ("_law_slack" : Str), ("_law_left" : Str), ("_law_right_here" : Str), ("_law_due" : Str), ("_law_own" : Str), ("_law_its" : Str), ("_law_at" : Str), ("_law_call" : Str), ("_law_a" : Str), ("_law_b" : Str)] ps__law_pair_right (defScope st__law_pair_right) := ⟨rfl, rfl, rfl, by decide +kernel, rfl, by decide +kernel, by decide +kernel⟩
theorem g__law_pair_right {f : Addr} {fd : FuncData} (Fu : Fun K ("_law_pair_right" : Str) ("_law_pair_right" : Str) st__law_pair_right f fd) {f_is_before : Addr} {fd_is_before : FuncData} (G_is_before : GFn P w K mg base 3 f_is_before fd_is_before ps_is_before CM.s_is_before) (m_is_before : mg ("is_before" : Str) = some (.ref f_is_before)) (k_is_before : PySem.W.keepIn K (.ref f_is_before) = true) (b_is_before : Binds K fd_is_before ps_is_before []) {f_surely_before : Addr} {fd_surely_before : FuncData} (G_surely_before : GFn P w K mg base 3 f_surely_before fd_surely_before ps_surely_before CM.s_surely_before) (m_surely_before : mg ("surely_before" : Str) = some (.ref f_surely_before)) (k_surely_before : PySem.W.keepIn K (.ref f_surely_before) = true) (b_surely_before : Binds K fd_surely_before ps_surely_before []) (kw_is_before_0_other_one_tolerance_log : KwB K fd_is_before ps_is_before 0 [("other" : Str), ("one" : Str), ("tolerance" : Str), ("log" : Str)] [3, 2, 1, 0]) (c_repr : mg ("repr" : Str) = none) (c_any : mg ("any" : Str) = none) (c_enumerate : mg ("enumerate" : Str) = none) : GFn P w K mg base 4 f fd ps__law_pair_right s__law_pair_right := by
  refine gfn_of (g := e__law_pair_right) Fu sc__law_pair_right 7 rfl fun cdv A outer s H E hr hG => ?_
  have hu1 := hu1_of hr
  have sc := sc__law_pair_right
  exact (ds_cons (ds_asg 5 sc.nd (de_and (de_ne hr.units (de_var 3) (de_var 4)) (de_one (de_lt (de_add (de_idx hu1 (de_idx hu1 (de_var 1) (de_var 3)) de_int) (de_var 2)) (de_idx hu1 (de_idx hu1 (de_var 1) (de_var 4)) de_int)))))
    (ds_cons (ds_if ((dw_and (dt_eq hr.units (de_var 3) de_int) (dw_and (dt_ne hr.units (de_var 4) de_int) (dw_and1 (dt_not (dt_val (de_var 5))))))).dt
    (ds_one (ds_ret de_bl))
    ds_nil)
    (ds_cons (ds_if (dt_ne hr.units (de_callB (CR_reprX hG hr.units) cs_reprX (by rfl) c_repr PyProof.Rows.boot_repr (da_cons (de_call G_is_before hr hG (takes_of rfl rfl rfl rfl) (by rfl) m_is_before k_is_before b_is_before (da_cons (de_var 0) (da_cons (de_var 2) (da_cons (de_var 3) (da_cons (de_var 4) da_nil)))) (aCons_len (aCons_len (aCons_len (aCons_len fun _ _ _ => aNil_len))))) da_nil)) (de_callB (CR_reprX hG hr.units) cs_reprX (by rfl) c_repr PyProof.Rows.boot_repr (da_cons (de_var 5) da_nil)))
    (ds_one (ds_ret de_bl))
    ds_nil)
    (ds_cons (ds_if (dt_ne hr.units (de_callB (CR_reprX hG hr.units) cs_reprX (by rfl) c_repr PyProof.Rows.boot_repr (da_cons (de_callK0 (idx := [3, 2, 1, 0]) G_is_before hr hG (takes_of rfl rfl rfl rfl) (by rfl) m_is_before k_is_before kw_is_before_0_other_one_tolerance_log (dk_cons (de_var 4) (dk_cons (de_var 3) (dk_cons (de_var 2) (dk_cons (de_var 0) dk_nil)))) (aCons_len (aCons_len (aCons_len (aCons_len fun _ _ _ => aNil_len))))) da_nil)) (de_callB (CR_reprX hG hr.units) cs_reprX (by rfl) c_repr PyProof.Rows.boot_repr (da_cons (de_var 5) da_nil)))
    (ds_one (ds_ret de_bl))
    ds_nil)
    (ds_cons (ds_if ((dw_or ((dw_and (dt_in hu1 de_int (de_tup (da_cons (de_fz (de_var 3)) (da_cons (de_fz (de_var 4)) da_nil)))) (dw_and1 (dt_eq hr.units (de_var 3) de_int)))).dt (dw_or1 (dt_eq hr.units (de_var 3) (de_var 4))))).dt
    (ds_one (ds_ret de_bl))
    ds_nil)
    (ds_cons (by first | exact (ds_setLc 6 rfl sc.nd (di_enum (by rfl) c_enumerate (de_var 0)) (own := [(("_law_at" : Str), 8), (("_law_call" : Str), 9)]) (blkOk_by (by first | (show blkC [("_law_book" : Str), ("_law_ends_here" : Str), ("_law_slack" : Str), ("_law_left" : Str), ("_law_right_here" : Str), ("_law_due" : Str), ("_law_own" : Str), ("_law_its" : Str), ("_law_at" : Str), ("_law_call" : Str), ("_law_a" : Str), ("_law_b" : Str)] (defScope st__law_pair_right) _ _ = true; decide +kernel) | rfl)) (by decide) (fun _ _ _ _ _ => (dg_tup 2 rfl (dgs_cons (dg_name 8 sc.nd) (dgs_cons (dg_name 9 sc.nd) dgs_nil)))) (fun _ _ _ _ _ => (dts_one (dt_eq hr.units (de_idx hu1 (de_var 9) de_int) (de_var 3)))) (fun _ _ _ _ _ => (de_fz (de_var 8))) rfl) | exact (ds_asg 6 sc.nd (de_lc rfl sc.nd (di_enum (by rfl) c_enumerate (de_var 0)) (own := [(("_law_at" : Str), 8), (("_law_call" : Str), 9)]) (blkOk_by (by first | (show blkC [("_law_book" : Str), ("_law_ends_here" : Str), ("_law_slack" : Str), ("_law_left" : Str), ("_law_right_here" : Str), ("_law_due" : Str), ("_law_own" : Str), ("_law_its" : Str), ("_law_at" : Str), ("_law_call" : Str), ("_law_a" : Str), ("_law_b" : Str)] (defScope st__law_pair_right) _ _ = true; decide +kernel) | rfl)) (by decide) (fun _ _ _ _ _ => (dg_tup 2 rfl (dgs_cons (dg_name 8 sc.nd) (dgs_cons (dg_name 9 sc.nd) dgs_nil)))) (fun _ _ _ _ _ => (dts_one (dt_eq hr.units (de_idx hu1 (de_var 9) de_int) (de_var 3)))) (fun _ _ _ _ _ => (de_fz (de_var 8))))))
    (ds_cons (by first | exact (ds_setLc 7 rfl sc.nd (di_enum (by rfl) c_enumerate (de_var 0)) (own := [(("_law_at" : Str), 8), (("_law_call" : Str), 9)]) (blkOk_by (by first | (show blkC [("_law_book" : Str), ("_law_ends_here" : Str), ("_law_slack" : Str), ("_law_left" : Str), ("_law_right_here" : Str), ("_law_due" : Str), ("_law_own" : Str), ("_law_its" : Str), ("_law_at" : Str), ("_law_call" : Str), ("_law_a" : Str), ("_law_b" : Str)] (defScope st__law_pair_right) _ _ = true; decide +kernel) | rfl)) (by decide) (fun _ _ _ _ _ => (dg_tup 2 rfl (dgs_cons (dg_name 8 sc.nd) (dgs_cons (dg_name 9 sc.nd) dgs_nil)))) (fun _ _ _ _ _ => (dts_one (dt_eq hr.units (de_idx hu1 (de_var 9) de_int) (de_var 4)))) (fun _ _ _ _ _ => (de_fz (de_var 8))) rfl) | exact (ds_asg 7 sc.nd (de_lc rfl sc.nd (di_enum (by rfl) c_enumerate (de_var 0)) (own := [(("_law_at" : Str), 8), (("_law_call" : Str), 9)]) (blkOk_by (by first | (show blkC [("_law_book" : Str), ("_law_ends_here" : Str), ("_law_slack" : Str), ("_law_left" : Str), ("_law_right_here" : Str), ("_law_due" : Str), ("_law_own" : Str), ("_law_its" : Str), ("_law_at" : Str), ("_law_call" : Str), ("_law_a" : Str), ("_law_b" : Str)] (defScope st__law_pair_right) _ _ = true; decide +kernel) | rfl)) (by decide) (fun _ _ _ _ _ => (dg_tup 2 rfl (dgs_cons (dg_name 8 sc.nd) (dgs_cons (dg_name 9 sc.nd) dgs_nil)))) (fun _ _ _ _ _ => (dts_one (dt_eq hr.units (de_idx hu1 (de_var 9) de_int) (de_var 4)))) (fun _ _ _ _ _ => (de_fz (de_var 8))))))
    (ds_one (ds_ret (de_eq hr.units (de_var 5) (de_callB (cr_any rfl) cs_any (by rfl) c_any PyProof.Rows.boot_any (da_cons (de_lc rfl sc.nd (di_seq (de_var 6)) (own := [(("_law_a" : Str), 10)]) (blkOk_by (by first | (show blkC [("_law_book" : Str), ("_law_ends_here" : Str), ("_law_slack" : Str), ("_law_left" : Str), ("_law_right_here" : Str), ("_law_due" : Str), ("_law_own" : Str), ("_law_its" : Str), ("_law_at" : Str), ("_law_call" : Str), ("_law_a" : Str), ("_law_b" : Str)] (defScope st__law_pair_right) _ _ = true; decide +kernel) | rfl)) (by decide) (fun _ _ _ _ _ => (dg_name 10 sc.nd)) (fun _ _ _ _ _ => dts_nil) (fun _ _ _ _ _ => (de_fz (de_callB (cr_any rfl) cs_any (by rfl) c_any PyProof.Rows.boot_any (da_cons (de_lc rfl sc.nd (di_seq (de_var 7)) (own := [(("_law_b" : Str), 11)]) (blkOk_by (by first | (show blkC [("_law_book" : Str), ("_law_ends_here" : Str), ("_law_slack" : Str), ("_law_left" : Str), ("_law_right_here" : Str), ("_law_due" : Str), ("_law_own" : Str), ("_law_its" : Str), ("_law_at" : Str), ("_law_call" : Str), ("_law_a" : Str), ("_law_b" : Str)] (defScope st__law_pair_right) _ _ = true; decide +kernel) | rfl)) (by decide) (fun _ _ _ _ _ => (dg_name 11 sc.nd)) (fun _ _ _ _ _ => dts_nil) (fun _ _ _ _ _ => (de_fz (de_call G_surely_before hr hG takes0 (by rfl) m_surely_before k_surely_before b_surely_before (da_cons (de_var 0) (da_cons (de_var 2) (da_cons (de_var 10) (da_cons (de_var 11) da_nil)))) (aCons_len (aCons_len (aCons_len (aCons_len fun _ _ _ => aNil_len)))))))) da_nil))))) da_nil))))))))))))
theorem sc__law_log_right : FnScope [("_law_book" : Str), ("_law_slack" : Str), ("_law_left" : Str), ("_law_ends_here" : Str), ("_law_kept" : Str), ("_law_right_here" : Str)] ps__law_log_right (defScope st__law_log_right) := ⟨rfl, rfl, rfl, by decide +kernel, rfl, by decide +kernel, by decide +kernel⟩
theorem g__law_log_right {f : Addr} {fd : FuncData} (Fu : Fun K ("_law_log_right" : Str) ("_law_log_right" : Str) st__law_log_right f fd) {f__law_ends : Addr} {fd__law_ends : FuncData} (G__law_ends : GFn P w K mg base 4 f__law_ends fd__law_ends ps__law_ends s__law_ends) (m__law_ends : mg ("_law_ends" : Str) = some (.ref f__law_ends)) (k__law_ends : PySem.W.keepIn K (.ref f__law_ends) = true) (b__law_ends : Binds K fd__law_ends ps__law_ends []) {f__law_pair_right : Addr} {fd__law_pair_right : FuncData} (G__law_pair_right : GFn P w K mg base 4 f__law_pair_right fd__law_pair_right ps__law_pair_right s__law_pair_right) (m__law_pair_right : mg ("_law_pair_right" : Str) = some (.ref f__law_pair_right)) (k__law_pair_right : PySem.W.keepIn K (.ref f__law_pair_right) = true) (b__law_pair_right : Binds K fd__law_pair_right ps__law_pair_right []) (c_repr : mg ("repr" : Str) = none) (c_all : mg ("all" : Str) = none) : GFn P w K mg base 5 f fd ps__law_log_right s__law_log_right := by
  refine gfn_of (g := e__law_log_right) Fu sc__law_log_right 4 rfl fun cdv A outer s H E hr hG => ?_
  have hu1 := hu1_of hr
  have sc := sc__law_log_right
  exact (ds_cons (by first | exact (ds_par2 3 4 rfl sc.nd (da_cons (de_nsl (de_call G__law_ends hr hG (takes_of rfl rfl rfl rfl) (by rfl) m__law_ends k__law_ends b__law_ends (da_cons (de_var 0) da_nil) (aCons_len fun _ _ _ => aNil_len))) (da_cons (de_nsl (de_callB (CR_reprX hG hr.units) cs_reprX (by rfl) c_repr PyProof.Rows.boot_repr (da_cons (de_var 0) da_nil))) da_nil))) | exact (ds_parT2 3 4 rfl sc.nd (da_cons (de_nsl (de_call G__law_ends hr hG (takes_of rfl rfl rfl rfl) (by rfl) m__law_ends k__law_ends b__law_ends (da_cons (de_var 0) da_nil) (aCons_len fun _ _ _ => aNil_len))) (da_cons (de_nsl (de_callB (CR_reprX hG hr.units) cs_reprX (by rfl) c_repr PyProof.Rows.boot_repr (da_cons (de_var 0) da_nil))) da_nil))))
    (ds_cons (ds_for (passes_of rfl) rfl (di_any (de_var 3)) (dg_name 2 sc.nd)
    (ds_one (ds_if (dt_not (dt_val (de_callB (cr_all rfl) cs_all (by rfl) c_all PyProof.Rows.boot_all (da_cons (de_lc rfl sc.nd (di_any (de_var 3)) (own := [(("_law_right_here" : Str), 5)]) (blkOk_by (by first | (show blkC [("_law_book" : Str), ("_law_slack" : Str), ("_law_left" : Str), ("_law_ends_here" : Str), ("_law_kept" : Str), ("_law_right_here" : Str)] (defScope st__law_log_right) _ _ = true; decide +kernel) | rfl)) (by decide) (fun _ _ _ _ _ => (dg_name 5 sc.nd)) (fun _ _ _ _ _ => dts_nil) (fun _ _ _ _ _ => (de_fz (de_call G__law_pair_right hr hG takes0 (by rfl) m__law_pair_right k__law_pair_right b__law_pair_right (da_cons (de_var 0) (da_cons (de_var 3) (da_cons (de_var 1) (da_cons (de_var 2) (da_cons (de_var 5) da_nil))))) (aCons_len (aCons_len (aCons_len (aCons_len (aCons_len fun _ _ _ => aNil_len))))))))) da_nil))))
    (ds_one (ds_ret de_bl))
    ds_nil)))
    (ds_one (ds_ret (de_eq hr.units (de_callB (CR_reprX hG hr.units) cs_reprX (by rfl) c_repr PyProof.Rows.boot_repr (da_cons (de_var 0) da_nil)) (de_var 4))))))
theorem sc__law_right : FnScope [("_law_pot_here" : Str), ("_law_far" : Str), ("_law_turn" : Str), ("_law_book" : Str), ("_law_gap" : Str), ("_law_slack" : Str), ("_law_at" : Str), ("_law_far_one" : Str)] ps__law_right (defScope st__law_right) := ⟨rfl, rfl, rfl, by decide +kernel, rfl, by decide +kernel, by decide +kernel⟩
theorem g__law_right {f : Addr} {fd : FuncData} (Fu : Fun K ("_law_right" : Str) ("_law_right" : Str) st__law_right f fd) {f__law_any : Addr} {fd__law_any : FuncData} (G__law_any : GFn P w K mg base 5 f__law_any fd__law_any ps__law_any CM.s_l_any) (m__law_any : mg ("_law_any" : Str) = some (.ref f__law_any)) (k__law_any : PySem.W.keepIn K (.ref f__law_any) = true) (b__law_any : Binds K fd__law_any ps__law_any []) {f__law_draw : Addr} {fd__law_draw : FuncData} (G__law_draw : GFn P w K mg base 5 f__law_draw fd__law_draw ps__law_draw CM.s_l_draw) (m__law_draw : mg ("_law_draw" : Str) = some (.ref f__law_draw)) (k__law_draw : PySem.W.keepIn K (.ref f__law_draw) = true) (b__law_draw : Binds K fd__law_draw ps__law_draw []) {f__law_log_right : Addr} {fd__law_log_right : FuncData} (G__law_log_right : GFn P w K mg base 5 f__law_log_right fd__law_log_right ps__law_log_right s__law_log_right) (m__law_log_right : mg ("_law_log_right" : Str) = some (.ref f__law_log_right)) (k__law_log_right : PySem.W.keepIn K (.ref f__law_log_right) = true) (b__law_log_right : Binds K fd__law_log_right ps__law_log_right []) {f__law_wild : Addr} {fd__law_wild : FuncData} (G__law_wild : GFn P w K mg base 5 f__law_wild fd__law_wild ps__law_wild CM.s_l_wild) (m__law_wild : mg ("_law_wild" : Str) = some (.ref f__law_wild)) (k__law_wild : PySem.W.keepIn K (.ref f__law_wild) = true) (b__law_wild : Binds K fd__law_wild ps__law_wild []) {f__law_true : Addr} {fd__law_true : FuncData} (G__law_true : GFn P w K mg base 5 f__law_true fd__law_true ps__law_true CM.s_l_true) (m__law_true : mg ("_law_true" : Str) = some (.ref f__law_true)) (k__law_true : PySem.W.keepIn K (.ref f__law_true) = true) (b__law_true : Binds K fd__law_true ps__law_true []) (c_range : mg ("range" : Str) = none) (c_max : mg ("max" : Str) = none) (c_len : mg ("len" : Str) = none) : GFn P w K mg base 6 f fd ps__law_right s__law_right := by
  refine gfn_of (g := e__law_right) Fu sc__law_right 7 rfl fun cdv A outer s H E hr hG => ?_
  have hu1 := hu1_of hr
  have sc := sc__law_right
  exact (ds_cons (ds_asg 1 sc.nd (de_pow de_int de_int))
    (ds_cons (ds_for (passes_of rfl) rfl (di_range1 (by rfl) c_range (da_cons de_int da_nil) rfl (aCons_len fun _ _ _ => aNil_len)) (dg_name 2 sc.nd)
    (ds_cons (ds_asg 3 sc.nd (de_add (de_call G__law_any hr hG (takes_of rfl rfl rfl rfl) (by rfl) m__law_any k__law_any b__law_any (da_cons (de_var 0) (da_cons (de_lst (da_cons (de_fz (de_call G__law_wild hr hG (takes_of rfl rfl rfl rfl) (by rfl) m__law_wild k__law_wild b__law_wild (da_cons (de_var 0) (da_cons de_int (da_cons de_int da_nil))) (aCons_len (aCons_len (aCons_len fun _ _ _ => aNil_len))))) (da_cons (de_fz (de_call G__law_true hr hG (takes_of rfl rfl rfl rfl) (by rfl) m__law_true k__law_true b__law_true (da_cons (de_var 0) (da_cons de_int (da_cons de_int (da_cons de_int da_nil)))) (aCons_len (aCons_len (aCons_len (aCons_len fun _ _ _ => aNil_len)))))) da_nil))) da_nil)) (aCons_len (aCons_len fun _ _ _ => aNil_len))) (de_tup (da_cons (de_fz (de_tup (da_cons de_str (da_cons de_int (da_cons (de_fz (de_neg (de_var 1))) (da_cons (de_fz (de_var 1)) da_nil)))))) da_nil))))
    (ds_cons (ds_if (dt_eq hr.units (de_call G__law_draw hr hG (takes_of rfl rfl rfl rfl) (by rfl) m__law_draw k__law_draw b__law_draw (da_cons (de_var 0) (da_cons de_int da_nil)) (aCons_len (aCons_len fun _ _ _ => aNil_len))) de_int)
    (ds_one (ds_asg 3 sc.nd (de_add (de_var 3) (de_tup (da_cons (de_fz (de_tup (da_cons de_str (da_cons de_int (da_cons (de_fz (de_var 1)) (da_cons (de_fz (de_var 1)) da_nil)))))) (da_cons (de_fz (de_tup (da_cons de_str (da_cons (de_fz (de_pow de_int de_int)) (da_cons (de_fz (de_neg (de_var 1))) (da_cons (de_fz (de_neg (de_var 1))) da_nil)))))) da_nil))))))
    ds_nil)
    (ds_cons (by first | exact (ds_par2 6 7 rfl sc.nd (da_cons (de_nsl (de_call G__law_draw hr hG (takes_of rfl rfl rfl rfl) (by rfl) m__law_draw k__law_draw b__law_draw (da_cons (de_var 0) (da_cons (de_callB CR_len cs_len (by rfl) c_len PySem.boot_len (da_cons (de_var 3) da_nil)) da_nil)) (aCons_len (aCons_len fun _ _ _ => aNil_len)))) (da_cons (de_nsl (de_call G__law_draw hr hG (takes_of rfl rfl rfl rfl) (by rfl) m__law_draw k__law_draw b__law_draw (da_cons (de_var 0) (da_cons (de_callB CR_len cs_len (by rfl) c_len PySem.boot_len (da_cons (de_var 3) da_nil)) da_nil)) (aCons_len (aCons_len fun _ _ _ => aNil_len)))) da_nil))) | exact (ds_parT2 6 7 rfl sc.nd (da_cons (de_nsl (de_call G__law_draw hr hG (takes_of rfl rfl rfl rfl) (by rfl) m__law_draw k__law_draw b__law_draw (da_cons (de_var 0) (da_cons (de_callB CR_len cs_len (by rfl) c_len PySem.boot_len (da_cons (de_var 3) da_nil)) da_nil)) (aCons_len (aCons_len fun _ _ _ => aNil_len)))) (da_cons (de_nsl (de_call G__law_draw hr hG (takes_of rfl rfl rfl rfl) (by rfl) m__law_draw k__law_draw b__law_draw (da_cons (de_var 0) (da_cons (de_callB CR_len cs_len (by rfl) c_len PySem.boot_len (da_cons (de_var 3) da_nil)) da_nil)) (aCons_len (aCons_len fun _ _ _ => aNil_len)))) da_nil))))
    (ds_cons (ds_asg 4 sc.nd (de_callB CR_max cs_max (by rfl) c_max PyProof.Rows.boot_max (da_cons de_int (da_cons (de_sub (de_idx hu1 (de_idx hu1 (de_var 3) (de_var 6)) de_int) (de_idx hu1 (de_idx hu1 (de_var 3) (de_var 7)) de_int)) da_nil))))
    (ds_one (ds_for (passes_of rfl) rfl (di_seq (de_tup (da_cons de_int (da_cons (de_fz (de_var 4)) (da_cons (de_fz (de_callB CR_max cs_max (by rfl) c_max PyProof.Rows.boot_max (da_cons de_int (da_cons (de_sub (de_var 4) de_int) da_nil)))) (da_cons (de_fz (de_mul de_int (de_var 1))) (da_cons (de_fz (de_pow de_int de_int)) da_nil))))))) (dg_name 5 sc.nd)
    (ds_one (ds_if (dt_not (dt_val (de_call G__law_log_right hr hG (takes_of rfl rfl rfl rfl) (by rfl) m__law_log_right k__law_log_right b__law_log_right (da_cons (de_var 3) (da_cons (de_var 5) da_nil)) (aCons_len (aCons_len fun _ _ _ => aNil_len)))))
    (ds_one (ds_ret de_bl))
    ds_nil)))))))))
    (ds_one (ds_ret de_bl))))
theorem sc_law : FnScope [("_law_script" : Str), ("_law_k" : Str)] ps_law (defScope st_law) := ⟨rfl, rfl, rfl, by decide +kernel, rfl, by decide +kernel, by decide +kernel⟩
theorem g_law {f : Addr} {fd : FuncData} (Fu : Fun K ("law" : Str) ("law" : Str) st_law f fd) {f__law_right : Addr} {fd__law_right : FuncData} (G__law_right : GFn P w K mg base 6 f__law_right fd__law_right ps__law_right s__law_right) (m__law_right : mg ("_law_right" : Str) = some (.ref f__law_right)) (k__law_right : PySem.W.keepIn K (.ref f__law_right) = true) (b__law_right : Binds K fd__law_right ps__law_right []) {f__law_pot : Addr} {fd__law_pot : FuncData} (G__law_pot : GFn P w K mg base 6 f__law_pot fd__law_pot ps__law_pot CM.s_l_pot) (m__law_pot : mg ("_law_pot" : Str) = some (.ref f__law_pot)) (k__law_pot : PySem.W.keepIn K (.ref f__law_pot) = true) (b__law_pot : Binds K fd__law_pot ps__law_pot []) (c_all : mg ("all" : Str) = none) (c_range : mg ("range" : Str) = none) (c_max : mg ("max" : Str) = none) (c_min : mg ("min" : Str) = none) (c_len : mg ("len" : Str) = none) : GFn P w K mg base 7 f fd ps_law s_law := by
  refine gfn_of (g := e_law) Fu sc_law 1 rfl fun cdv A outer s H E hr hG => ?_
  have hu1 := hu1_of hr
  have sc := sc_law
  exact (ds_one (ds_ret (de_callB (cr_all rfl) cs_all (by rfl) c_all PyProof.Rows.boot_all (da_cons (de_lc rfl sc.nd (di_range1 (by rfl) c_range (da_cons (de_callB CR_max cs_max (by rfl) c_max PyProof.Rows.boot_max (da_cons de_int (da_cons (de_callB CR_min cs_min (by rfl) c_min PyProof.Rows.boot_min (da_cons de_int (da_cons (de_callB CR_len cs_len (by rfl) c_len PySem.boot_len (da_cons (de_var 0) da_nil)) da_nil))) da_nil))) da_nil) rfl (aCons_len fun _ _ _ => aNil_len)) (own := [(("_law_k" : Str), 1)]) (blkOk_by (by first | (show blkC [("_law_script" : Str), ("_law_k" : Str)] (defScope st_law) _ _ = true; decide +kernel) | rfl)) (by decide) (fun _ _ _ _ _ => (dg_name 1 sc.nd)) (fun _ _ _ _ _ => dts_nil) (fun _ _ _ _ _ => (de_fz (de_call G__law_right hr hG takes0 (by rfl) m__law_right k__law_right b__law_right (da_cons (de_call G__law_pot hr hG takes0 (by rfl) m__law_pot k__law_pot b__law_pot (da_cons (de_var 0) (da_cons (de_var 1) da_nil)) (aCons_len (aCons_len fun _ _ _ => aNil_len))) da_nil) (aCons_len fun _ _ _ => aNil_len))))) da_nil))))
end
end K06
namespace K06
open PySem PySem.Spec PyProof.Rows L2 DL
theorem all_mk {l : PySem.W.OpenLaw} {w : World} {K : PySem.W.Frag} {h : Heap} {mg : Str → Option Value} {fa f1 f2 f3 f4 f5 f6 f7 f8 f9 f10 f11 f12 f13 f14 f15 f16 f17 f18 f19 f20 f21 : Addr} (X : K.In h) (G : h.Ns mainGlobals mg) (hfa : mg "law" = some (.ref fa))
    {od1 an1 : Option Addr} {sl1 : Array (Option Value)} {oc1 kV1 dc1 pm1 cd1 ct1 : Value}
    {od2 an2 : Option Addr} {sl2 : Array (Option Value)} {oc2 kV2 dc2 pm2 cd2 ct2 : Value}
    {od3 an3 : Option Addr} {sl3 : Array (Option Value)} {oc3 kV3 dc3 pm3 cd3 ct3 : Value}
    {od4 an4 : Option Addr} {sl4 : Array (Option Value)} {oc4 kV4 dc4 pm4 cd4 ct4 : Value}
    {od5 an5 : Option Addr} {sl5 : Array (Option Value)} {oc5 kV5 dc5 pm5 cd5 ct5 : Value}
    {od6 an6 : Option Addr} {sl6 : Array (Option Value)} {oc6 kV6 dc6 pm6 cd6 ct6 : Value}
    {od7 an7 : Option Addr} {sl7 : Array (Option Value)} {oc7 kV7 dc7 pm7 cd7 ct7 : Value}
    {od8 an8 : Option Addr} {sl8 : Array (Option Value)} {oc8 kV8 dc8 pm8 cd8 ct8 : Value}
    {od9 an9 : Option Addr} {sl9 : Array (Option Value)} {oc9 kV9 dc9 pm9 cd9 ct9 : Value}
    {od10 an10 : Option Addr} {sl10 : Array (Option Value)} {oc10 kV10 dc10 pm10 cd10 ct10 : Value}
    {od11 an11 : Option Addr} {sl11 : Array (Option Value)} {oc11 kV11 dc11 pm11 cd11 ct11 : Value}
    {od12 an12 : Option Addr} {sl12 : Array (Option Value)} {oc12 kV12 dc12 pm12 cd12 ct12 : Value}
    {od13 an13 : Option Addr} {sl13 : Array (Option Value)} {oc13 kV13 dc13 pm13 cd13 ct13 : Value}
    {od14 an14 : Option Addr} {sl14 : Array (Option Value)} {oc14 kV14 dc14 pm14 cd14 ct14 : Value}
    {od15 an15 : Option Addr} {sl15 : Array (Option Value)} {oc15 kV15 dc15 pm15 cd15 ct15 : Value}
    {od16 an16 : Option Addr} {sl16 : Array (Option Value)} {oc16 kV16 dc16 pm16 cd16 ct16 : Value}
    {od17 an17 : Option Addr} {sl17 : Array (Option Value)} {oc17 kV17 dc17 pm17 cd17 ct17 : Value}
    {od18 an18 : Option Addr} {sl18 : Array (Option Value)} {oc18 kV18 dc18 pm18 cd18 ct18 : Value}
    {od19 an19 : Option Addr} {sl19 : Array (Option Value)} {oc19 kV19 dc19 pm19 cd19 ct19 : Value}
    {od20 an20 : Option Addr} {sl20 : Array (Option Value)} {oc20 kV20 dc20 pm20 cd20 ct20 : Value}
    {od21 an21 : Option Addr} {sl21 : Array (Option Value)} {oc21 kV21 dc21 pm21 cd21 ct21 : Value}
    (a1 : PySem.W.nsIn K mainGlobals ("_law_draw" : Str) = some (some (.ref f1)))
    (l1 : K.lookup f1 = some ⟨oc1, od1, .func (PySem.W.fnOf ("_law_draw" : Str) ("_law_draw" : Str) (defArgs st__law_draw) (defBody st__law_draw) (defScope st__law_draw) .none kV1 dc1 pm1 an1 cd1 ct1), sl1⟩)
    (c1 : PySem.W.codeIn K cd1 ("_law_draw" : Str) = true) (k1 : PySem.W.keepIn K (.ref f1) = true)
    (a2 : PySem.W.nsIn K mainGlobals ("_law_any" : Str) = some (some (.ref f2)))
    (l2 : K.lookup f2 = some ⟨oc2, od2, .func (PySem.W.fnOf ("_law_any" : Str) ("_law_any" : Str) (defArgs st__law_any) (defBody st__law_any) (defScope st__law_any) .none kV2 dc2 pm2 an2 cd2 ct2), sl2⟩)
    (c2 : PySem.W.codeIn K cd2 ("_law_any" : Str) = true) (k2 : PySem.W.keepIn K (.ref f2) = true)
    (a3 : PySem.W.nsIn K mainGlobals ("_law_worths" : Str) = some (some (.ref f3)))
    (l3 : K.lookup f3 = some ⟨oc3, od3, .func (PySem.W.fnOf ("_law_worths" : Str) ("_law_worths" : Str) (defArgs st__law_worths) (defBody st__law_worths) (defScope st__law_worths) .none kV3 dc3 pm3 an3 cd3 ct3), sl3⟩)
    (c3 : PySem.W.codeIn K cd3 ("_law_worths" : Str) = true) (k3 : PySem.W.keepIn K (.ref f3) = true)
    (a4 : PySem.W.nsIn K mainGlobals ("_law_ends" : Str) = some (some (.ref f4)))
    (l4 : K.lookup f4 = some ⟨oc4, od4, .func (PySem.W.fnOf ("_law_ends" : Str) ("_law_ends" : Str) (defArgs st__law_ends) (defBody st__law_ends) (defScope st__law_ends) .none kV4 dc4 pm4 an4 cd4 ct4), sl4⟩)
    (c4 : PySem.W.codeIn K cd4 ("_law_ends" : Str) = true) (k4 : PySem.W.keepIn K (.ref f4) = true)
    (a5 : PySem.W.nsIn K mainGlobals ("values_of" : Str) = some (some (.ref f5)))
    (l5 : K.lookup f5 = some ⟨oc5, od5, .func (PySem.W.fnOf ("values_of" : Str) ("values_of" : Str) (defArgs st_values_of) (defBody st_values_of) (defScope st_values_of) .none kV5 dc5 pm5 an5 cd5 ct5), sl5⟩)
    (c5 : PySem.W.codeIn K cd5 ("values_of" : Str) = true) (k5 : PySem.W.keepIn K (.ref f5) = true)
    (a6 : PySem.W.nsIn K mainGlobals ("check_value" : Str) = some (some (.ref f6)))
    (l6 : K.lookup f6 = some ⟨oc6, od6, .func (PySem.W.fnOf ("check_value" : Str) ("check_value" : Str) (defArgs st_check_value) (defBody st_check_value) (defScope st_check_value) .none kV6 dc6 pm6 an6 cd6 ct6), sl6⟩)
    (c6 : PySem.W.codeIn K cd6 ("check_value" : Str) = true) (k6 : PySem.W.keepIn K (.ref f6) = true)
    (a7 : PySem.W.nsIn K mainGlobals ("is_earlier" : Str) = some (some (.ref f7)))
    (l7 : K.lookup f7 = some ⟨oc7, od7, .func (PySem.W.fnOf ("is_earlier" : Str) ("is_earlier" : Str) (defArgs st_is_earlier) (defBody st_is_earlier) (defScope st_is_earlier) .none kV7 dc7 pm7 an7 cd7 ct7), sl7⟩)
    (c7 : PySem.W.codeIn K cd7 ("is_earlier" : Str) = true) (k7 : PySem.W.keepIn K (.ref f7) = true)
    (a8 : PySem.W.nsIn K mainGlobals ("ends_of" : Str) = some (some (.ref f8)))
    (l8 : K.lookup f8 = some ⟨oc8, od8, .func (PySem.W.fnOf ("ends_of" : Str) ("ends_of" : Str) (defArgs st_ends_of) (defBody st_ends_of) (defScope st_ends_of) .none kV8 dc8 pm8 an8 cd8 ct8), sl8⟩)
    (c8 : PySem.W.codeIn K cd8 ("ends_of" : Str) = true) (k8 : PySem.W.keepIn K (.ref f8) = true)
    (a9 : PySem.W.nsIn K mainGlobals ("is_before" : Str) = some (some (.ref f9)))
    (l9 : K.lookup f9 = some ⟨oc9, od9, .func (PySem.W.fnOf ("is_before" : Str) ("is_before" : Str) (defArgs st_is_before) (defBody st_is_before) (defScope st_is_before) .none kV9 dc9 pm9 an9 cd9 ct9), sl9⟩)
    (c9 : PySem.W.codeIn K cd9 ("is_before" : Str) = true) (k9 : PySem.W.keepIn K (.ref f9) = true)
    (a10 : PySem.W.nsIn K mainGlobals ("is_integer" : Str) = some (some (.ref f10)))
    (l10 : K.lookup f10 = some ⟨oc10, od10, .func (PySem.W.fnOf ("is_integer" : Str) ("is_integer" : Str) (defArgs st_is_integer) (defBody st_is_integer) (defScope st_is_integer) .none kV10 dc10 pm10 an10 cd10 ct10), sl10⟩)
    (c10 : PySem.W.codeIn K cd10 ("is_integer" : Str) = true) (k10 : PySem.W.keepIn K (.ref f10) = true)
    (a11 : PySem.W.nsIn K mainGlobals ("check_index" : Str) = some (some (.ref f11)))
    (l11 : K.lookup f11 = some ⟨oc11, od11, .func (PySem.W.fnOf ("check_index" : Str) ("check_index" : Str) (defArgs st_check_index) (defBody st_check_index) (defScope st_check_index) .none kV11 dc11 pm11 an11 cd11 ct11), sl11⟩)
    (c11 : PySem.W.codeIn K cd11 ("check_index" : Str) = true) (k11 : PySem.W.keepIn K (.ref f11) = true)
    (a12 : PySem.W.nsIn K mainGlobals ("is_sure" : Str) = some (some (.ref f12)))
    (l12 : K.lookup f12 = some ⟨oc12, od12, .func (PySem.W.fnOf ("is_sure" : Str) ("is_sure" : Str) (defArgs st_is_sure) (defBody st_is_sure) (defScope st_is_sure) .none kV12 dc12 pm12 an12 cd12 ct12), sl12⟩)
    (c12 : PySem.W.codeIn K cd12 ("is_sure" : Str) = true) (k12 : PySem.W.keepIn K (.ref f12) = true)
    (a13 : PySem.W.nsIn K mainGlobals ("surely_before" : Str) = some (some (.ref f13)))
    (l13 : K.lookup f13 = some ⟨oc13, od13, .func (PySem.W.fnOf ("surely_before" : Str) ("surely_before" : Str) (defArgs st_surely_before) (defBody st_surely_before) (defScope st_surely_before) .none kV13 dc13 pm13 an13 cd13 ct13), sl13⟩)
    (c13 : PySem.W.codeIn K cd13 ("surely_before" : Str) = true) (k13 : PySem.W.keepIn K (.ref f13) = true)
    (a14 : PySem.W.nsIn K mainGlobals ("_law_pair_right" : Str) = some (some (.ref f14)))
    (l14 : K.lookup f14 = some ⟨oc14, od14, .func (PySem.W.fnOf ("_law_pair_right" : Str) ("_law_pair_right" : Str) (defArgs st__law_pair_right) (defBody st__law_pair_right) (defScope st__law_pair_right) .none kV14 dc14 pm14 an14 cd14 ct14), sl14⟩)
    (c14 : PySem.W.codeIn K cd14 ("_law_pair_right" : Str) = true) (k14 : PySem.W.keepIn K (.ref f14) = true)
    (a15 : PySem.W.nsIn K mainGlobals ("_law_log_right" : Str) = some (some (.ref f15)))
    (l15 : K.lookup f15 = some ⟨oc15, od15, .func (PySem.W.fnOf ("_law_log_right" : Str) ("_law_log_right" : Str) (defArgs st__law_log_right) (defBody st__law_log_right) (defScope st__law_log_right) .none kV15 dc15 pm15 an15 cd15 ct15), sl15⟩)
    (c15 : PySem.W.codeIn K cd15 ("_law_log_right" : Str) = true) (k15 : PySem.W.keepIn K (.ref f15) = true)
    (a16 : PySem.W.nsIn K mainGlobals ("_law_mixed" : Str) = some (some (.ref f16)))
    (l16 : K.lookup f16 = some ⟨oc16, od16, .func (PySem.W.fnOf ("_law_mixed" : Str) ("_law_mixed" : Str) (defArgs st__law_mixed) (defBody st__law_mixed) (defScope st__law_mixed) .none kV16 dc16 pm16 an16 cd16 ct16), sl16⟩)
    (c16 : PySem.W.codeIn K cd16 ("_law_mixed" : Str) = true) (k16 : PySem.W.keepIn K (.ref f16) = true)
    (a17 : PySem.W.nsIn K mainGlobals ("_law_wild" : Str) = some (some (.ref f17)))
    (l17 : K.lookup f17 = some ⟨oc17, od17, .func (PySem.W.fnOf ("_law_wild" : Str) ("_law_wild" : Str) (defArgs st__law_wild) (defBody st__law_wild) (defScope st__law_wild) .none kV17 dc17 pm17 an17 cd17 ct17), sl17⟩)
    (c17 : PySem.W.codeIn K cd17 ("_law_wild" : Str) = true) (k17 : PySem.W.keepIn K (.ref f17) = true)
    (a18 : PySem.W.nsIn K mainGlobals ("_law_true" : Str) = some (some (.ref f18)))
    (l18 : K.lookup f18 = some ⟨oc18, od18, .func (PySem.W.fnOf ("_law_true" : Str) ("_law_true" : Str) (defArgs st__law_true) (defBody st__law_true) (defScope st__law_true) .none kV18 dc18 pm18 an18 cd18 ct18), sl18⟩)
    (c18 : PySem.W.codeIn K cd18 ("_law_true" : Str) = true) (k18 : PySem.W.keepIn K (.ref f18) = true)
    (a19 : PySem.W.nsIn K mainGlobals ("_law_right" : Str) = some (some (.ref f19)))
    (l19 : K.lookup f19 = some ⟨oc19, od19, .func (PySem.W.fnOf ("_law_right" : Str) ("_law_right" : Str) (defArgs st__law_right) (defBody st__law_right) (defScope st__law_right) .none kV19 dc19 pm19 an19 cd19 ct19), sl19⟩)
    (c19 : PySem.W.codeIn K cd19 ("_law_right" : Str) = true) (k19 : PySem.W.keepIn K (.ref f19) = true)
    (a20 : PySem.W.nsIn K mainGlobals ("_law_pot" : Str) = some (some (.ref f20)))
    (l20 : K.lookup f20 = some ⟨oc20, od20, .func (PySem.W.fnOf ("_law_pot" : Str) ("_law_pot" : Str) (defArgs st__law_pot) (defBody st__law_pot) (defScope st__law_pot) .none kV20 dc20 pm20 an20 cd20 ct20), sl20⟩)
    (c20 : PySem.W.codeIn K cd20 ("_law_pot" : Str) = true) (k20 : PySem.W.keepIn K (.ref f20) = true)
    (a21 : PySem.W.nsIn K mainGlobals ("law" : Str) = some (some (.ref f21)))
    (l21 : K.lookup f21 = some ⟨oc21, od21, .func (PySem.W.fnOf ("law" : Str) ("law" : Str) (defArgs st_law) (defBody st_law) (defScope st_law) .none kV21 dc21 pm21 an21 cd21 ct21), sl21⟩)
    (c21 : PySem.W.codeIn K cd21 ("law" : Str) = true) (k21 : PySem.W.keepIn K (.ref f21) = true)
    (z_len : PySem.W.nsIn K mainGlobals ("len" : Str) = some none)
    (z_sorted : PySem.W.nsIn K mainGlobals ("sorted" : Str) = some none)
    (z_set : PySem.W.nsIn K mainGlobals ("set" : Str) = some none)
    (z_min : PySem.W.nsIn K mainGlobals ("min" : Str) = some none)
    (z_max : PySem.W.nsIn K mainGlobals ("max" : Str) = some none)
    (z_tuple : PySem.W.nsIn K mainGlobals ("tuple" : Str) = some none)
    (z_isinstance : PySem.W.nsIn K mainGlobals ("isinstance" : Str) = some none)
    (z_bool : PySem.W.nsIn K mainGlobals ("bool" : Str) = some none)
    (z_int : PySem.W.nsIn K mainGlobals ("int" : Str) = some none)
    {t_LOWEST : Tok} (z_LOWEST : PySem.W.nsIn K mainGlobals ("LOWEST" : Str) = some (some (.int (-1000000000000000000) t_LOWEST)))
    (z_repr : PySem.W.nsIn K mainGlobals ("repr" : Str) = some none)
    (z_any : PySem.W.nsIn K mainGlobals ("any" : Str) = some none)
    (z_enumerate : PySem.W.nsIn K mainGlobals ("enumerate" : Str) = some none)
    (z_all : PySem.W.nsIn K mainGlobals ("all" : Str) = some none)
    (z_list : PySem.W.nsIn K mainGlobals ("list" : Str) = some none)
    (z_range : PySem.W.nsIn K mainGlobals ("range" : Str) = some none)
    (z_abs : PySem.W.nsIn K mainGlobals ("abs" : Str) = some none) :
    ∃ fd : FuncData, (∀ (s : Shared) (v : Value), BindsTo s fd ⟨[v], []⟩ [(("_law_script" : Str), v)]) ∧ ∀ base : Heap, K.In base → base.Ns mainGlobals mg → GFn l.prog w K mg base 7 fa fd [("_law_script" : Str)] s_law := by
  have e := hfa.symm.trans (PySem.W.mg_of X G a21)
  cases e
  have F1 := fun_mk (st := st__law_draw) l1 c1 k1
  have b1 := F1.binds (ps := ps__law_draw) fun _ _ _ _ _ _ us hl => match us, hl with | [_, _], _ => rfl
  have F2 := fun_mk (st := st__law_any) l2 c2 k2
  have b2 := F2.binds (ps := ps__law_any) fun _ _ _ _ _ _ us hl => match us, hl with | [_, _], _ => rfl
  have F3 := fun_mk (st := st__law_worths) l3 c3 k3
  have b3 := F3.binds (ps := ps__law_worths) fun _ _ _ _ _ _ us hl => match us, hl with | [_], _ => rfl
  have F4 := fun_mk (st := st__law_ends) l4 c4 k4
  have b4 := F4.binds (ps := ps__law_ends) fun _ _ _ _ _ _ us hl => match us, hl with | [_], _ => rfl
  have F5 := fun_mk (st := st_values_of) l5 c5 k5
  have b5 := F5.binds (ps := ps_values_of) fun _ _ _ _ _ _ us hl => match us, hl with | [_], _ => rfl
  have F6 := fun_mk (st := st_check_value) l6 c6 k6
  have b6 := F6.binds (ps := ps_check_value) fun _ _ _ _ _ _ us hl => match us, hl with | [_, _], _ => rfl
  have F7 := fun_mk (st := st_is_earlier) l7 c7 k7
  have b7 := F7.binds (ps := ps_is_earlier) fun _ _ _ _ _ _ us hl => match us, hl with | [_, _, _, _], _ => rfl
  have F8 := fun_mk (st := st_ends_of) l8 c8 k8
  have b8 := F8.binds (ps := ps_ends_of) fun _ _ _ _ _ _ us hl => match us, hl with | [_], _ => rfl
  have F9 := fun_mk (st := st_is_before) l9 c9 k9
  have b9 := F9.binds (ps := ps_is_before) fun _ _ _ _ _ _ us hl => match us, hl with | [_, _, _, _], _ => rfl
  have F10 := fun_mk (st := st_is_integer) l10 c10 k10
  have b10 := F10.binds (ps := ps_is_integer) fun _ _ _ _ _ _ us hl => match us, hl with | [_, _, _], _ => rfl
  have F11 := fun_mk (st := st_check_index) l11 c11 k11
  have b11 := F11.binds (ps := ps_check_index) fun _ _ _ _ _ _ us hl => match us, hl with | [_, _], _ => rfl
  have F12 := fun_mk (st := st_is_sure) l12 c12 k12
  have b12 := F12.binds (ps := ps_is_sure) fun _ _ _ _ _ _ us hl => match us, hl with | [_, _, _], _ => rfl
  have F13 := fun_mk (st := st_surely_before) l13 c13 k13
  have b13 := F13.binds (ps := ps_surely_before) fun _ _ _ _ _ _ us hl => match us, hl with | [_, _, _, _], _ => rfl
  have F14 := fun_mk (st := st__law_pair_right) l14 c14 k14
  have b14 := F14.binds (ps := ps__law_pair_right) fun _ _ _ _ _ _ us hl => match us, hl with | [_, _, _, _, _], _ => rfl
  have F15 := fun_mk (st := st__law_log_right) l15 c15 k15
  have b15 := F15.binds (ps := ps__law_log_right) fun _ _ _ _ _ _ us hl => match us, hl with | [_, _], _ => rfl
  have F16 := fun_mk (st := st__law_mixed) l16 c16 k16
  have b16 := F16.binds (ps := ps__law_mixed) fun _ _ _ _ _ _ us hl => match us, hl with | [_, _], _ => rfl
  have F17 := fun_mk (st := st__law_wild) l17 c17 k17
  have b17 := F17.binds (ps := ps__law_wild) fun _ _ _ _ _ _ us hl => match us, hl with | [_, _, _], _ => rfl
  have F18 := fun_mk (st := st__law_true) l18 c18 k18
  have b18 := F18.binds (ps := ps__law_true) fun _ _ _ _ _ _ us hl => match us, hl with | [_, _, _, _], _ => rfl
  have F19 := fun_mk (st := st__law_right) l19 c19 k19
  have b19 := F19.binds (ps := ps__law_right) fun _ _ _ _ _ _ us hl => match us, hl with | [_], _ => rfl
  have F20 := fun_mk (st := st__law_pot) l20 c20 k20
  have b20 := F20.binds (ps := ps__law_pot) fun _ _ _ _ _ _ us hl => match us, hl with | [_, _], _ => rfl
  have F21 := fun_mk (st := st_law) l21 c21 k21
  have kw_is_before_0_other_one_tolerance_log : KwB K (PySem.W.fnOf ("is_before" : Str) ("is_before" : Str) (defArgs st_is_before) (defBody st_is_before) (defScope st_is_before) .none kV9 dc9 pm9 an9 cd9 ct9) ps_is_before 0 [("other" : Str), ("one" : Str), ("tolerance" : Str), ("log" : Str)] [3, 2, 1, 0] := fun s us ws _ h1 h2 => match us, h1, ws, h2 with | [], _, [w0, w1, w2, w3], _ => ⟨[w3, w2, w1, w0], rfl, .of_eq rfl⟩
  refine ⟨PySem.W.fnOf "law" "law" (defArgs st_law) (defBody st_law) (defScope st_law) .none kV21 dc21 pm21 an21 cd21 ct21, fun s v => .of_eq rfl, fun base _ _ => ?_⟩
  have G1 := g__law_draw (P := l.prog) (w := w) (mg := mg) (base := base) F1 
  have G2 := g__law_any (P := l.prog) (w := w) (mg := mg) (base := base) F2 (G__law_draw := G1.mono (by decide)) (m__law_draw := PySem.W.mg_of X G a1) (k__law_draw := k1) (b__law_draw := b1) (c_len := PySem.W.mg_none_of X G z_len)
  have G3 := g__law_worths (P := l.prog) (w := w) (mg := mg) (base := base) F3 (c_sorted := PySem.W.mg_none_of X G z_sorted) (c_set := PySem.W.mg_none_of X G z_set)
  have G4 := g__law_ends (P := l.prog) (w := w) (mg := mg) (base := base) F4 (G__law_worths := G3.mono (by decide)) (m__law_worths := PySem.W.mg_of X G a3) (k__law_worths := k3) (b__law_worths := b3) (c_min := PySem.W.mg_none_of X G z_min) (c_max := PySem.W.mg_none_of X G z_max)
  have G5 := g_values_of (P := l.prog) (w := w) (mg := mg) (base := base) F5 (c_tuple := PySem.W.mg_none_of X G z_tuple) (c_sorted := PySem.W.mg_none_of X G z_sorted)
  have G6 := g_check_value (P := l.prog) (w := w) (mg := mg) (base := base) F6 (G_values_of := G5.mono (by decide)) (m_values_of := PySem.W.mg_of X G a5) (k_values_of := k5) (b_values_of := b5) (c_isinstance := PySem.W.mg_none_of X G z_isinstance) (c_bool := PySem.W.mg_none_of X G z_bool) (c_int := PySem.W.mg_none_of X G z_int)
  have G7 := g_is_earlier (P := l.prog) (w := w) (mg := mg) (base := base) F7 
  have G8 := g_ends_of (P := l.prog) (w := w) (mg := mg) (base := base) F8 (G_values_of := G5.mono (by decide)) (m_values_of := PySem.W.mg_of X G a5) (k_values_of := k5) (b_values_of := b5) (c_min := PySem.W.mg_none_of X G z_min) (c_LOWEST := PySem.W.mg_of X G z_LOWEST) (c_max := PySem.W.mg_none_of X G z_max)
  have G9 := g_is_before (P := l.prog) (w := w) (mg := mg) (base := base) F9 (G_check_value := G6.mono (by decide)) (m_check_value := PySem.W.mg_of X G a6) (k_check_value := k6) (b_check_value := b6) (G_is_earlier := G7.mono (by decide)) (m_is_earlier := PySem.W.mg_of X G a7) (k_is_earlier := k7) (b_is_earlier := b7) (G_ends_of := G8.mono (by decide)) (m_ends_of := PySem.W.mg_of X G a8) (k_ends_of := k8) (b_ends_of := b8)
  have G10 := g_is_integer (P := l.prog) (w := w) (mg := mg) (base := base) F10 (c_isinstance := PySem.W.mg_none_of X G z_isinstance) (c_int := PySem.W.mg_none_of X G z_int) (c_bool := PySem.W.mg_none_of X G z_bool)
  have G11 := g_check_index (P := l.prog) (w := w) (mg := mg) (base := base) F11 (G_is_integer := G10.mono (by decide)) (m_is_integer := PySem.W.mg_of X G a10) (k_is_integer := k10) (b_is_integer := b10) (c_len := PySem.W.mg_none_of X G z_len)
  have G12 := g_is_sure (P := l.prog) (w := w) (mg := mg) (base := base) F12 
  have G13 := g_surely_before (P := l.prog) (w := w) (mg := mg) (base := base) F13 (G_check_index := G11.mono (by decide)) (m_check_index := PySem.W.mg_of X G a11) (k_check_index := k11) (b_check_index := b11) (G_is_sure := G12.mono (by decide)) (m_is_sure := PySem.W.mg_of X G a12) (k_is_sure := k12) (b_is_sure := b12)
  have G14 := g__law_pair_right (P := l.prog) (w := w) (mg := mg) (base := base) F14 (G_is_before := G9.mono (by decide)) (m_is_before := PySem.W.mg_of X G a9) (k_is_before := k9) (b_is_before := b9) (G_surely_before := G13.mono (by decide)) (m_surely_before := PySem.W.mg_of X G a13) (k_surely_before := k13) (b_surely_before := b13) (kw_is_before_0_other_one_tolerance_log := kw_is_before_0_other_one_tolerance_log) (c_repr := PySem.W.mg_none_of X G z_repr) (c_any := PySem.W.mg_none_of X G z_any) (c_enumerate := PySem.W.mg_none_of X G z_enumerate)
  have G15 := g__law_log_right (P := l.prog) (w := w) (mg := mg) (base := base) F15 (G__law_ends := G4.mono (by decide)) (m__law_ends := PySem.W.mg_of X G a4) (k__law_ends := k4) (b__law_ends := b4) (G__law_pair_right := G14.mono (by decide)) (m__law_pair_right := PySem.W.mg_of X G a14) (k__law_pair_right := k14) (b__law_pair_right := b14) (c_repr := PySem.W.mg_none_of X G z_repr) (c_all := PySem.W.mg_none_of X G z_all)
  have G16 := g__law_mixed (P := l.prog) (w := w) (mg := mg) (base := base) F16 (G__law_draw := G1.mono (by decide)) (m__law_draw := PySem.W.mg_of X G a1) (k__law_draw := k1) (b__law_draw := b1) (c_list := PySem.W.mg_none_of X G z_list) (c_len := PySem.W.mg_none_of X G z_len)
  have G17 := g__law_wild (P := l.prog) (w := w) (mg := mg) (base := base) F17 (G__law_draw := G1.mono (by decide)) (m__law_draw := PySem.W.mg_of X G a1) (k__law_draw := k1) (b__law_draw := b1) (G__law_mixed := G16.mono (by decide)) (m__law_mixed := PySem.W.mg_of X G a16) (k__law_mixed := k16) (b__law_mixed := b16) (G__law_any := G2.mono (by decide)) (m__law_any := PySem.W.mg_of X G a2) (k__law_any := k2) (b__law_any := b2) (c_range := PySem.W.mg_none_of X G z_range) (c_tuple := PySem.W.mg_none_of X G z_tuple)
  have G18 := g__law_true (P := l.prog) (w := w) (mg := mg) (base := base) F18 (G__law_mixed := G16.mono (by decide)) (m__law_mixed := PySem.W.mg_of X G a16) (k__law_mixed := k16) (b__law_mixed := b16) (G__law_any := G2.mono (by decide)) (m__law_any := PySem.W.mg_of X G a2) (k__law_any := k2) (b__law_any := b2) (G__law_draw := G1.mono (by decide)) (m__law_draw := PySem.W.mg_of X G a1) (k__law_draw := k1) (b__law_draw := b1) (c_range := PySem.W.mg_none_of X G z_range) (c_tuple := PySem.W.mg_none_of X G z_tuple) (c_list := PySem.W.mg_none_of X G z_list) (c_min := PySem.W.mg_none_of X G z_min) (c_max := PySem.W.mg_none_of X G z_max)
  have G19 := g__law_right (P := l.prog) (w := w) (mg := mg) (base := base) F19 (G__law_any := G2.mono (by decide)) (m__law_any := PySem.W.mg_of X G a2) (k__law_any := k2) (b__law_any := b2) (G__law_draw := G1.mono (by decide)) (m__law_draw := PySem.W.mg_of X G a1) (k__law_draw := k1) (b__law_draw := b1) (G__law_log_right := G15.mono (by decide)) (m__law_log_right := PySem.W.mg_of X G a15) (k__law_log_right := k15) (b__law_log_right := b15) (G__law_wild := G17.mono (by decide)) (m__law_wild := PySem.W.mg_of X G a17) (k__law_wild := k17) (b__law_wild := b17) (G__law_true := G18.mono (by decide)) (m__law_true := PySem.W.mg_of X G a18) (k__law_true := k18) (b__law_true := b18) (c_range := PySem.W.mg_none_of X G z_range) (c_max := PySem.W.mg_none_of X G z_max) (c_len := PySem.W.mg_none_of X G z_len)
  have G20 := g__law_pot (P := l.prog) (w := w) (mg := mg) (base := base) F20 (c_len := PySem.W.mg_none_of X G z_len) (c_int := PySem.W.mg_none_of X G z_int) (c_abs := PySem.W.mg_none_of X G z_abs)
  exact g_law (P := l.prog) (w := w) (mg := mg) (base := base) F21 (G__law_right := G19.mono (by decide)) (m__law_right := PySem.W.mg_of X G a19) (k__law_right := k19) (b__law_right := b19) (G__law_pot := G20.mono (by decide)) (m__law_pot := PySem.W.mg_of X G a20) (k__law_pot := k20) (b__law_pot := b20) (c_all := PySem.W.mg_none_of X G z_all) (c_range := PySem.W.mg_none_of X G z_range) (c_max := PySem.W.mg_none_of X G z_max) (c_min := PySem.W.mg_none_of X G z_min) (c_len := PySem.W.mg_none_of X G z_len)
end K06
open PySem PySem.W PyProof.Rows
set_option maxHeartbeats 0 in
theorem PySem.Challenge.cw_clockslack_k06_values_before_others_holds : PySem.Challenge.rw_clockslack_k06_values_before_others.Holds := by
  w_on; o_law; k_head; (case hw => w_witness2)
  k_fill
  refine DL.walk_gfn (l := PySem.Challenge.rw_clockslack_k06_values_before_others) (n := 63) (k := 7) (x := ("_law_script" : Str)) (Fm := K06.s_law) rfl (by decide) rfl ⟨rfl, by decide, by decide⟩ (fun w h Y => PySem.W.kIn_of Y) ?F (fun ns h => K06.sem_law ns h)
  case F =>
    intro w mg fa h KX G hmg
    refine' K06.all_mk KX G hmg ?a1 ?l1 ?c1 ?k1 ?a2 ?l2 ?c2 ?k2 ?a3 ?l3 ?c3 ?k3 ?a4 ?l4 ?c4 ?k4 ?a5 ?l5 ?c5 ?k5 ?a6 ?l6 ?c6 ?k6 ?a7 ?l7 ?c7 ?k7 ?a8 ?l8 ?c8 ?k8 ?a9 ?l9 ?c9 ?k9 ?a10 ?l10 ?c10 ?k10 ?a11 ?l11 ?c11 ?k11 ?a12 ?l12 ?c12 ?k12 ?a13 ?l13 ?c13 ?k13 ?a14 ?l14 ?c14 ?k14 ?a15 ?l15 ?c15 ?k15 ?a16 ?l16 ?c16 ?k16 ?a17 ?l17 ?c17 ?k17 ?a18 ?l18 ?c18 ?k18 ?a19 ?l19 ?c19 ?k19 ?a20 ?l20 ?c20 ?k20 ?a21 ?l21 ?c21 ?k21 ?z_len ?z_sorted ?z_set ?z_min ?z_max ?z_tuple ?z_isinstance ?z_bool ?z_int ?z_LOWEST ?z_repr ?z_any ?z_enumerate ?z_all ?z_list ?z_range ?z_abs
    (case a1 => k_is); (case l1 => k_is); (case c1 => k_is); (case k1 => k_is); (case a2 => k_is); (case l2 => k_is); (case c2 => k_is); (case k2 => k_is); (case a3 => k_is); (case l3 => k_is); (case c3 => k_is); (case k3 => k_is); (case a4 => k_is); (case l4 => k_is); (case c4 => k_is); (case k4 => k_is); (case a5 => k_is); (case l5 => k_is); (case c5 => k_is); (case k5 => k_is); (case a6 => k_is); (case l6 => k_is); (case c6 => k_is); (case k6 => k_is); (case a7 => k_is); (case l7 => k_is); (case c7 => k_is); (case k7 => k_is); (case a8 => k_is); (case l8 => k_is); (case c8 => k_is); (case k8 => k_is); (case a9 => k_is); (case l9 => k_is); (case c9 => k_is); (case k9 => k_is); (case a10 => k_is); (case l10 => k_is); (case c10 => k_is); (case k10 => k_is); (case a11 => k_is); (case l11 => k_is); (case c11 => k_is); (case k11 => k_is); (case a12 => k_is); (case l12 => k_is); (case c12 => k_is); (case k12 => k_is); (case a13 => k_is); (case l13 => k_is); (case c13 => k_is); (case k13 => k_is); (case a14 => k_is); (case l14 => k_is); (case c14 => k_is); (case k14 => k_is); (case a15 => k_is); (case l15 => k_is); (case c15 => k_is); (case k15 => k_is); (case a16 => k_is); (case l16 => k_is); (case c16 => k_is); (case k16 => k_is); (case a17 => k_is); (case l17 => k_is); (case c17 => k_is); (case k17 => k_is); (case a18 => k_is); (case l18 => k_is); (case c18 => k_is); (case k18 => k_is); (case a19 => k_is); (case l19 => k_is); (case c19 => k_is); (case k19 => k_is); (case a20 => k_is); (case l20 => k_is); (case c20 => k_is); (case k20 => k_is); (case a21 => k_is); (case l21 => k_is); (case c21 => k_is); (case k21 => k_is); (case z_len => k_is); (case z_sorted => k_is); (case z_set => k_is); (case z_min => k_is); (case z_max => k_is); (case z_tuple => k_is); (case z_isinstance => k_is); (case z_bool => k_is); (case z_int => k_is); (case z_LOWEST => k_is); (case z_repr => k_is); (case z_any => k_is); (case z_enumerate => k_is); (case z_all => k_is); (case z_list => k_is); (case z_range => k_is); (case z_abs => k_is)
