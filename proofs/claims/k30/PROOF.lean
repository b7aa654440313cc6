import PyProof.Rows.All
import HandS.ForMost
import HandS.Exc
import HandS.Deep
import HandS.Flow
import HandS.TupAny
import HandS.Rev
import HandS.Zip
import KE.SortData
import KE.DataMinMax
import HandS.Wide
import HandS.More
import HandS.Dict
import HandS.Ends
import KE.GoesMore
import KE.GoesEnum
import HandS.Iter
import HandS.Conv
import KE.DataIsa
import HandS.Style
import HandS.WordsDict
import HandS.TupMul
import HandS.Call
import HandS.SetFor
import KE.KDictDisplayH
import HandS.TupLen
import PyProof.SumWalk
import PyProof.ListOps
import KE.DataAny
import HandS.WordsExc
import HandS.TryOnly
import HandS.TupSets
import HandS.ExcIs
import HandS.Strs
import KE.KIndexOf
import HandS.AnyAll
import HandS.GenList
import HandS.Comp
import HandS.EndTab
import HandS.EndOwn
import HandS.DictComp
import HandS.Set
import KE.KTupSum
import HandS.Nested
import HandS.ExcInit
import HandS.ExcField
import HandS.FStr
import KE.KExcSuper
import KE.KExcIs
import PySem.Challenge.RW_calmfabric_k30_steps
set_option Elab.async false
set_option linter.all false
set_option maxRecDepth 100000
/-! WL: readings over plain data. Part 1: transformers, data, environments. -/
namespace WL
open PySem PySem.Spec PyProof.Rows L2
/-! ### what a piece of code asks, said of plain data -/
inductive Xn where
  | plain (c : Nat)
  | num (c : Nat) (n : Int)
abbrev Wp (α : Type) := (α → Prop) → (Xn → Prop) → Prop
section
variable {α β γ : Type}
def ret (a : α) : Wp α := fun P _ => P a
def bnd (m : Wp α) (k : α → Wp β) : Wp β := fun P X => m (fun a => k a P X) X
def thr (x : Xn) : Wp α := fun _ X => X x
def grd (c : Prop) (m : Wp α) : Wp α := fun P X => c ∧ m P X
def opt (o : Option α) : Wp α := fun P _ => ∃ a, o = some a ∧ P a
def cut : Wp α := fun _ _ => False
/-- any value with p -/
def anyW (p : α → Prop) : Wp α := fun P _ => ∀ a, p a → P a
def mapW (f : α → β) (m : Wp α) : Wp β := fun P X => m (fun a => P (f a)) X
theorem ret_bnd (a : α) (k : α → Wp β) : bnd (ret a) k = k a := rfl
theorem bnd_bnd (m : Wp α) (k : α → Wp β) (l : β → Wp γ) : bnd (bnd m k) l = bnd m fun a => bnd (k a) l := rfl
theorem mapW_ret (f : α → β) (a : α) : mapW f (ret a) = ret (f a) := rfl
theorem mapW_bnd (f : α → β) (m : Wp α) : mapW f m = bnd m fun a => ret (f a) := rfl
/-- if c: a else: b, the test a Bool -/
def sel (b : Bool) (m n : Wp α) : Wp α := if b = true then m else n
@[simp] theorem sel_true (m n : Wp α) : sel true m n = m := rfl
@[simp] theorem sel_false (m n : Wp α) : sel false m n = n := rfl
end
/-! ### data that stands for ever: through tuples alone -/
/-- it tells of a dict -/
def DictX (φ : Heap → Prop) : Prop := ∃ a, ∀ h : Heap, φ h → ∃ (o : Obj) (es : Array DictEntry) (ep : Nat), h.get? a = some o ∧ o.data = .dict es ep
noncomputable def still : HO → Bool
  | .tup _ => true
  | .frz _ (.tup _) => true
  | .ext φ => @decide (¬ DictX φ) (Classical.propDecidable _)
  | .xd _ => true
  | _ => false
theorem still_dict {φ : Heap → Prop} (h : DictX φ) : still (.ext φ) = false := @decide_eq_false _ (Classical.propDecidable _) fun z => z h
mutual
inductive Fz (K : PySem.W.Frag) (H : Hp) : V → PyData → Prop
  | non : Fz K H .non .none
  | bl (b : Bool) : Fz K H (.bl b) (.bool b)
  | int (i : Int) : Fz K H (.int i) (.int i)
  | str (x : Str) : Fz K H (.str x) (.str x)
  | tup {a : Addr} {xs : List V} {ds : List PyData} : SqT K H a xs → FzAll K H xs ds → Fz K H (.ref a) (.tuple ds)
inductive FzAll (K : PySem.W.Frag) (H : Hp) : List V → List PyData → Prop
  | nil : FzAll K H [] []
  | cons {v : V} {vs : List V} {d : PyData} {ds : List PyData} : Fz K H v d → FzAll K H vs ds → FzAll K H (v :: vs) (d :: ds)
end
def Stay (H H' : Hp) : Prop := ∀ a o, H a = some o → still o = true → H' a = some o
section
variable {K : PySem.W.Frag} {H H' : Hp} {v : V} {d : PyData} {vs : List V} {ds : List PyData}
theorem sqT_stay (st : Stay H H') {a : Addr} {xs : List V} (h : SqT K H a xs) : SqT K H' a xs := by
  rcases h with (h | ⟨o, h⟩) | h
  · exact .inl (.inl (st _ _ h rfl))
  · exact .inl (.inr ⟨o, st _ _ h rfl⟩)
  · exact .inr h
mutual
theorem Fz.stay (st : Stay H H') : ∀ {v : V} {d : PyData}, Fz K H v d → Fz K H' v d
  | _, _, .non => .non
  | _, _, .bl b => .bl b
  | _, _, .int i => .int i
  | _, _, .str x => .str x
  | _, _, .tup h1 h2 => .tup (sqT_stay st h1) (FzAll.stay st h2)
theorem FzAll.stay (st : Stay H H') : ∀ {vs : List V} {ds : List PyData}, FzAll K H vs ds → FzAll K H' vs ds
  | _, _, .nil => .nil
  | _, _, .cons h1 h2 => .cons (Fz.stay st h1) (FzAll.stay st h2)
end
mutual
theorem Fz.dp : ∀ {v : V} {d : PyData}, Fz K H v d → Dp K H v d
  | _, _, .non => .non
  | _, _, .bl b => .bl b
  | _, _, .int i => .int i
  | _, _, .str x => .str x
  | _, _, .tup h1 h2 => .tup h1 (FzAll.dp h2)
theorem FzAll.dp : ∀ {vs : List V} {ds : List PyData}, FzAll K H vs ds → DpAll K H vs ds
  | _, _, .nil => .nil
  | _, _, .cons h1 h2 => .cons (Fz.dp h1) (FzAll.dp h2)
end
theorem Fz.int_inv {n : Int} (h : Fz K H v (.int n)) : v = .int n := by cases h; rfl
theorem Fz.bl_inv {b : Bool} (h : Fz K H v (.bool b)) : v = .bl b := by cases h; rfl
theorem Fz.non_inv (h : Fz K H v .none) : v = .non := by cases h; rfl
theorem Fz.tup_inv (h : Fz K H v (.tuple ds)) : ∃ a xs, v = .ref a ∧ SqT K H a xs ∧ FzAll K H xs ds := by
  cases h with
  | tup h1 h2 => exact ⟨_, _, rfl, h1, h2⟩
theorem FzAll.length : ∀ {vs : List V} {ds : List PyData}, FzAll K H vs ds → vs.length = ds.length
  | _, _, .nil => rfl
  | _, _, .cons _ t => by
    rw [List.length_cons, List.length_cons, FzAll.length t]
theorem FzAll.get : ∀ {vs : List V} {ds : List PyData} {i : Nat} {d : PyData}, FzAll K H vs ds → ds[i]? = some d → ∃ v, vs[i]? = some v ∧ Fz K H v d
  | _, _, _, _, .nil, e => by simp at e
  | _, _, 0, _, .cons r _, e => by simp at e; subst e; exact ⟨_, rfl, r⟩
  | _, _, i + 1, d, .cons _ t, e => by
    obtain ⟨u, h1, h2⟩ := FzAll.get (i := i) (d := d) t (by simpa using e)
    exact ⟨u, by simpa using h1, h2⟩
theorem FzAll.getV : ∀ {vs : List V} {ds : List PyData} {i : Nat} {v : V}, FzAll K H vs ds → vs[i]? = some v → ∃ d, ds[i]? = some d ∧ Fz K H v d
  | _, _, _, _, .nil, e => by simp at e
  | _, _, 0, _, .cons r _, e => by simp at e; subst e; exact ⟨_, rfl, r⟩
  | _, _, i + 1, d, .cons _ t, e => by
    obtain ⟨u, h1, h2⟩ := FzAll.getV (i := i) (v := d) t (by simpa using e)
    exact ⟨u, by simpa using h1, h2⟩
theorem FzAll.append : ∀ {vs ws : List V} {ds es : List PyData}, FzAll K H vs ds → FzAll K H ws es → FzAll K H (vs ++ ws) (ds ++ es)
  | _, _, _, _, .nil, s => s
  | _, _, _, _, .cons r t, s => .cons r (FzAll.append t s)
theorem FzAll.take : ∀ {vs : List V} {ds : List PyData} (n : Nat), FzAll K H vs ds → FzAll K H (vs.take n) (ds.take n)
  | _, _, 0, _ => .nil
  | _, _, _ + 1, .nil => .nil
  | _, _, n + 1, .cons r t => .cons r (FzAll.take n t)
theorem FzAll.drop : ∀ {vs : List V} {ds : List PyData} (n : Nat), FzAll K H vs ds → FzAll K H (vs.drop n) (ds.drop n)
  | _, _, 0, h => h
  | _, _, _ + 1, .nil => .nil
  | _, _, n + 1, .cons _ t => FzAll.drop n t
theorem FzAll.set : ∀ {vs : List V} {ds : List PyData} {v : V} {d : PyData} (i : Nat), FzAll K H vs ds → Fz K H v d → FzAll K H (vs.set i v) (ds.set i d)
  | _, _, _, _, _, .nil, _ => .nil
  | _, _, _, _, 0, .cons _ t, z => .cons z t
  | _, _, _, _, i + 1, .cons r t, z => .cons r (FzAll.set i t z)
theorem FzAll.one (h : Fz K H v d) : FzAll K H [v] [d] := .cons h .nil
theorem FzAll.ints : ∀ {vs : List V} {ns : List Int}, FzAll K H vs (ns.map PyData.int) → vs = ns.map V.int
  | _, [], h => by cases h; rfl
  | _, n :: ns, h => by
    cases h with
    | cons h1 h2 => rw [h1.int_inv, FzAll.ints h2]; rfl
end
/-! ### how typed things are written as data -/
section
variable {α β γ δ ε ζ : Type}
def eI : Int → PyData := .int
def eB : Bool → PyData := .bool
def eS : Str → PyData := .str
def eU : Unit → PyData := fun _ => .none
def eD : PyData → PyData := fun d => d
def eO (e : α → PyData) : Option α → PyData
  | none => .none
  | some a => e a
def eT (e : α → PyData) : List α → PyData := fun xs => .tuple (xs.map e)
def e0 : Unit → PyData := fun _ => .tuple []
def e1 (a : α → PyData) : α → PyData := fun x => .tuple [a x]
def e2 (a : α → PyData) (b : β → PyData) : α × β → PyData := fun x => .tuple [a x.1, b x.2]
def e3 (a : α → PyData) (b : β → PyData) (c : γ → PyData) : α × β × γ → PyData := fun x => .tuple [a x.1, b x.2.1, c x.2.2]
def e4 (a : α → PyData) (b : β → PyData) (c : γ → PyData) (d : δ → PyData) : α × β × γ × δ → PyData := fun x => .tuple [a x.1, b x.2.1, c x.2.2.1, d x.2.2.2]
def e5 (a : α → PyData) (b : β → PyData) (c : γ → PyData) (d : δ → PyData) (e : ε → PyData) : α × β × γ × δ × ε → PyData := fun x => .tuple [a x.1, b x.2.1, c x.2.2.1, d x.2.2.2.1, e x.2.2.2.2]
end
/-! ### what a slot holds -/
/-- a thing that a name holds, with the objects that are its own -/
structure Sl where
  own : Hp → V → List Addr → Prop
  ro : Bool
  dom : ∀ {H : Hp} {v : V} {fp : List Addr} {a : Addr}, own H v fp → a ∈ fp → ∃ o, H a = some o ∧ still o = false
  keep : ∀ {H H' : Hp} {v : V} {fp : List Addr}, own H v fp → (∀ a o, H a = some o → (a ∈ fp ∨ still o = true) → H' a = some o) → own H' v fp
/-- data -/
def fz (K : PySem.W.Frag) (d : PyData) : Sl where
  own := fun H v fp => fp = [] ∧ Fz K H v d
  ro := false
  dom := fun h ha => by rw [h.1] at ha; cases ha
  keep := fun h k => ⟨h.1, h.2.stay fun a o e z => k a o e (.inr z)⟩
/-- a list of data of its own -/
def lsOwn (K : PySem.W.Frag) (ds : List PyData) (H : Hp) (v : V) (fp : List Addr) : Prop := ∃ p vs, v = .ref p ∧ fp = [p] ∧ H p = some (.lst vs) ∧ FzAll K H vs ds
def ls (K : PySem.W.Frag) (ds : List PyData) : Sl where
  own := lsOwn K ds
  ro := false
  dom := fun h ha => by
    obtain ⟨p, vs, _, e, hp, _⟩ := h
    rw [e] at ha
    rw [List.mem_singleton.mp ha]
    exact ⟨_, hp, rfl⟩
  keep := fun h k => by
    obtain ⟨p, vs, e1, e2, hp, hz⟩ := h
    exact ⟨p, vs, e1, e2, k p _ hp (.inl (by rw [e2]; exact List.mem_singleton.mpr rfl)), hz.stay fun a o e z => k a o e (.inr z)⟩
inductive Ety where
  | un
  | sl (S : Sl)
  | tp (S : Sl)
  /-- a list of the caller's, only read -/
  | rd (K : PySem.W.Frag) (ds : List PyData)
  /-- a thing of another's, only read -/
  | rb (S : Sl)
/-! ### where one stands -/
/-- a fixed heap, the objects of it that may change, the tape -/
structure Bs where
  H : Hp
  O : List Addr
  T : Option (Sl × V × List Addr)
  /-- lists that stand -/
  R : List (Addr × HO)
def Bs.off (B : Bs) (a : Addr) : Prop := ∀ t, B.T = some t → a ∉ t.2.2
def Frame (B : Bs) (H : Hp) : Prop := ∀ a o, B.H a = some o → ∃ o', H a = some o' ∧ (a ∉ B.O → B.off a → o' = o) ∧ (still o = true → o' = o)
def TpSt (B : Bs) (H : Hp) : Prop := ∀ t, B.T = some t → t.1.own H t.2.1 t.2.2
structure En (B : Bs) (Γ : List Ety) (σ : List (Option V)) (H : Hp) (fp : Nat → List Addr) : Prop where
  len : σ.length = Γ.length
  sl : ∀ (i : Nat) (S : Sl), Γ[i]? = some (.sl S) → ∃ v, σ[i]? = some (some v) ∧ S.own H v (fp i)
  tp : ∀ (i : Nat) (S : Sl), Γ[i]? = some (.tp S) → ∃ v fq, B.T = some (S, v, fq) ∧ σ[i]? = some (some v)
  off : ∀ (i : Nat), (∀ S : Sl, Γ[i]? ≠ some (.sl S)) → fp i = []
  dis : ∀ (i j : Nat) (a : Addr), a ∈ fp i → a ∈ fp j → i = j
  nt : ∀ (i : Nat) (a : Addr), a ∈ fp i → B.off a
  new : ∀ (i : Nat) (a : Addr) (S : Sl), Γ[i]? = some (.sl S) → S.ro = false → a ∈ fp i → B.H a = none ∨ a ∈ B.O
  rd : ∀ (i : Nat) (K : PySem.W.Frag) (ds : List PyData), Γ[i]? = some (.rd K ds) → ∃ (p : Addr) (vs : List V), ((p, HO.lst vs) ∈ B.R ∨ ∀ H', SqL K H' p vs) ∧ σ[i]? = some (some (.ref p)) ∧ FzAll K H vs ds
  rb : ∀ (i : Nat) (S : Sl), Γ[i]? = some (.rb S) → ∃ v fq, σ[i]? = some (some v) ∧ S.own H v fq ∧ ∀ a ∈ fq, ∃ o, (a, o) ∈ B.R
  rr : ∀ r, r ∈ B.R → Rd H r.1 r.2 ∧ B.off r.1 ∧ ∀ (i : Nat), r.1 ∉ fp i
  fr : Frame B H
  tps : TpSt B H
/-- behind an expression: all stands but the tape -/
structure Stp (B : Bs) (H H' : Hp) : Prop where
  kp : ∀ a o, H a = some o → B.off a → H' a = some o
  ts : TpSt B H'
section
variable {K : PySem.W.Frag} {B : Bs} {Γ : List Ety} {σ : List (Option V)} {H H' H'' : Hp} {fp : Nat → List Addr} {a p : Addr} {o : HO}
theorem TpSt.notstill (h : TpSt B H) (e : H a = some o) (st : still o = true) : B.off a := fun t ht hm => by
  obtain ⟨o', e', st'⟩ := t.1.dom (h t ht) hm
  rw [e] at e'
  cases e'
  rw [st] at st'; cases st'
theorem TpSt.new (h : TpSt B H) (e : H a = none) : B.off a := fun t ht hm => by
  obtain ⟨o', e', _⟩ := t.1.dom (h t ht) hm
  rw [e] at e'; cases e'
theorem Stp.refl (h : TpSt B H) : Stp B H H := ⟨fun _ _ e _ => e, h⟩
theorem Stp.trans (a : Stp B H H') (b : Stp B H' H'') : Stp B H H'' := ⟨fun x o e n => b.kp x o (a.kp x o e n) n, b.ts⟩
theorem Stp.stay (h : TpSt B H) (a : Stp B H H') : Stay H H' := fun x o e z => a.kp x o e (h.notstill e z)
theorem TpSt.same (h : TpSt B H) (s : ∀ a o, H a = some o → H' a = some o) : TpSt B H' := fun t ht => t.1.keep (h t ht) fun a o e _ => s a o e
theorem Stp.same (h : TpSt B H) (s : ∀ a o, H a = some o → H' a = some o) : Stp B H H' := ⟨fun x o e _ => s x o e, h.same s⟩
theorem upd_keeps (h : H p = none) : ∀ a u, H a = some u → upd H p o a = some u := fun a u e => by
  rw [upd_ne (ne_of_none e h)]
  exact e
theorem Stp.new (h : TpSt B H) (e : H p = none) : Stp B H (upd H p o) := Stp.same h (upd_keeps e)
theorem Stp.dom (h : TpSt B H) (s : Stp B H H') (e : H a = some o) : ∃ o', H' a = some o' := by
  by_cases q : B.off a
  · exact ⟨o, s.kp a o e q⟩
  · unfold Bs.off at q
    simp only [Classical.not_forall] at q
    obtain ⟨t, ht, q⟩ := q
    obtain ⟨o', e', _⟩ := t.1.dom (s.ts t ht) (Classical.byContradiction fun z => q z)
    exact ⟨o', e'⟩
theorem Stp.back (h : TpSt B H) (s : Stp B H H') (e : H' a = none) : H a = none := by
  cases q : H a with
  | none => rfl
  | some o =>
    obtain ⟨o', e'⟩ := s.dom h q
    rw [e'] at e; cases e
theorem Frame.step (f : Frame B H) (h : TpSt B H) (s : Stp B H H') : Frame B H' := fun a o e => by
  obtain ⟨o', e1, e2, e3⟩ := f a o e
  obtain ⟨o'', e4⟩ := s.dom h e1
  refine ⟨o'', e4, fun n1 n2 => ?_, fun z => ?_⟩
  · have := s.kp a o' e1 n2
    rw [e4] at this
    exact (Option.some.inj this).trans (e2 n1 n2)
  · have e5 := e3 z
    subst e5
    have := s.kp a _ e1 (h.notstill e1 z)
    rw [e4] at this
    exact Option.some.inj this
theorem Stp.rd {u : HO} (s : Stp B H H') (h : B.off a) (r : Rd H a u) : Rd H' a u := by
  rcases r with r | ⟨o, r⟩
  · exact .inl (s.kp _ _ r h)
  · exact .inr ⟨o, s.kp _ _ r h⟩
theorem En.step (en : En B Γ σ H fp) (s : Stp B H H') : En B Γ σ H' fp where
  len := en.len
  sl := fun i S hi => by
    obtain ⟨v, h1, h2⟩ := en.sl i S hi
    refine ⟨v, h1, S.keep h2 fun a o e z => ?_⟩
    rcases z with z | z
    · exact s.kp a o e (en.nt i a z)
    · exact s.kp a o e (en.tps.notstill e z)
  tp := en.tp
  off := en.off
  dis := en.dis
  nt := en.nt
  new := en.new
  rd := fun i K ds hi => by
    obtain ⟨r, us, h1, h2, h3⟩ := en.rd i K ds hi
    exact ⟨r, us, h1, h2, h3.stay (s.stay en.tps)⟩
  rb := fun i S hi => by
    obtain ⟨v, fq, h1, h2, h3⟩ := en.rb i S hi
    refine ⟨v, fq, h1, S.keep h2 fun a o e z => ?_, h3⟩
    rcases z with z | z
    · obtain ⟨o', hm⟩ := h3 a z
      exact s.kp a o e (en.rr _ hm).2.1
    · exact s.kp a o e (en.tps.notstill e z)
  rr := fun r hr => by
    obtain ⟨h1, h2, h3⟩ := en.rr r hr
    exact ⟨s.rd h2 h1, h2, h3⟩
  fr := en.fr.step en.tps s
  tps := s.ts
end
end WL
/-! WL, part 2: expressions. -/
namespace WL
open PySem PySem.Spec PyProof.Rows L2
/-- what stands around a body: the written part, the wish about exceptions, the classes' values -/
structure Cn where
  K : PySem.W.Frag
  E : XK
  ct : Nat → Value × Str
inductive XnIs (C : Cn) (H : Hp) : Xn → Value → Option Addr → Prop
  | plain (c : Nat) : XnIs C H (.plain c) (C.ct c).1 none
  | num (c : Nat) (n : Int) (d : Addr) : H d = some (.xd [((C.ct c).2, .int n)]) → XnIs C H (.num c n) (C.ct c).1 (some d)
/-- what is asked of the tape that goes along -/
class Tbs (K : PySem.W.Frag) where
  tb : Option (Sl × V × List Addr) → Prop
abbrev tbOf (K : PySem.W.Frag) [Tbs K] (T : Option (Sl × V × List Addr)) : Prop := Tbs.tb (K := K) T
structure Exok (C : Cn) [Tbs C.K] (B : Bs) (X : Xn → Prop) : Prop where
  tb : tbOf C.K B.T
  ok : ∀ x v d H', X x → Frame B H' → TpSt B H' → XnIs C H' x v d → C.E v d H'
/-! ### kinds of results: the base, the heap at the start, the heap, the value -/
abbrev Rk := Bs → Hp → Hp → V → Prop
def RF (K : PySem.W.Frag) (d : PyData) : Rk := fun _ _ H v => Fz K H v d
/-- a list that may be read -/
def RdA (K : PySem.W.Frag) (B : Bs) (H : Hp) (p : Addr) (vs : List V) : Prop := (Rd H p (.lst vs) ∧ B.off p) ∨ ∀ H', SqL K H' p vs
theorem RdA.sq {K : PySem.W.Frag} {B : Bs} {H : Hp} {p : Addr} {vs : List V} (h : RdA K B H p vs) : SqL K H p vs := by
  rcases h with h | h
  · exact .inl h.1
  · exact h H
def RL (K : PySem.W.Frag) (ds : List PyData) : Rk := fun B _ H v => ∃ p vs, v = .ref p ∧ RdA K B H p vs ∧ FzAll K H vs ds
def RN (S : Sl) : Rk := fun _ H0 H v => ∃ fp, S.own H v fp ∧ ∀ a ∈ fp, H0 a = none
def RT (S : Sl) : Rk := fun B _ _ v => ∃ fq, B.T = some (S, v, fq)
/-- a thing that may be read -/
def RB (S : Sl) : Rk := fun B _ H v => ∃ fq, S.own H v fq ∧ ∀ a ∈ fq, B.off a
/-- a stable kind; H0 the start -/
def StR (R : Rk) : Prop := ∀ B H0 H1 H H' v, TpSt B H0 → TpSt B H → Stp B H H' → R B H0 H v → (∀ a, H0 a = none → H1 a = none) → R B H1 H' v
section
variable {K : PySem.W.Frag} {C : Cn} [Tbs C.K] {Γ : List Ety} {α β γ δ : Type}
theorem st_F {d : PyData} : StR (RF K d) := fun B H0 H1 H H' v _ t s h _ => Fz.stay (s.stay t) h
theorem st_L {ds : List PyData} : StR (RL K ds) := fun B H0 H1 H H' v _ t s ⟨p, vs, e, hs, hz⟩ _ => by
  refine ⟨p, vs, e, ?_, hz.stay (s.stay t)⟩
  rcases hs with hs | hs
  · exact .inl ⟨s.rd hs.2 hs.1, hs.2⟩
  · exact .inr hs
theorem st_T {S : Sl} : StR (RT S) := fun B H0 H1 H H' v _ t s h _ => h
/-- a slot's thing, one's own or borrowed -/
def Has (Γ : List Ety) (i : Nat) (S : Sl) : Prop := Γ[i]? = some (.sl S) ∨ Γ[i]? = some (.rb S)
theorem En.hold {B : Bs} {σ : List (Option V)} {H : Hp} {fp : Nat → List Addr} (en : En B Γ σ H fp) {i : Nat} {S : Sl} (h : Has Γ i S) : ∃ v fq, σ[i]? = some (some v) ∧ S.own H v fq ∧ ∀ a ∈ fq, B.off a := by
  rcases h with h | h
  · obtain ⟨v, hv, ho⟩ := en.sl i S h
    exact ⟨v, fp i, hv, ho, fun a ha => en.nt i a ha⟩
  · obtain ⟨v, fq, hv, ho, hq⟩ := en.rb i S h
    exact ⟨v, fq, hv, ho, fun a ha => by
      obtain ⟨o, hm⟩ := hq a ha
      exact (en.rr _ hm).2.1⟩
/-! ### what evaluates to what -/
def EvG (C : Cn) [Tbs C.K] (Γ : List Ety) (t : TE) (w : Wp α) (R : α → Rk) : Prop := ∀ (P : α → Prop) (X : Xn → Prop), w P X → ∀ B σ H fp, En B Γ σ H fp → Exok C B X →
  ∀ Q : VK, (∀ r v H', P r → Stp B H H' → R r B H H' v → Q v H') → t σ H Q
def EvT (C : Cn) [Tbs C.K] (Γ : List Ety) (t : TT) (w : Wp Bool) : Prop := ∀ (P : Bool → Prop) (X : Xn → Prop), w P X → ∀ B σ H fp, En B Γ σ H fp → Exok C B X →
  ∀ Q : Bool → Hp → Prop, (∀ b H', P b → Stp B H H' → Q b H') → t σ H Q
inductive RAll (B : Bs) (H0 H : Hp) : List V → List Rk → Prop
  | nil : RAll B H0 H [] []
  | cons {v : V} {vs : List V} {R : Rk} {Rs : List Rk} : R B H0 H v → RAll B H0 H vs Rs → RAll B H0 H (v :: vs) (R :: Rs)
def EvA (C : Cn) [Tbs C.K] (Γ : List Ety) (t : TA) (w : Wp α) (R : α → List Rk) : Prop := ∀ (P : α → Prop) (X : Xn → Prop), w P X → ∀ B σ H fp, En B Γ σ H fp → Exok C B X →
  ∀ Q : List V → Hp → Prop, (∀ r vs H', P r → Stp B H H' → RAll B H H' vs (R r) → Q vs H') → t σ H Q
theorem EvG.is {t : TE} {w w' : Wp α} {R : α → Rk} (h : EvG C Γ t w R) (e : w = w') : EvG C Γ t w' R := e ▸ h
theorem EvT.is {t : TT} {w w' : Wp Bool} (h : EvT C Γ t w) (e : w = w') : EvT C Γ t w' := e ▸ h
theorem EvA.is {t : TA} {w w' : Wp α} {R : α → List Rk} (h : EvA C Γ t w R) (e : w = w') : EvA C Γ t w' R := e ▸ h
/-- another name for the result -/
theorem EvG.as {t : TE} {w : Wp α} {R : α → Rk} (f : α → β) {R' : β → Rk} (h : EvG C Γ t w R) (e : ∀ r, R' (f r) = R r) : EvG C Γ t (mapW f w) R' := fun P X hw B σ H fp en ex Q q =>
  h _ X hw B σ H fp en ex Q fun r v H' hp s hr => q (f r) v H' hp s (by rw [e]; exact hr)
/-! ### names, constants -/
theorem ev_f {i : Nat} {e : α → PyData} (x : α) (h : Γ[i]? = some (.sl (fz C.K (e x)))) : EvG C Γ (tVar i) (ret x) (fun r => RF C.K (e r)) := fun P X hw B σ H fp en ex Q q => by
  obtain ⟨v, hv, ho⟩ := en.sl i _ h
  exact ⟨v, hv, q x v H hw (.refl en.tps) ho.2⟩
theorem ev_l {i : Nat} {e : α → PyData} (xs : List α) (h : Γ[i]? = some (.sl (ls C.K (xs.map e)))) : EvG C Γ (tVar i) (ret xs) (fun r => RL C.K (r.map e)) := fun P X hw B σ H fp en ex Q q => by
  obtain ⟨v, hv, p, vs, rfl, e2, hp, hz⟩ := en.sl i _ h
  exact ⟨_, hv, q xs _ H hw (.refl en.tps) ⟨p, vs, rfl, .inl ⟨.inl hp, en.nt i p (by rw [e2]; exact List.mem_singleton.mpr rfl)⟩, hz⟩⟩
theorem ev_r {i : Nat} {e : α → PyData} (xs : List α) (h : Γ[i]? = some (.rd C.K (xs.map e))) : EvG C Γ (tVar i) (ret xs) (fun r => RL C.K (r.map e)) := fun P X hw B σ H fp en ex Q q => by
  obtain ⟨r, us, hr, hv, hz⟩ := en.rd i _ _ h
  refine ⟨_, hv, q xs _ H hw (.refl en.tps) ⟨r, us, rfl, ?_, hz⟩⟩
  rcases hr with hr | hr
  · obtain ⟨h1, h2, _⟩ := en.rr _ hr
    exact .inl ⟨h1, h2⟩
  · exact .inr hr
theorem ev_t {i : Nat} {S : Sl} (h : Γ[i]? = some (.tp S)) : EvG C Γ (tVar i) (ret ()) (fun _ => RT S) := fun P X hw B σ H fp en ex Q q => by
  obtain ⟨v, fq, ht, hv⟩ := en.tp i S h
  exact ⟨_, hv, q () _ H hw (.refl en.tps) ⟨fq, ht⟩⟩
theorem ev_int {n : Int} : EvG C Γ (tC (.int n)) (ret n) (fun r => RF C.K (eI r)) := fun P X hw B σ H fp en ex Q q => q n _ H hw (.refl en.tps) (.int n)
theorem ev_bl {b : Bool} : EvG C Γ (tC (.bl b)) (ret b) (fun r => RF C.K (eB r)) := fun P X hw B σ H fp en ex Q q => q b _ H hw (.refl en.tps) (.bl b)
theorem ev_str {x : Str} : EvG C Γ (tC (.str x)) (ret x) (fun r => RF C.K (eS r)) := fun P X hw B σ H fp en ex Q q => q x _ H hw (.refl en.tps) (.str x)
theorem ev_non : EvG C Γ (tC .non) (ret ()) (fun r => RF C.K (eU r)) := fun P X hw B σ H fp en ex Q q => q () _ H hw (.refl en.tps) .non
theorem ev_nonO {e : α → PyData} : EvG C Γ (tC .non) (ret none) (fun r => RF C.K (eO e r)) := fun P X hw B σ H fp en ex Q q => q none _ H hw (.refl en.tps) .non
/-- a thing where a thing or None is wanted -/
theorem ev_some {t : TE} {w : Wp α} {e : α → PyData} (h : EvG C Γ t w (fun r => RF C.K (e r))) : EvG C Γ t (mapW some w) (fun r => RF C.K (eO e r)) := h.as some fun _ => rfl
theorem ev_data {t : TE} {w : Wp α} {e : α → PyData} (h : EvG C Γ t w (fun r => RF C.K (e r))) : EvG C Γ t (mapW e w) (fun r => RF C.K (eD r)) := h.as e fun _ => rfl
/-! ### operators, by values -/
def OpG (C : Cn) [Tbs C.K] (r : R2) (R1 R2' : Rk) (w : Wp γ) (R : γ → Rk) : Prop := ∀ (P : γ → Prop) (X : Xn → Prop), w P X → ∀ B H0 H x y, TpSt B H0 → TpSt B H → (∀ a, H a = none → H0 a = none) → R1 B H0 H x → R2' B H0 H y →
  ∀ Q : VK, (∀ z v H', P z → Stp B H H' → R z B H0 H' v → Q v H') → r x y H Q
theorem Stp.back' {B : Bs} {H H' : Hp} (t : TpSt B H) (s : Stp B H H') : ∀ a, H' a = none → H a = none := fun _ e => s.back t e
theorem ev_op {r : R2} {ta tb : TE} {wa : Wp α} {wb : α → Wp β} {Ra : α → Rk} {Rb : α → β → Rk} {w : α → β → Wp γ} {R : γ → Rk} (ha : EvG C Γ ta wa Ra) (hb : ∀ a, EvG C Γ tb (wb a) (Rb a)) (hr : ∀ a b, OpG C r (Ra a) (Rb a b) (w a b) R)
    (sa : ∀ a, StR (Ra a)) (sb : ∀ a b, StR (Rb a b)) : EvG C Γ (tOp r ta tb) (bnd wa fun a => bnd (wb a) fun b => w a b) R := fun P X hw B σ H fp en ex Q q => by
  refine ha _ X hw B σ H fp en ex _ fun a x H1 h1 s1 r1 => ?_
  refine hb a _ X h1 B σ H1 fp (en.step s1) ex _ fun b y H2 h2 s2 r2 => ?_
  have s12 := s1.trans s2
  refine hr a b P X h2 B H H2 x y en.tps s2.ts (s12.back' en.tps) (sa a B H H H1 H2 x en.tps s1.ts s2 r1 fun _ z => z) (sb a b B H1 H H2 H2 y s1.ts s2.ts (.refl s2.ts) r2 (s1.back' en.tps)) Q fun z v H3 h3 s3 r3 => ?_
  exact q z v H3 h3 (s12.trans s3) r3
/-- ints -/
theorem o_I0 {g : Int → Int → V} {e : γ → PyData} {f : Int → Int → γ} (hg : ∀ H i j, Fz C.K H (g i j) (e (f i j))) (i j : Int) : OpG C (rI0 g) (RF C.K (eI i)) (RF C.K (eI j)) (ret (f i j)) (fun r => RF C.K (e r)) := fun P X hw B H0 H x y _ ts _ hx hy Q q =>
  ⟨i, j, Fz.int_inv hx, Fz.int_inv hy, q _ _ H hw (.refl ts) (hg H i j)⟩
theorem o_add (i j : Int) : OpG C (rI0 fun i j => .int (i + j)) (RF C.K (eI i)) (RF C.K (eI j)) (ret (i + j)) (fun r => RF C.K (eI r)) := o_I0 (fun _ _ _ => .int _) i j
theorem o_sub (i j : Int) : OpG C (rI0 fun i j => .int (i - j)) (RF C.K (eI i)) (RF C.K (eI j)) (ret (i - j)) (fun r => RF C.K (eI r)) := o_I0 (fun _ _ _ => .int _) i j
theorem o_lt (i j : Int) : OpG C (rI0 fun i j => .bl (decide (i < j))) (RF C.K (eI i)) (RF C.K (eI j)) (ret (decide (i < j))) (fun r => RF C.K (eB r)) := o_I0 (fun _ _ _ => .bl _) i j
theorem o_le (i j : Int) : OpG C (rI0 fun i j => .bl (decide (i ≤ j))) (RF C.K (eI i)) (RF C.K (eI j)) (ret (decide (i ≤ j))) (fun r => RF C.K (eB r)) := o_I0 (fun _ _ _ => .bl _) i j
theorem o_gt (i j : Int) : OpG C (rI0 fun i j => .bl (decide (j < i))) (RF C.K (eI i)) (RF C.K (eI j)) (ret (decide (j < i))) (fun r => RF C.K (eB r)) := o_I0 (fun _ _ _ => .bl _) i j
theorem o_ge (i j : Int) : OpG C (rI0 fun i j => .bl (decide (j ≤ i))) (RF C.K (eI i)) (RF C.K (eI j)) (ret (decide (j ≤ i))) (fun r => RF C.K (eB r)) := o_I0 (fun _ _ _ => .bl _) i j
theorem o_I {D : Int → Int → Prop} {g : Int → Int → V} {e : γ → PyData} {f : Int → Int → γ} (hg : ∀ H i j, Fz C.K H (g i j) (e (f i j))) (i j : Int) : OpG C (rI D g) (RF C.K (eI i)) (RF C.K (eI j)) (grd (D i j) (ret (f i j))) (fun r => RF C.K (e r)) := fun P X hw B H0 H x y _ ts _ hx hy Q q =>
  ⟨i, j, Fz.int_inv hx, Fz.int_inv hy, hw.1, q _ _ H hw.2 (.refl ts) (hg H i j)⟩
theorem o_mod (i j : Int) : OpG C (rI (fun _ j => j ≠ 0) fun i j => .int (i.fmod j)) (RF C.K (eI i)) (RF C.K (eI j)) (grd (j ≠ 0) (ret (i.fmod j))) (fun r => RF C.K (eI r)) := o_I (fun _ _ _ => .int _) i j
/-- == of ints, texts, bools alike -/
theorem o_eqI (i j : Int) : OpG C rEq (RF C.K (eI i)) (RF C.K (eI j)) (ret (decide (i = j))) (fun r => RF C.K (eB r)) := fun P X hw B H0 H x y _ ts _ hx hy Q q => by
  have e1 := Fz.int_inv (n := i) hx
  have e2 := Fz.int_inv (n := j) hy
  subst e1
  subst e2
  refine ⟨rfl, q _ _ H hw (.refl ts) ?_⟩
  rw [show decide (V.int i = V.int j) = decide (i = j) from by
    by_cases e : i = j
    · subst e; simp
    · rw [decide_eq_false e, decide_eq_false (fun z => e (V.int.inj z))]]
  exact .bl _
theorem o_neI (i j : Int) : OpG C rNe (RF C.K (eI i)) (RF C.K (eI j)) (ret (!decide (i = j))) (fun r => RF C.K (eB r)) := fun P X hw B H0 H x y _ ts _ hx hy Q q => by
  have e1 := Fz.int_inv (n := i) hx
  have e2 := Fz.int_inv (n := j) hy
  subst e1
  subst e2
  refine ⟨rfl, q _ _ H hw (.refl ts) ?_⟩
  rw [show decide (V.int i = V.int j) = decide (i = j) from by
    by_cases e : i = j
    · subst e; simp
    · rw [decide_eq_false e, decide_eq_false (fun z => e (V.int.inj z))]]
  exact .bl _
def isN : PyData → Bool
  | .none => true
  | _ => false
theorem fz_non {H : Hp} {v : V} {d : PyData} (h : Fz K H v d) : decide (v = .non) = isN d := by
  cases h <;> rfl
/-- x is None, x is not None -/
abbrev rIsN : R2 := fun x y H Q => y = .non ∧ Q (.bl (decide (x = .non))) H
abbrev rNotN : R2 := fun x y H Q => y = .non ∧ Q (.bl (!decide (x = .non))) H
theorem o_isN (d : PyData) (u : Unit) : OpG C rIsN (RF C.K d) (RF C.K (eU u)) (ret (isN d)) (fun r => RF C.K (eB r)) := fun P X hw B H0 H x y _ ts _ hx hy Q q => by
  refine ⟨Fz.non_inv hy, q _ _ H hw (.refl ts) ?_⟩
  rw [fz_non hx]
  exact .bl _
theorem o_notN (d : PyData) (u : Unit) : OpG C rNotN (RF C.K d) (RF C.K (eU u)) (ret (!isN d)) (fun r => RF C.K (eB r)) := fun P X hw B H0 H x y _ ts _ hx hy Q q => by
  refine ⟨Fz.non_inv hy, q _ _ H hw (.refl ts) ?_⟩
  rw [fz_non hx]
  exact .bl _
/-- of a thing or None -/
theorem o_isNO {e : α → PyData} (he : ∀ a, isN (e a) = false) (o : Option α) (u : Unit) : OpG C rIsN (RF C.K (eO e o)) (RF C.K (eU u)) (ret o.isNone) (fun r => RF C.K (eB r)) := by
  have h := o_isN (C := C) (eO e o) u
  have e2 : isN (eO e o) = o.isNone := by
    cases o with
    | none => rfl
    | some a => exact he a
  rw [e2] at h
  exact h
theorem o_notNO {e : α → PyData} (he : ∀ a, isN (e a) = false) (o : Option α) (u : Unit) : OpG C rNotN (RF C.K (eO e o)) (RF C.K (eU u)) (ret o.isSome) (fun r => RF C.K (eB r)) := by
  have h := o_notN (C := C) (eO e o) u
  have e2 : (!isN (eO e o)) = o.isSome := by
    cases o with
    | none => rfl
    | some a =>
      rw [show isN (eO e (some a)) = false from he a]
      rfl
  rw [e2] at h
  exact h
/-- == and != of data -/
theorem o_eqD (d d' : PyData) : OpG C (rEqD C.K) (RF C.K d) (RF C.K d') (grd (SeqAt.shaped d = true ∧ SeqAt.shaped d' = true) (ret (PyData.eqv d d'))) (fun r => RF C.K (eB r)) := fun P X hw B H0 H x y _ ts _ hx hy Q q =>
  ⟨d, d', hx.dp, hy.dp, hw.1.1, hw.1.2, q _ _ H hw.2 (.refl ts) (.bl _)⟩
theorem o_neD (d d' : PyData) : OpG C (rNeD C.K) (RF C.K d) (RF C.K d') (grd (SeqAt.shaped d = true ∧ SeqAt.shaped d' = true) (ret (!PyData.eqv d d'))) (fun r => RF C.K (eB r)) := fun P X hw B H0 H x y _ ts _ hx hy Q q =>
  ⟨d, d', hx.dp, hy.dp, hw.1.1, hw.1.2, q _ _ H hw.2 (.refl ts) (.bl _)⟩
theorem rl_dp {B : Bs} {H0 H : Hp} {v : V} {ds : List PyData} (h : RL K ds B H0 H v) : Dp K H v (.list ds) := by
  obtain ⟨p, vs, rfl, hs, hz⟩ := h
  exact .lst hs.sq hz.dp
theorem o_eqL (d d' : List PyData) : OpG C (rEqD C.K) (RL C.K d) (RL C.K d') (grd (SeqAt.shaped (.list d) = true ∧ SeqAt.shaped (.list d') = true) (ret (PyData.eqv (.list d) (.list d')))) (fun r => RF C.K (eB r)) := fun P X hw B H0 H x y _ ts _ hx hy Q q =>
  ⟨_, _, rl_dp hx, rl_dp hy, hw.1.1, hw.1.2, q _ _ H hw.2 (.refl ts) (.bl _)⟩
theorem o_neL (d d' : List PyData) : OpG C (rNeD C.K) (RL C.K d) (RL C.K d') (grd (SeqAt.shaped (.list d) = true ∧ SeqAt.shaped (.list d') = true) (ret (!PyData.eqv (.list d) (.list d')))) (fun r => RF C.K (eB r)) := fun P X hw B H0 H x y _ ts _ hx hy Q q =>
  ⟨_, _, rl_dp hx, rl_dp hy, hw.1.1, hw.1.2, q _ _ H hw.2 (.refl ts) (.bl _)⟩
/-! ### places -/
theorem atI_fz {H : Hp} {vs : List V} {e : α → PyData} {xs : List α} {i : Int} {x : α} (hz : FzAll K H vs (xs.map e)) (h : atI xs i = some x) : ∃ v, atI vs i = some v ∧ Fz K H v (e x) := by
  have hl : vs.length = xs.length := by rw [hz.length, List.length_map]
  unfold atI at h ⊢
  rw [hl]
  cases q : ixN xs.length i with
  | none => rw [q] at h; cases h
  | some j =>
    rw [q] at h
    have h' : xs[j]? = some x := h
    obtain ⟨v, h1, h2⟩ := hz.get (i := j) (d := e x) (by rw [List.getElem?_map, h']; rfl)
    exact ⟨v, h1, h2⟩
/-- t[i], t a row of things alike -/
theorem o_ixT {e : α → PyData} (xs : List α) (i : Int) : OpG C (rIxT C.K) (RF C.K (eT e xs)) (RF C.K (eI i)) (opt (atI xs i)) (fun r => RF C.K (e r)) := fun P X ⟨x, hx, hp⟩ B H0 H v y _ ts _ hv hy Q q => by
  obtain ⟨a, vs, rfl, hs, hz⟩ := Fz.tup_inv hv
  obtain ⟨u, h1, h2⟩ := atI_fz hz hx
  exact ⟨a, vs, i, u, rfl, Fz.int_inv hy, hs, h1, q x u H hp (.refl ts) h2⟩
theorem o_ixL {e : α → PyData} (xs : List α) (i : Int) : OpG C (rIxL C.K) (RL C.K (xs.map e)) (RF C.K (eI i)) (opt (atI xs i)) (fun r => RF C.K (e r)) := fun P X ⟨x, hx, hp⟩ B H0 H v y _ ts _ hv hy Q q => by
  obtain ⟨a, vs, rfl, hs, hz⟩ := hv
  obtain ⟨u, h1, h2⟩ := atI_fz hz hx
  exact ⟨a, vs, i, u, rfl, Fz.int_inv hy, hs.sq, h1, q x u H hp (.refl ts) h2⟩
/-! ### tests -/
theorem et_test {t : TE} {w : Wp Bool} (h : EvG C Γ t w (fun r => RF C.K (eB r))) : EvT C Γ (tTest t) w := fun P X hw B σ H fp en ex Q q =>
  h P X hw B σ H fp en ex _ fun r v H' hp s hr => ⟨r, Fz.bl_inv hr, q r H' hp s⟩
theorem et_B {t : TE} {w : Wp Bool} (h : EvG C Γ t w (fun r => RF C.K (eB r))) : EvT C Γ (tB t) w := fun P X hw B σ H fp en ex Q q =>
  h P X hw B σ H fp en ex _ fun r v H' hp s hr => ⟨r, Fz.bl_inv hr, q r H' hp s⟩
theorem et_and {t u : TT} {w : Wp Bool} {w' : Wp Bool} (h : EvT C Γ t w) (h' : EvT C Γ u w') : EvT C Γ (tAnd t u) (bnd w fun b => sel b w' (ret false)) := fun P X hw B σ H fp en ex Q q =>
  h _ X hw B σ H fp en ex _ fun b H1 hp s => by
    cases b with
    | true =>
      show u σ H1 Q
      exact h' P X hp B σ H1 fp (en.step s) ex Q fun b2 H2 hp2 s2 => q b2 H2 hp2 (s.trans s2)
    | false =>
      show Q false H1
      exact q false H1 hp s
theorem et_or {t u : TT} {w : Wp Bool} {w' : Wp Bool} (h : EvT C Γ t w) (h' : EvT C Γ u w') : EvT C Γ (tOr t u) (bnd w fun b => sel b (ret true) w') := fun P X hw B σ H fp en ex Q q =>
  h _ X hw B σ H fp en ex _ fun b H1 hp s => by
    cases b with
    | false =>
      show u σ H1 Q
      exact h' P X hp B σ H1 fp (en.step s) ex Q fun b2 H2 hp2 s2 => q b2 H2 hp2 (s.trans s2)
    | true =>
      show Q true H1
      exact q true H1 hp s
theorem et_not {t : TT} {w : Wp Bool} (h : EvT C Γ t w) : EvT C Γ (tNot t) (bnd w fun b => ret (!b)) := fun P X hw B σ H fp en ex Q q =>
  h _ X hw B σ H fp en ex _ fun b H1 hp s => q (!b) H1 hp s
theorem ev_andV {ta tb : TE} {w : Wp Bool} {w' : Wp Bool} (h : EvG C Γ ta w (fun r => RF C.K (eB r))) (h' : EvG C Γ tb w' (fun r => RF C.K (eB r))) : EvG C Γ (tAndV ta tb) (bnd w fun b => sel b w' (ret false)) (fun r => RF C.K (eB r)) := fun P X hw B σ H fp en ex Q q =>
  h _ X hw B σ H fp en ex _ fun b v H1 hp s hr => ⟨b, Fz.bl_inv hr, by
    cases b with
    | true =>
      show tb σ H1 Q
      exact h' P X hp B σ H1 fp (en.step s) ex Q fun b2 v2 H2 hp2 s2 r2 => q b2 v2 H2 hp2 (s.trans s2) r2
    | false =>
      show Q (.bl false) H1
      exact q false _ H1 hp s (.bl false)⟩
theorem ev_notV {ta : TE} {w : Wp Bool} (h : EvG C Γ ta w (fun r => RF C.K (eB r))) : EvG C Γ (tNotV ta) (bnd w fun b => ret (!b)) (fun r => RF C.K (eB r)) := fun P X hw B σ H fp en ex Q q =>
  h _ X hw B σ H fp en ex _ fun b v H1 hp s hr => ⟨b, Fz.bl_inv hr, q (!b) _ H1 hp s (.bl _)⟩
theorem ev_if {t : TT} {ta tb : TE} {w : Wp Bool} {wa wb : Wp α} {R : α → Rk} (h : EvT C Γ t w) (h1 : EvG C Γ ta wa R) (h2 : EvG C Γ tb wb R) (sr : ∀ r, StR (R r)) : EvG C Γ (tIf t ta tb) (bnd w fun b => sel b wa wb) R := fun P X hw B σ H fp en ex Q q =>
  h _ X hw B σ H fp en ex _ fun b H1 hp s => by
    cases b with
    | true =>
      show ta σ H1 Q
      exact h1 P X hp B σ H1 fp (en.step s) ex Q fun r v H2 hp2 s2 r2 => q r v H2 hp2 (s.trans s2) (sr r B H1 H H2 H2 v s.ts s2.ts (.refl s2.ts) r2 (s.back' en.tps))
    | false =>
      show tb σ H1 Q
      exact h2 P X hp B σ H1 fp (en.step s) ex Q fun r v H2 hp2 s2 r2 => q r v H2 hp2 (s.trans s2) (sr r B H1 H H2 H2 v s.ts s2.ts (.refl s2.ts) r2 (s.back' en.tps))
/-! ### arguments, displays -/
theorem ea_nil : EvA C Γ tNil (ret ()) (fun _ => []) := fun P X hw B σ H fp en ex Q q => q () [] H hw (.refl en.tps) .nil
theorem RAll.stable {B : Bs} {H0 H1 H H' : Hp} (t0 : TpSt B H0) (t : TpSt B H) (s : Stp B H H') (hb : ∀ a, H0 a = none → H1 a = none) : ∀ {vs : List V} {Rs : List Rk}, (∀ R ∈ Rs, StR R) → RAll B H0 H vs Rs → RAll B H1 H' vs Rs
  | _, _, _, .nil => .nil
  | _, _, hs, .cons h r => .cons (hs _ (List.mem_cons_self) B H0 H1 H H' _ t0 t s h hb) (RAll.stable t0 t s hb (fun R hR => hs R (List.mem_cons_of_mem _ hR)) r)
theorem ea_cons {te : TE} {tr : TA} {wa : Wp α} {wr : Wp β} {Ra : α → Rk} {Rr : β → List Rk} (h : EvG C Γ te wa Ra) (hr : EvA C Γ tr wr Rr) (sa : ∀ a, StR (Ra a)) (sr : ∀ b, ∀ R ∈ Rr b, StR R) :
    EvA C Γ (tCons te tr) (bnd wa fun a => bnd wr fun r => ret (a, r)) (fun x => Ra x.1 :: Rr x.2) := fun P X hw B σ H fp en ex Q q => by
  refine h _ X hw B σ H fp en ex _ fun a x H1 h1 s1 r1 => ?_
  refine hr _ X h1 B σ H1 fp (en.step s1) ex _ fun b vs H2 h2 s2 r2 => ?_
  exact q (a, b) (x :: vs) H2 h2 (s1.trans s2) (.cons (sa a B H H H1 H2 x en.tps s1.ts s2 r1 fun _ z => z) (RAll.stable s1.ts s2.ts (.refl s2.ts) (s1.back' en.tps) (sr b) r2))
/-- all the arguments data -/
inductive AllF (K : PySem.W.Frag) : List Rk → List PyData → Prop
  | nil : AllF K [] []
  | cons {d : PyData} {Rs : List Rk} {ds : List PyData} : AllF K Rs ds → AllF K (RF K d :: Rs) (d :: ds)
theorem AllF.fz {B : Bs} {H0 H : Hp} : ∀ {Rs : List Rk} {ds : List PyData} {vs : List V}, AllF K Rs ds → RAll B H0 H vs Rs → FzAll K H vs ds
  | _, _, _, .nil, h => by cases h; exact .nil
  | _, _, _, .cons t, h => by
    cases h with
    | cons h1 h2 => exact .cons h1 (AllF.fz t h2)
/-- (a, b, ..) -/
theorem ev_tup {ta : TA} {w : Wp α} {Rs : α → List Rk} {ds : α → List PyData} (h : EvA C Γ ta w Rs) (hd : ∀ a, AllF C.K (Rs a) (ds a)) (hl : ∀ a, (ds a).length ≤ 100) : EvG C Γ (tTup ta) w (fun a => RF C.K (.tuple (ds a))) := fun P X hw B σ H fp en ex Q q =>
  h P X hw B σ H fp en ex _ fun a vs H1 h1 s1 r1 => by
    have hz := (hd a).fz r1
    have hlen := hz.length
    have h100 := hl a
    refine ⟨by rw [hlen]; exact Nat.le_trans h100 (by decide), fun p hp => ?_⟩
    have s2 : Stp B H1 (upd H1 p (.tup vs)) := .new s1.ts hp
    exact q a (.ref p) _ h1 (s1.trans s2) (.tup (.inl (.inl upd_same)) (hz.stay (s2.stay s1.ts)))
/-- [a, b, ..] -/
theorem ev_lst {ta : TA} {w : Wp α} {Rs : α → List Rk} {ds : α → List PyData} (h : EvA C Γ ta w Rs) (hd : ∀ a, AllF C.K (Rs a) (ds a)) (hl : ∀ a, (ds a).length ≤ 100) : EvG C Γ (tLst ta) w (fun a => RN (ls C.K (ds a))) := fun P X hw B σ H fp en ex Q q =>
  h P X hw B σ H fp en ex _ fun a vs H1 h1 s1 r1 => by
    have hz := (hd a).fz r1
    have hlen := hz.length
    have h100 := hl a
    refine ⟨by rw [hlen]; exact Nat.le_trans h100 (by decide), fun p hp => ?_⟩
    have s2 : Stp B H1 (upd H1 p (.lst vs)) := .new s1.ts hp
    refine q a (.ref p) _ h1 (s1.trans s2) ⟨[p], ⟨p, vs, rfl, rfl, upd_same, hz.stay (s2.stay s1.ts)⟩, fun b hb => ?_⟩
    rw [List.mem_singleton.mp hb]
    exact s1.back en.tps hp
/-- a new list may be read -/
theorem EvG.rl {t : TE} {w : Wp α} {ds : α → List PyData} (h : EvG C Γ t w (fun a => RN (ls C.K (ds a)))) : EvG C Γ t w (fun a => RL C.K (ds a)) := fun P X hw B σ H fp en ex Q q =>
  h P X hw B σ H fp en ex Q fun r v H' hp s ⟨fp', ⟨p, vs, e1, e2, e3, hz⟩, hf⟩ => q r v H' hp s ⟨p, vs, e1, .inl ⟨.inl e3, en.tps.new (hf p (by rw [e2]; exact List.mem_singleton.mpr rfl))⟩, hz⟩
/-! ### calls by values -/
def CaG (C : Cn) [Tbs C.K] (r : List V → Hp → VK → Prop) (Rs : List Rk) (w : Wp γ) (R : γ → Rk) : Prop := ∀ (P : γ → Prop) (X : Xn → Prop), w P X → ∀ B H0 H vs, TpSt B H0 → TpSt B H → (∀ a, H a = none → H0 a = none) → RAll B H0 H vs Rs →
  ∀ Q : VK, (∀ z v H', P z → Stp B H H' → R z B H0 H' v → Q v H') → r vs H Q
theorem ev_cb {r : List V → Hp → VK → Prop} {ta : TA} {w : Wp α} {Rs : α → List Rk} {w' : α → Wp γ} {R : γ → Rk} (h : EvA C Γ ta w Rs) (hr : ∀ a, CaG C r (Rs a) (w' a) R) : EvG C Γ (tCB r ta) (bnd w w') R := fun P X hw B σ H fp en ex Q q =>
  h _ X hw B σ H fp en ex _ fun a vs H1 h1 s1 r1 => hr a P X h1 B H H1 vs en.tps s1.ts (s1.back' en.tps) r1 Q fun z v H2 h2 s2 r2 => q z v H2 h2 (s1.trans s2) r2
end
end WL
/-! WL, part 3: slots stored, what is walked, comprehensions, built-ins. -/
namespace WL
open PySem PySem.Spec PyProof.Rows L2
/-! ### slots -/
section
variable {K : PySem.W.Frag} {B : Bs} {Γ : List Ety} {σ : List (Option V)} {H H' : Hp} {fp : Nat → List Addr}
def put (fp : Nat → List Addr) (i : Nat) (q : List Addr) : Nat → List Addr := fun j => if j = i then q else fp j
theorem put_same (i : Nat) (q : List Addr) : put fp i q i = q := by unfold put; rw [if_pos rfl]
theorem put_ne {i j : Nat} {q : List Addr} (h : j ≠ i) : put fp i q j = fp j := by unfold put; rw [if_neg h]
theorem En.lt (en : En B Γ σ H fp) {i : Nat} {a : Addr} (h : a ∈ fp i) : ∃ S : Sl, Γ[i]? = some (.sl S) := by
  apply Classical.byContradiction
  intro z
  have := en.off i fun S hS => z ⟨S, hS⟩
  rw [this] at h; cases h
theorem rd_upd {a p : Addr} {u o : HO} (hne : a ≠ p) (h : Rd H a u) : Rd (upd H p o) a u := by
  rcases h with h | ⟨x, h⟩
  · exact .inl (by rw [upd_ne hne]; exact h)
  · exact .inr ⟨x, by rw [upd_ne hne]; exact h⟩
theorem rd_new {a : Addr} {u : HO} (h : Rd H a u) (n : H a = none) : False := by
  rcases h with h | ⟨o, h⟩ <;> rw [n] at h <;> cases h
/-- a name is stored -/
theorem En.put (en : En B Γ σ H fp) {i : Nat} {S : Sl} {v : V} {q : List Addr} (hi : i < Γ.length) (ho : S.own H v q) (hd : ∀ a ∈ q, ∀ j, a ∈ fp j → j = i) (ht : ∀ a ∈ q, B.off a) (hn : S.ro = false → ∀ a ∈ q, B.H a = none ∨ a ∈ B.O) (hR : ∀ r ∈ B.R, r.1 ∉ q) :
    En B (Γ.set i (.sl S)) (σ.set i (some v)) H (put fp i q) where
  len := by rw [List.length_set, List.length_set]; exact en.len
  sl := fun j S' hj => by
    by_cases e : j = i
    · subst e
      rw [List.getElem?_set_self hi] at hj
      cases hj
      rw [put_same]
      exact ⟨v, List.getElem?_set_self (by rw [en.len]; exact hi), ho⟩
    · rw [List.getElem?_set_ne (Ne.symm e)] at hj
      rw [put_ne e, List.getElem?_set_ne (Ne.symm e)]
      exact en.sl j S' hj
  tp := fun j T hj => by
    by_cases e : j = i
    · subst e
      rw [List.getElem?_set_self hi] at hj
      cases hj
    · rw [List.getElem?_set_ne (Ne.symm e)] at hj
      rw [List.getElem?_set_ne (Ne.symm e)]
      exact en.tp j T hj
  off := fun j hj => by
    by_cases e : j = i
    · subst e
      exact absurd (List.getElem?_set_self hi) (hj S)
    · rw [put_ne e]
      exact en.off j fun S' z => hj S' (by rw [List.getElem?_set_ne (Ne.symm e)]; exact z)
  dis := fun j k a hj hk => by
    by_cases e : j = i
    · subst e
      rw [put_same] at hj
      by_cases e2 : k = j
      · exact e2.symm
      · rw [put_ne e2] at hk
        exact (hd a hj k hk).symm
    · rw [put_ne e] at hj
      by_cases e2 : k = i
      · subst e2
        rw [put_same] at hk
        exact hd a hk j hj
      · rw [put_ne e2] at hk
        exact en.dis j k a hj hk
  nt := fun j a hj => by
    by_cases e : j = i
    · subst e
      rw [put_same] at hj
      exact ht a hj
    · rw [put_ne e] at hj
      exact en.nt j a hj
  new := fun j a S' hj hr ha => by
    by_cases e : j = i
    · subst e
      rw [List.getElem?_set_self hi] at hj
      cases hj
      rw [put_same] at ha
      exact hn hr a ha
    · rw [List.getElem?_set_ne (Ne.symm e)] at hj
      rw [put_ne e] at ha
      exact en.new j a S' hj hr ha
  rd := fun j K' ds hj => by
    by_cases e : j = i
    · subst e
      rw [List.getElem?_set_self hi] at hj
      cases hj
    · rw [List.getElem?_set_ne (Ne.symm e)] at hj
      rw [List.getElem?_set_ne (Ne.symm e)]
      exact en.rd j K' ds hj
  rb := fun j T hj => by
    by_cases e : j = i
    · subst e
      rw [List.getElem?_set_self hi] at hj
      cases hj
    · rw [List.getElem?_set_ne (Ne.symm e)] at hj
      rw [List.getElem?_set_ne (Ne.symm e)]
      exact en.rb j T hj
  rr := fun r hr => by
    obtain ⟨h1, h2, h3⟩ := en.rr r hr
    refine ⟨h1, h2, fun j hj => ?_⟩
    by_cases e : j = i
    · subst e
      rw [put_same] at hj
      exact hR r hr hj
    · rw [put_ne e] at hj
      exact h3 j hj
  fr := en.fr
  tps := en.tps
/-- data is stored -/
theorem En.putF (en : En B Γ σ H fp) {i : Nat} {v : V} {d : PyData} (hi : i < Γ.length) (h : Fz K H v d) : En B (Γ.set i (.sl (fz K d))) (σ.set i (some v)) H (WL.put fp i []) :=
  en.put hi ⟨rfl, h⟩ (fun a z => absurd z (by simp)) (fun a z => absurd z (by simp)) (fun _ a z => absurd z (by simp)) fun r _ z => absurd z (by simp)
/-- a new thing is stored; H0: where it was new -/
theorem En.putN (en : En B Γ σ H fp) {i : Nat} {S : Sl} {v : V} {q : List Addr} {H0 : Hp} (hi : i < Γ.length) (ho : S.own H v q) (en0 : En B Γ σ H0 fp) (hf : ∀ a ∈ q, H0 a = none) : En B (Γ.set i (.sl S)) (σ.set i (some v)) H (WL.put fp i q) := by
  refine en.put hi ho (fun a ha j hj => ?_) (fun a ha => en0.tps.new (hf a ha)) (fun _ a ha => ?_) fun r hr ha => ?_
  · obtain ⟨S', hS⟩ := en0.lt hj
    obtain ⟨v', _, ho'⟩ := en0.sl j S' hS
    obtain ⟨o, e, _⟩ := S'.dom ho' hj
    rw [hf a ha] at e; cases e
  · left
    cases e : B.H a with
    | none => rfl
    | some o =>
      obtain ⟨o', e', _⟩ := en0.fr a o e
      rw [hf a ha] at e'; cases e'
  · exact rd_new (en0.rr r hr).1 (hf _ ha)
/-- a name is forgotten; x: whatever the slot holds now -/
theorem En.drop (en : En B Γ σ H fp) (i : Nat) (x : Option V) : En B (Γ.set i .un) (σ.set i x) H (WL.put fp i []) where
  len := by rw [List.length_set, List.length_set]; exact en.len
  sl := fun j S' hj => by
    by_cases e : j = i
    · subst e
      by_cases hl : j < Γ.length
      · rw [List.getElem?_set_self hl] at hj
        cases hj
      · rw [List.getElem?_eq_none (by rw [List.length_set]; omega)] at hj
        cases hj
    · rw [List.getElem?_set_ne (Ne.symm e)] at hj
      rw [put_ne e, List.getElem?_set_ne (Ne.symm e)]
      exact en.sl j S' hj
  tp := fun j T hj => by
    by_cases e : j = i
    · subst e
      by_cases hl : j < Γ.length
      · rw [List.getElem?_set_self hl] at hj
        cases hj
      · rw [List.getElem?_eq_none (by rw [List.length_set]; omega)] at hj
        cases hj
    · rw [List.getElem?_set_ne (Ne.symm e)] at hj
      rw [List.getElem?_set_ne (Ne.symm e)]
      exact en.tp j T hj
  off := fun j hj => by
    by_cases e : j = i
    · subst e
      exact put_same j []
    · rw [put_ne e]
      exact en.off j fun S' z => hj S' (by rw [List.getElem?_set_ne (Ne.symm e)]; exact z)
  dis := fun j k a hj hk => by
    by_cases e : j = i
    · subst e
      rw [put_same] at hj
      cases hj
    · rw [put_ne e] at hj
      by_cases e2 : k = i
      · subst e2
        rw [put_same] at hk
        cases hk
      · rw [put_ne e2] at hk
        exact en.dis j k a hj hk
  nt := fun j a hj => by
    by_cases e : j = i
    · subst e
      rw [put_same] at hj
      cases hj
    · rw [put_ne e] at hj
      exact en.nt j a hj
  new := fun j a S' hj hr ha => by
    by_cases e : j = i
    · subst e
      rw [put_same] at ha
      cases ha
    · rw [List.getElem?_set_ne (Ne.symm e)] at hj
      rw [put_ne e] at ha
      exact en.new j a S' hj hr ha
  rd := fun j K' ds hj => by
    by_cases e : j = i
    · subst e
      by_cases hl : j < Γ.length
      · rw [List.getElem?_set_self hl] at hj
        cases hj
      · rw [List.getElem?_eq_none (by rw [List.length_set]; omega)] at hj
        cases hj
    · rw [List.getElem?_set_ne (Ne.symm e)] at hj
      rw [List.getElem?_set_ne (Ne.symm e)]
      exact en.rd j K' ds hj
  rb := fun j T hj => by
    by_cases e : j = i
    · subst e
      by_cases hl : j < Γ.length
      · rw [List.getElem?_set_self hl] at hj
        cases hj
      · rw [List.getElem?_eq_none (by rw [List.length_set]; omega)] at hj
        cases hj
    · rw [List.getElem?_set_ne (Ne.symm e)] at hj
      rw [List.getElem?_set_ne (Ne.symm e)]
      exact en.rb j T hj
  rr := fun r hr => by
    obtain ⟨h1, h2, h3⟩ := en.rr r hr
    refine ⟨h1, h2, fun j hj => ?_⟩
    by_cases e : j = i
    · subst e
      rw [put_same] at hj
      cases hj
    · rw [put_ne e] at hj
      exact h3 j hj
  fr := en.fr
  tps := en.tps
/-- a name is forgotten, its slot as it is -/
theorem set_id : ∀ (l : List (Option V)) (i : Nat) (x : Option V), l[i]? = some x → l.set i x = l
  | [], _, _, h => by simp at h
  | _ :: _, 0, _, h => by
    simp at h
    rw [h]
    rfl
  | a :: l, i + 1, x, h => by
    rw [List.set_cons_succ, set_id l i x (by simpa using h)]
theorem set_out {α : Type} : ∀ (l : List α) (i : Nat) (x : α), l.length ≤ i → l.set i x = l
  | [], _, _, _ => rfl
  | _ :: _, 0, _, h => by simp at h
  | a :: l, i + 1, x, h => by
    rw [List.set_cons_succ, set_out l i x (by simpa using h)]
theorem En.forget (en : En B Γ σ H fp) (i : Nat) : En B (Γ.set i .un) σ H (WL.put fp i []) := by
  cases e : σ[i]? with
  | none =>
    have hl : σ.length ≤ i := List.getElem?_eq_none_iff.mp e
    have h := en.drop i none
    rw [set_out σ i none hl] at h
    exact h
  | some x =>
    have h := en.drop i x
    rw [set_id σ i x e] at h
    exact h
/-- a list that is one's own is changed -/
theorem En.mut (en : En B Γ σ H fp) {i : Nat} {S S' : Sl} {v : V} {p : Addr} {o : HO} (hS : Γ[i]? = some (.sl S)) (hr : S.ro = false) (hv : σ[i]? = some (some v)) (hp : p ∈ fp i) (hl : ∀ q, q ∈ fp i → q = p) (ho : still o = false) (h : S'.own (upd H p o) v (fp i)) :
    En B (Γ.set i (.sl S')) σ (upd H p o) fp := by
  have hi : i < Γ.length := (List.getElem?_eq_some_iff.mp hS).1
  obtain ⟨v', hv', ho'⟩ := en.sl i S hS
  obtain ⟨o1, e1, st1⟩ := S.dom ho' hp
  refine ⟨by rw [List.length_set]; exact en.len, fun j T hj => ?_, fun j T hj => ?_, fun j hj => ?_, en.dis, en.nt, fun j a T hj hro ha => ?_, fun j K' ds hj => ?_, fun j T hj => ?_, fun r hr2 => ?_, fun a o' e => ?_, fun t ht => ?_⟩
  · by_cases e : j = i
    · subst e
      rw [List.getElem?_set_self hi] at hj
      cases hj
      exact ⟨v, hv, h⟩
    · rw [List.getElem?_set_ne (Ne.symm e)] at hj
      obtain ⟨u, hu, hT⟩ := en.sl j T hj
      refine ⟨u, hu, T.keep hT fun a ob ea z => ?_⟩
      have : a ≠ p := by
        rintro rfl
        rcases z with z | z
        · exact e (en.dis j i a z hp)
        · rw [e1] at ea
          cases ea
          rw [st1] at z; cases z
      rw [upd_ne this]
      exact ea
  · by_cases e : j = i
    · subst e
      rw [List.getElem?_set_self hi] at hj
      cases hj
    · rw [List.getElem?_set_ne (Ne.symm e)] at hj
      exact en.tp j T hj
  · by_cases e : j = i
    · subst e
      exact absurd (List.getElem?_set_self hi) (hj S')
    · exact en.off j fun S'' z => hj S'' (by rw [List.getElem?_set_ne (Ne.symm e)]; exact z)
  · by_cases e : j = i
    · subst e
      exact en.new j a S hS hr ha
    · rw [List.getElem?_set_ne (Ne.symm e)] at hj
      exact en.new j a T hj hro ha
  · by_cases e : j = i
    · subst e
      rw [List.getElem?_set_self hi] at hj
      cases hj
    · rw [List.getElem?_set_ne (Ne.symm e)] at hj
      obtain ⟨r, us, h1, h2, h3⟩ := en.rd j K' ds hj
      refine ⟨r, us, h1, h2, h3.stay fun a ob ea z => ?_⟩
      have : a ≠ p := by
        rintro rfl
        rw [e1] at ea
        cases ea
        rw [st1] at z; cases z
      rw [upd_ne this]
      exact ea
  · by_cases e : j = i
    · subst e
      rw [List.getElem?_set_self hi] at hj
      cases hj
    · rw [List.getElem?_set_ne (Ne.symm e)] at hj
      obtain ⟨u, fq, hu, hT, hR⟩ := en.rb j T hj
      refine ⟨u, fq, hu, T.keep hT fun a ob ea z => ?_, hR⟩
      have : a ≠ p := by
        rintro rfl
        rcases z with z | z
        · obtain ⟨o', hm⟩ := hR a z
          exact (en.rr _ hm).2.2 i hp
        · rw [e1] at ea
          cases ea
          rw [st1] at z; cases z
      rw [upd_ne this]
      exact ea
  · obtain ⟨h1, h2, h3⟩ := en.rr r hr2
    have : r.1 ≠ p := fun z => h3 i (z ▸ hp)
    exact ⟨rd_upd this h1, h2, h3⟩
  · obtain ⟨o2, e2, k1, k2⟩ := en.fr a o' e
    by_cases z : a = p
    · subst z
      refine ⟨o, upd_same, fun n1 _ => ?_, fun z => ?_⟩
      · rcases en.new i a S hS hr hp with q | q
        · rw [e] at q; cases q
        · exact absurd q n1
      · have e5 := k2 z
        subst e5
        rw [e1] at e2
        cases e2
        rw [st1] at z; cases z
    · exact ⟨o2, by rw [upd_ne z]; exact e2, k1, k2⟩
  · have hoff := en.nt i p hp t ht
    refine t.1.keep (en.tps t ht) fun a ob ea z => ?_
    have : a ≠ p := by
      rintro rfl
      rcases z with z | z
      · exact hoff z
      · rw [e1] at ea
        cases ea
        rw [st1] at z; cases z
    rw [upd_ne this]
    exact ea
end
/-! ### what is walked -/
theorem le_beta {a b i : Nat} (h : a = b) (hi : b ≤ i) : a ≤ i := h ▸ hi
theorem lt_beta {a b i : Nat} (h : a = b) (hi : i < b) : i < a := h ▸ hi
theorem wipe_get : ∀ (l : List Nat) (τ : List (Option V)) (j : Nat), (wipe τ l)[j]? = if j ∈ l then (τ[j]?).map (fun _ => none) else τ[j]?
  | [], τ, j => by simp [wipe]
  | v :: l, τ, j => by
    show ((wipe τ l).set v none)[j]? = _
    rw [List.getElem?_set]
    by_cases ev : v = j
    · subst ev
      rw [if_pos rfl, if_pos List.mem_cons_self, wipe_length]
      by_cases hl : v < τ.length
      · rw [if_pos hl, List.getElem?_eq_getElem hl]
        rfl
      · rw [if_neg hl, List.getElem?_eq_none (by omega)]
        rfl
    · rw [if_neg ev, wipe_get l τ j]
      have : (j ∈ v :: l) ↔ j ∈ l := by
        rw [List.mem_cons]
        exact ⟨fun z => z.resolve_left (fun q => ev q.symm), .inr⟩
      simp only [this]
theorem wipe_idem (l : List Nat) (τ : List (Option V)) : wipe (wipe τ l) l = wipe τ l := by
  refine List.ext_getElem? fun j => ?_
  rw [wipe_get, wipe_get]
  split
  · rw [Option.map_map]
    rfl
  · rfl
structure ItOk (K : PySem.W.Frag) (B : Bs) (J : It) (H1 : Hp) (ds : List PyData) (sup : List Addr) : Prop where
  sp : ∀ a ∈ sup, B.off a ∧ ∃ o, H1 a = some o
  go : ∀ (i : Nat) (H : Hp), (∀ a o, H1 a = some o → (a ∈ sup ∨ still o = true) → H a = some o) → i < ds.length → J.go i H ∧ ∀ x H', J.yld i H x H' → (∀ a o, H a = some o → H' a = some o) ∧ ∃ d, ds[i]? = some d ∧ Fz K H' x d
  stop : ∀ (i : Nat) (H : Hp), (∀ a o, H1 a = some o → (a ∈ sup ∨ still o = true) → H a = some o) → ds.length ≤ i → J.stop i H
/-- own: slots whose lists are walked -/
def ItG (C : Cn) [Tbs C.K] (Γ : List Ety) {α : Type} (wi : TI) (w : Wp α) (ds : α → List PyData) (own : Nat → Bool) : Prop := ∀ (P : α → Prop) (X : Xn → Prop), w P X → ∀ B σ H fp, En B Γ σ H fp → Exok C B X →
  ∀ R : It → Hp → Prop, (∀ r J H' sup, P r → Stp B H H' → ItOk C.K B J H' (ds r) sup → (∀ a ∈ sup, H a = none ∨ (∃ i, own i = true ∧ a ∈ fp i) ∨ ∃ r, r ∈ B.R ∧ r.1 = a) → R J H') → wi σ H R
section
variable {C : Cn} [Tbs C.K] {Γ : List Ety} {α β γ : Type}
theorem ItG.is {wi : TI} {w w' : Wp α} {ds : α → List PyData} {own : Nat → Bool} (h : ItG C Γ wi w ds own) (e : w = w') : ItG C Γ wi w' ds own := e ▸ h
def noOwn : Nat → Bool := fun _ => false
def ownOf (i : Nat) : Nat → Bool := fun j => decide (j = i)
/-- a tuple -/
theorem it_tup {te : TE} {w : Wp (List α)} {e : α → PyData} (h : EvG C Γ te w (fun r => RF C.K (eT e r))) : ItG C Γ (iTup C.K te) w (fun r => r.map e) noOwn := fun P X hw B σ H fp en ex R q => by
  refine h P X hw B σ H fp en ex _ fun r v H1 hp s hr => ?_
  obtain ⟨a, vs, rfl, hs, hz⟩ := Fz.tup_inv hr
  have hlen := hz.length
  refine ⟨a, rfl, ⟨_, hs⟩, q r _ H1 [] hp s ⟨fun a h => absurd h (by simp), fun i H2 st hi => ?_, fun i H2 st hi => ⟨vs, sqT_stay (fun a o e z => st a o e (.inr z)) hs, le_beta hlen hi⟩⟩ fun a h => absurd h (by simp)⟩
  have stay : Stay H1 H2 := fun a o e z => st a o e (.inr z)
  have hs2 := sqT_stay stay hs
  have hi2 : i < vs.length := lt_beta hlen hi
  refine ⟨⟨vs, vs[i], hs2, List.getElem?_eq_getElem hi2⟩, fun x H3 hy => ?_⟩
  obtain ⟨rfl, hx⟩ := hy
  obtain ⟨d, hd, hf⟩ := (hz.stay stay).getV (hx vs hs2)
  exact ⟨fun _ _ e => e, d, hd, hf⟩
/-- a list read by name (slot i), or new -/
theorem it_list {te : TE} {w : Wp (List α)} {e : α → PyData} (h : EvG C Γ te w (fun r => RN (ls C.K (r.map e)))) : ItG C Γ (iList C.K te) w (fun r => r.map e) noOwn := fun P X hw B σ H fp en ex R q => by
  refine h P X hw B σ H fp en ex _ fun r v H1 hp s hr => ?_
  obtain ⟨fq, ⟨p, vs, rfl, e2, hs, hz⟩, hf⟩ := hr
  have hlen := hz.length
  have hfp : H p = none := hf p (by rw [e2]; exact List.mem_singleton.mpr rfl)
  refine ⟨p, rfl, ⟨vs, .inl (.inl hs)⟩, q r _ H1 [p] hp s ⟨fun a h => ?_, fun i H2 st hi => ?_, fun i H2 st hi => ⟨vs, .inl (.inl (st p _ hs (.inl (by simp)))), le_beta hlen hi⟩⟩ fun a h => ?_⟩
  · rw [List.mem_singleton.mp h]
    exact ⟨en.tps.new hfp, _, hs⟩
  · have stay : Stay H1 H2 := fun a o e z => st a o e (.inr z)
    have hs2 : SqL C.K H2 p vs := .inl (.inl (st p _ hs (.inl (by simp))))
    have hi2 : i < vs.length := lt_beta hlen hi
    refine ⟨⟨vs, vs[i], hs2, List.getElem?_eq_getElem hi2⟩, fun x H3 hy => ?_⟩
    obtain ⟨rfl, hx⟩ := hy
    obtain ⟨d, hd, hf⟩ := (hz.stay stay).getV (hx vs hs2)
    exact ⟨fun _ _ e => e, d, hd, hf⟩
  · rw [List.mem_singleton.mp h]
    exact .inl hfp
theorem it_var {i : Nat} {e : α → PyData} (xs : List α) (h : Γ[i]? = some (.sl (ls C.K (xs.map e)))) : ItG C Γ (iList C.K (tVar i)) (ret xs) (fun r => r.map e) (ownOf i) := fun P X hw B σ H fp en ex R q => by
  obtain ⟨v, hv, p, vs, rfl, e2, hp, hz⟩ := en.sl i _ h
  have hlen := hz.length
  have hm : p ∈ fp i := by rw [e2]; exact List.mem_singleton.mpr rfl
  refine ⟨_, hv, p, rfl, ⟨vs, .inl (.inl hp)⟩, q xs _ H [p] hw (.refl en.tps) ⟨fun a h => ?_, fun i H2 st hi => ?_, fun i H2 st hi => ⟨vs, .inl (.inl (st p _ hp (.inl (by simp)))), le_beta hlen hi⟩⟩ fun a h => ?_⟩
  · rw [List.mem_singleton.mp h]
    exact ⟨en.nt i p hm, _, hp⟩
  · have stay : Stay H H2 := fun a o e z => st a o e (.inr z)
    have hs2 : SqL C.K H2 p vs := .inl (.inl (st p _ hp (.inl (by simp))))
    have hi2 : i < vs.length := lt_beta hlen hi
    refine ⟨⟨vs, vs[i], hs2, List.getElem?_eq_getElem hi2⟩, fun x H3 hy => ?_⟩
    obtain ⟨rfl, hx⟩ := hy
    obtain ⟨d, hd, hf⟩ := (hz.stay stay).getV (hx vs hs2)
    exact ⟨fun _ _ e => e, d, hd, hf⟩
  · rw [List.mem_singleton.mp h]
    exact .inr (.inl ⟨i, by unfold ownOf; simp, hm⟩)
/-- lo, lo + 1, .. -/
def span (lo : Int) (n : Nat) : List Int := (List.range n).map fun k => lo + (k : Nat)
theorem span_length (lo : Int) (n : Nat) : (span lo n).length = n := by unfold span; rw [List.length_map, List.length_range]
theorem itr_ok {B : Bs} {H1 : Hp} {lo : Int} {n : Nat} : ItOk C.K B (Itr lo n) H1 ((span lo n).map eI) [] := by
  refine ⟨fun a h => absurd h (by simp), fun i H2 st hi => ?_, fun i H2 st hi => ?_⟩
  · rw [List.length_map, span_length] at hi
    refine ⟨hi, fun x H3 hy => ?_⟩
    obtain ⟨rfl, rfl⟩ := hy
    refine ⟨fun _ _ e => e, _, ?_, .int _⟩
    unfold span
    rw [List.map_map, List.getElem?_map, List.getElem?_range hi]
    rfl
  · rw [List.length_map, span_length] at hi
    exact hi
def Rng (i : Int) : Prop := -(2 ^ 62) ≤ i ∧ i < 2 ^ 62
theorem it_range1 {te : TE} {w : Wp Int} (h : EvG C Γ te w (fun r => RF C.K (eI r))) : ItG C Γ (iRng1 (tCons te tNil)) (bnd w fun j => grd (Rng j) (ret (span 0 j.toNat))) (fun r => r.map eI) noOwn := fun P X hw B σ H fp en ex R q =>
  h _ X hw B σ H fp en ex _ fun j v H1 hp s hr => by
    have e1 := Fz.int_inv (n := j) hr
    subst e1
    exact ⟨j, rfl, hp.1.1, hp.1.2, q _ _ H1 [] hp.2 s itr_ok fun a h => absurd h (by simp)⟩
/-! ### comprehensions -/
/-- nothing is raised -/
def noX (m : Wp α) : Wp α := fun P _ => m P fun _ => False
def lcW (c : α → Wp Bool) (f : α → Wp β) : List α → Wp (List β)
  | [] => ret []
  | x :: xs => bnd (c x) fun b => sel b (bnd (f x) fun y => bnd (lcW c f xs) fun ys => ret (y :: ys)) (lcW c f xs)
def lcG (c : α → Wp Bool) (f : α → Wp β) (xs : List α) : Wp (List β) := grd (xs.length ≤ 16777216) (noX (lcW c f xs))
abbrev Cn.nox (C : Cn) : Cn := { C with E := fun _ _ _ => False }
theorem exok_no {C : Cn} [Tbs C.K] {B : Bs} (h : tbOf C.K B.T) : Exok C B (fun _ => False) := ⟨h, fun _ _ _ _ h => h.elim⟩
/-- the tape apart, all objects of H1 stand in H -/
theorem lc_list_room (n : Nat) (h : n < 16777216) : n < sizeLine := Nat.lt_of_lt_of_le h (by decide)
/-- the block's target: data x comes in -/
structure TgG (K : PySem.W.Frag) (Γ : List Ety) (g : TG) (vs : List Nat) (d : PyData) (Γ' : List Ety) : Prop where
  run : ∀ B σ H fp v, En B Γ σ H fp → Fz K H v d → ∀ Q : List (Option V) → Hp → Prop, (∀ σ' fp', En B Γ' σ' H fp' → wipe σ' vs = wipe σ vs → (∀ a i, a ∈ fp' i → ∃ j, a ∈ fp j) → Q σ' H) → g v σ H Q
theorem wipe1 (σ : List (Option V)) (i : Nat) (x : Option V) : wipe (σ.set i x) [i] = wipe σ [i] := by
  show (σ.set i x).set i none = σ.set i none
  rw [List.set_set]
theorem tg_name {K : PySem.W.Frag} {i : Nat} {d : PyData} (hi : i < Γ.length) : TgG K Γ (gName i) [i] d (Γ.set i (.sl (fz K d))) := ⟨fun B σ H fp v en hz Q q => q _ _ (en.putF hi hz) (wipe1 σ i _) fun a j h => by
  by_cases e : j = i
  · subst e
    rw [put_same] at h; cases h
  · rw [put_ne e] at h
    exact ⟨j, h⟩⟩
/-- the block's slots forgotten -/
def unA (Γ : List Ety) : List Nat → List Ety
  | [] => Γ
  | v :: vs => (unA Γ vs).set v .un
theorem En.wiped {B : Bs} {σ : List (Option V)} {H : Hp} {fp : Nat → List Addr} (en : En B Γ σ H fp) : ∀ vs : List Nat, ∃ fp', En B (unA Γ vs) (wipe σ vs) H fp' ∧ ∀ a i, a ∈ fp' i → a ∈ fp i
  | [] => ⟨fp, en, fun _ _ h => h⟩
  | v :: vs => by
    obtain ⟨fp', en', h⟩ := En.wiped en vs
    refine ⟨_, en'.drop v none, fun a i ha => ?_⟩
    by_cases e : i = v
    · subst e
      rw [put_same] at ha; cases ha
    · rw [put_ne e] at ha
      exact h a i ha
/-- an object that nobody of the names owns is changed -/
theorem En.side {B : Bs} {σ : List (Option V)} {H : Hp} {fp : Nat → List Addr} (en : En B Γ σ H fp) {D : Addr} {o o' : HO} (hD : H D = some o) (ho : still o = false) (hn : ∀ i, D ∉ fp i) (ht : B.off D) (hb : B.H D = none) (hR : ∀ r ∈ B.R, r.1 ≠ D) : En B Γ σ (upd H D o') fp where
  len := en.len
  sl := fun i S hS => by
    obtain ⟨v, hv, h⟩ := en.sl i S hS
    refine ⟨v, hv, S.keep h fun a ob e z => ?_⟩
    have : a ≠ D := by
      rintro rfl
      rcases z with z | z
      · exact hn i z
      · rw [hD] at e
        cases e
        rw [ho] at z; cases z
    rw [upd_ne this]
    exact e
  tp := en.tp
  off := en.off
  dis := en.dis
  nt := en.nt
  new := en.new
  rd := fun j K' ds hj => by
    obtain ⟨r, us, h1, h2, h3⟩ := en.rd j K' ds hj
    refine ⟨r, us, h1, h2, h3.stay fun a ob ea z => ?_⟩
    have : a ≠ D := by
      rintro rfl
      rw [hD] at ea
      cases ea
      rw [ho] at z; cases z
    rw [upd_ne this]
    exact ea
  rb := fun j T hj => by
    obtain ⟨u, fq, hu, hT, hq⟩ := en.rb j T hj
    refine ⟨u, fq, hu, T.keep hT fun a ob ea z => ?_, hq⟩
    have : a ≠ D := by
      rintro rfl
      rcases z with z | z
      · obtain ⟨o', hm⟩ := hq a z
        exact hR _ hm rfl
      · rw [hD] at ea
        cases ea
        rw [ho] at z; cases z
    rw [upd_ne this]
    exact ea
  rr := fun r hr => by
    obtain ⟨h1, h2, h3⟩ := en.rr r hr
    exact ⟨rd_upd (hR r hr) h1, h2, h3⟩
  fr := fun a ob e => by
    obtain ⟨o2, e2, k⟩ := en.fr a ob e
    have : a ≠ D := by
      rintro rfl
      rw [hb] at e; cases e
    exact ⟨o2, by rw [upd_ne this]; exact e2, k⟩
  tps := fun t h => by
    refine t.1.keep (en.tps t h) fun a ob ea z => ?_
    have : a ≠ D := by
      rintro rfl
      rcases z with z | z
      · exact ht t h z
      · rw [hD] at ea
        cases ea
        rw [ho] at z; cases z
    rw [upd_ne this]
    exact ea
theorem ev_lc {wi : TI} {g : TG} {tt : TT} {te : TE} {vs : List Nat} {w : Wp (List α)} {e : α → PyData} {own : Nat → Bool} {c : α → Wp Bool} {f : α → Wp β} {e' : β → PyData} {Γb : α → List Ety} (hi : ItG C Γ wi w (fun r => r.map e) own)
    (hg : ∀ x, TgG C.K (unA Γ vs) g vs (e x) (Γb x)) (ht : ∀ x, EvT C.nox (Γb x) tt (c x)) (hf : ∀ x, EvG C.nox (Γb x) te (f x) (fun r => RF C.K (e' r))) :
    EvG C Γ (tLc wi g tt te vs) (bnd w fun xs => lcG c f xs) (fun r => RN (ls C.K (r.map e'))) := fun P X hw B σ H fp en ex Q q => by
  refine hi _ X hw B σ H fp en ex _ fun xs J H1 sup hp s1 ok hsup => ?_
  obtain ⟨hlen, hp⟩ := hp
  intro D hD
  have hD0 : H D = none := s1.back en.tps hD
  have offD : B.off D := s1.ts.new hD
  have hBD : B.H D = none := by
    cases z : B.H D with
    | none => rfl
    | some o =>
      obtain ⟨o', e', _⟩ := (en.step s1).fr D o z
      rw [hD] at e'; cases e'
  have nD : ∀ i, D ∉ fp i := fun i hm => by
    obtain ⟨S, hS⟩ := en.lt hm
    obtain ⟨v, _, ho⟩ := en.sl i S hS
    obtain ⟨o, eo, _⟩ := S.dom ho hm
    rw [hD0] at eo; cases eo
  have nsup : D ∉ sup := fun hm => by
    obtain ⟨_, o, eo⟩ := ok.sp D hm
    rw [hD] at eo; cases eo
  have hRD : ∀ r ∈ B.R, r.1 ≠ D := fun r hr z => rd_new ((en.step s1).rr r hr).1 (by rw [z]; exact hD)
  obtain ⟨fpw, enw, subw⟩ := (en.step s1).wiped vs
  -- the invariant: what is still to come answers
  refine ⟨fun i m H2 => m = xs.length - i ∧ i ≤ xs.length ∧ (∀ a o, H1 a = some o → B.off a → H2 a = some o) ∧ TpSt B H2 ∧ En B (unA Γ vs) (wipe σ vs) H2 fpw ∧ ∃ (acc : List V) (ys : List β), H2 D = some (.lst acc) ∧ acc.length ≤ i ∧ FzAll C.K H2 acc (ys.map e') ∧
      lcW c f (xs.drop i) (fun zs => P (ys ++ zs)) (fun _ => False), ⟨xs.length, by omega, Nat.zero_le _, fun a o ea _ => ?_, ?_, ?_, [], [], upd_same, Nat.le_refl _, .nil, hp⟩, ?_⟩
  · rw [upd_ne (ne_of_none ea hD)]
    exact ea
  · exact s1.ts.same (upd_keeps hD)
  · exact enw.step (.new s1.ts hD)
  rintro i m H2 ⟨rfl, hi', kp, ts2, en2, acc, ys, hacc, hal, hz, hlc⟩
  have kst : ∀ a o, H1 a = some o → (a ∈ sup ∨ still o = true) → H2 a = some o := fun a o ea z => by
    rcases z with z | z
    · exact kp a o ea (ok.sp a z).1
    · exact kp a o ea (s1.ts.notstill ea z)
  by_cases hlt : i < xs.length
  · obtain ⟨go, yld⟩ := ok.go i H2 kst (by rw [List.length_map]; exact hlt)
    refine .inr ⟨go, fun H' => ∃ m', m' < xs.length - i ∧ (m' = xs.length - (i + 1) ∧ i + 1 ≤ xs.length ∧ (∀ a o, H1 a = some o → B.off a → H' a = some o) ∧ TpSt B H' ∧ En B (unA Γ vs) (wipe σ vs) H' fpw ∧ ∃ (acc : List V) (ys : List β), H' D = some (.lst acc) ∧ acc.length ≤ i + 1 ∧ FzAll C.K H' acc (ys.map e') ∧
      lcW c f (xs.drop (i + 1)) (fun zs => P (ys ++ zs)) (fun _ => False)), fun H' h => h, fun x H3 hy => ?_⟩
    obtain ⟨kp3, d, hd, hx⟩ := yld x H3 hy
    have ed : d = e xs[i] := by
      rw [List.getElem?_map, List.getElem?_eq_getElem hlt] at hd
      exact (Option.some.inj hd).symm
    subst ed
    have s3 : Stp B H2 H3 := .same ts2 kp3
    have en3 := en2.step s3
    refine (hg xs[i]).run B (wipe σ vs) H3 fpw x en3 hx _ fun σ4 fp4 en4 hw4 sub4 => ?_
    have nD4 : ∀ i, D ∉ fp4 i := fun i hm => by
      obtain ⟨j, hj⟩ := sub4 D i hm
      exact nD j (subw D j hj)
    have hdrop : xs.drop i = xs[i] :: xs.drop (i + 1) := List.drop_eq_getElem_cons hlt
    rw [hdrop] at hlc
    refine ⟨?_, ?_⟩
    · refine hw4.trans ?_
      exact wipe_idem vs σ
    refine ht xs[i] _ (fun _ => False) hlc B σ4 H3 fp4 en4 (exok_no ex.tb) _ fun b H5 hb s5 => ?_
    have en5 := en4.step s5
    have s25 := s3.trans s5
    have kp5 : ∀ a o, H1 a = some o → B.off a → H5 a = some o := fun a o ea na => s25.kp a o (kp a o ea na) na
    cases b with
    | true =>
      refine iteT ?_
      refine hf xs[i] _ (fun _ => False) hb B σ4 H5 fp4 en5 (exok_no ex.tb) _ fun y v H6 hy6 s6 r6 => ?_
      have en6 := en5.step s6
      have s26 := s25.trans s6
      have hD6 : H6 D = some (.lst acc) := s26.kp D _ hacc offD
      have hz6 := hz.stay (s26.stay ts2)
      have enw6 : En B (unA Γ vs) (wipe σ vs) H6 fpw := en2.step s26
      have stE : Stay H6 (upd H6 D (.lst (acc ++ [v]))) := fun a o ea z => by
        have : a ≠ D := by
          rintro rfl
          rw [hD6] at ea; cases ea; cases z
        rw [upd_ne this]
        exact ea
      have eny := enw6.side (o' := .lst (acc ++ [v])) hD6 rfl (fun i hm => nD i (subw D i hm)) offD hBD hRD
      refine ⟨acc, hD6, lc_list_room _ (by omega), xs.length - (i + 1), by omega, rfl, hlt, fun a o ea na => ?_, eny.tps, eny, acc ++ [v], ys ++ [y], upd_same, ?_, ?_, ?_⟩
      · have : a ≠ D := by
          rintro rfl
          rw [hD] at ea; cases ea
        rw [upd_ne this]
        exact s6.kp a o (kp5 a o ea na) na
      · rw [List.length_append, List.length_singleton]
        omega
      · rw [List.map_append]
        exact (hz6.stay stE).append (.one (Fz.stay stE r6))
      · have : (fun zs => P (ys ++ [y] ++ zs)) = fun zs => P (ys ++ y :: zs) := by
          funext zs
          rw [List.append_assoc]
          rfl
        rw [this]
        exact hy6
    | false =>
      refine iteF ?_
      exact ⟨xs.length - (i + 1), by omega, rfl, hlt, kp5, s5.ts, en2.step s25, acc, ys, s25.kp D _ hacc offD, by omega, hz.stay (s25.stay ts2), hb⟩
  · have ei : i = xs.length := by omega
    subst ei
    rw [List.drop_length] at hlc
    refine .inl ⟨ok.stop _ H2 kst (by rw [List.length_map]; exact Nat.le_refl _), ?_⟩
    have hP : P (ys ++ []) := hlc
    rw [List.append_nil] at hP
    refine q ys (.ref D) H2 hP ⟨fun a o ea na => kp a o (s1.kp a o ea na) na, ts2⟩ ⟨[D], ⟨D, acc, rfl, rfl, hacc, hz⟩, fun a ha => ?_⟩
    rw [List.mem_singleton.mp ha]
    exact hD0
theorem et_yes : EvT C Γ tYes (ret true) := fun P X hw B σ H fp en ex Q q => q true H hw (.refl en.tps)
end
end WL
/-! WL, part 4: statements. -/
namespace WL
open PySem PySem.Spec PyProof.Rows L2
/-- a def's outcome -/
inductive Oc where
  | fz (d : PyData)
  | nw (S : Sl)
def OcOk (K : PySem.W.Frag) (B : Bs) (H : Hp) : Oc → V → Prop
  | .fz d, v => Fz K H v d
  | .nw S, v => ∃ q, S.own H v q ∧ (∀ a ∈ q, B.H a = none ∨ a ∈ B.O) ∧ ∀ a ∈ q, B.off a
def Fin {F : Type} (C : Cn) [Tbs C.K] (B : Bs) (D : Ends) (res : F → Oc) (P : F → Prop) : Prop := ∀ out v H', P out → Frame B H' → TpSt B H' → OcOk C.K B H' (res out) v → D.rt v H'
abbrev Cont (F : Type) := (F → Prop) → (Xn → Prop) → Bs → List (Option V) → Hp → Prop
section
variable {F : Type}
def SimB (C : Cn) [Tbs C.K] (res : F → Oc) (N Bk Ct : Cont F) (t : TS) (Γ : List Ety) (m : Wp F) : Prop :=
  ∀ (P : F → Prop) (X : Xn → Prop), m P X → ∀ B D, Exok C B X → Fin C B D res P → (∀ σ H, N P X B σ H → D.nx σ H) → (∀ σ H, Bk P X B σ H → D.bk σ H) → (∀ σ H, Ct P X B σ H → D.ct σ H) →
    ∀ σ H fp, En B Γ σ H fp → t D σ H
def Lands (N : Cont F) (Γ : List Ety) (m : Wp F) : Prop := ∀ (P : F → Prop) (X : Xn → Prop) B σ H fp, m P X → En B Γ σ H fp → N P X B σ H
def noC : Cont F := fun _ _ _ _ _ => False
def atC {S : Type} (Γf : S → List Ety) (k : S → Wp F) : Cont F := fun P X B σ H => ∃ s fp, k s P X ∧ En B (Γf s) σ H fp
def intoC (C : Cn) [Tbs C.K] (res : F → Oc) (N Bk Ct : Cont F) (u : TS) : Cont F := fun P X B σ H => ∃ Γ m fp, SimB C res N Bk Ct u Γ m ∧ m P X ∧ En B Γ σ H fp
/-- Γ' knows less -/
def WkG (Γ Γ' : List Ety) : Prop := ∀ B σ H fp, En B Γ σ H fp → ∃ fp', En B Γ' σ H fp' ∧ ∀ (i : Nat) (a : Addr), a ∈ fp' i → a ∈ fp i
def wkF : List Bool → List Ety → List Ety
  | _, [] => []
  | [], Γ => Γ
  | true :: bs, e :: Γ => e :: wkF bs Γ
  | false :: bs, _ :: Γ => .un :: wkF bs Γ
theorem wkF_length : ∀ (bs : List Bool) (Γ : List Ety), (wkF bs Γ).length = Γ.length
  | [], [] => rfl
  | _ :: _, [] => rfl
  | [], _ :: _ => rfl
  | true :: bs, _ :: Γ => by
    show (wkF bs Γ).length + 1 = _
    rw [wkF_length bs Γ]
    rfl
  | false :: bs, _ :: Γ => by
    show (wkF bs Γ).length + 1 = _
    rw [wkF_length bs Γ]
    rfl
theorem wkF_get : ∀ (bs : List Bool) (Γ : List Ety) (i : Nat), (wkF bs Γ)[i]? = Γ[i]? ∨ (wkF bs Γ)[i]? = some .un
  | [], [], i => .inl rfl
  | _ :: _, [], i => .inl rfl
  | [], _ :: _, i => .inl rfl
  | true :: bs, e :: Γ, 0 => .inl rfl
  | true :: bs, e :: Γ, i + 1 => wkF_get bs Γ i
  | false :: bs, e :: Γ, 0 => .inr rfl
  | false :: bs, e :: Γ, i + 1 => wkF_get bs Γ i
/-- fewer claims -/
theorem En.less {B : Bs} {Γ Γ' : List Ety} {σ : List (Option V)} {H : Hp} {fp : Nat → List Addr} (en : En B Γ σ H fp) (hl : Γ'.length = Γ.length) (h : ∀ i : Nat, Γ'[i]? = Γ[i]? ∨ Γ'[i]? = some .un) : ∃ fp', En B Γ' σ H fp' ∧ ∀ (i : Nat) (a : Addr), a ∈ fp' i → a ∈ fp i := by
  classical
  refine ⟨fun i => if Γ'[i]? = some .un then [] else fp i, ⟨by rw [hl]; exact en.len, fun i S hS => ?_, fun i T hS => ?_, fun i hS => ?_, fun i j a hi hj => ?_, fun i a hi => ?_, fun i a S hS hr ha => ?_, fun i K' ds hS => ?_, fun i S hS => ?_, fun r hr => ?_, en.fr, en.tps⟩, fun i a hi => ?_⟩
  · have : ¬ Γ'[i]? = some .un := by rw [hS]; intro z; cases z
    rw [if_neg this]
    rcases h i with e | e
    · rw [e] at hS
      exact en.sl i S hS
    · exact absurd e this
  · rcases h i with e | e
    · rw [e] at hS
      exact en.tp i T hS
    · rw [e] at hS; cases hS
  · by_cases e : Γ'[i]? = some .un
    · rw [if_pos e]
    · rw [if_neg e]
      rcases h i with e' | e'
      · exact en.off i fun S z => hS S (e'.trans z)
      · exact absurd e' e
  · by_cases e : Γ'[i]? = some .un
    · rw [if_pos e] at hi; cases hi
    · rw [if_neg e] at hi
      by_cases e2 : Γ'[j]? = some .un
      · rw [if_pos e2] at hj; cases hj
      · rw [if_neg e2] at hj
        exact en.dis i j a hi hj
  · by_cases e : Γ'[i]? = some .un
    · rw [if_pos e] at hi; cases hi
    · rw [if_neg e] at hi
      exact en.nt i a hi
  · have : ¬ Γ'[i]? = some .un := by rw [hS]; intro z; cases z
    rw [if_neg this] at ha
    rcases h i with e | e
    · rw [e] at hS
      exact en.new i a S hS hr ha
    · exact absurd e this
  · rcases h i with e | e
    · rw [e] at hS
      exact en.rd i K' ds hS
    · rw [e] at hS; cases hS
  · rcases h i with e | e
    · rw [e] at hS
      exact en.rb i S hS
    · rw [e] at hS; cases hS
  · obtain ⟨h1, h2, h3⟩ := en.rr r hr
    refine ⟨h1, h2, fun i hi => ?_⟩
    by_cases e : Γ'[i]? = some .un
    · rw [if_pos e] at hi; cases hi
    · rw [if_neg e] at hi
      exact h3 i hi
  · by_cases e : Γ'[i]? = some .un
    · have hi : a ∈ (if Γ'[i]? = some .un then [] else fp i) := hi
      rw [if_pos e] at hi; cases hi
    · have hi : a ∈ (if Γ'[i]? = some .un then [] else fp i) := hi
      rw [if_neg e] at hi
      exact hi
theorem wk_mask (bs : List Bool) (Γ : List Ety) : WkG Γ (wkF bs Γ) := fun B σ H fp en => en.less (wkF_length bs Γ) (wkF_get bs Γ)
theorem WkG.trans {Γ Γ' Γ'' : List Ety} (a : WkG Γ Γ') (b : WkG Γ' Γ'') : WkG Γ Γ'' := fun B σ H fp en => by
  obtain ⟨fp', en', s1⟩ := a B σ H fp en
  obtain ⟨fp'', en'', s2⟩ := b B σ H fp' en'
  exact ⟨fp'', en'', fun i x h => s1 i x (s2 i x h)⟩
variable {C : Cn} [Tbs C.K] {res : F → Oc} {N Bk Ct : Cont F} {Γ Γ' : List Ety} {t u : TS} {m : Wp F} {α β γ S : Type}
theorem Lands.wk (h : Lands N Γ' m) (w : WkG Γ Γ') : Lands N Γ m := fun P X B σ H fp hm en => by
  obtain ⟨fp', en', _⟩ := w B σ H fp en
  exact h P X B σ H fp' hm en'
theorem Lands.is {m' : Wp F} (h : Lands N Γ m) (e : m = m') : Lands N Γ m' := e ▸ h
theorem SimB.is {m' : Wp F} (h : SimB C res N Bk Ct t Γ m) (e : m = m') : SimB C res N Bk Ct t Γ m' := e ▸ h
theorem la_at {Γf : S → List Ety} {k : S → Wp F} (s : S) : Lands (atC Γf k) (Γf s) (k s) := fun P X B σ H fp hm en => ⟨s, fp, hm, en⟩
theorem la_in (h : SimB C res N Bk Ct u Γ m) : Lands (intoC C res N Bk Ct u) Γ m := fun P X B σ H fp hm en => ⟨Γ, m, fp, h, hm, en⟩
theorem sb_seq (h : SimB C res (intoC C res N Bk Ct u) Bk Ct t Γ m) : SimB C res N Bk Ct (tSeq t u) Γ m := fun P X hm B D ex f n b c σ H fp en =>
  h P X hm B { D with nx := u D } ex f (fun σ' H' ⟨Γ', m', fp', hs, hm', en'⟩ => hs P X hm' B D ex f n b c σ' H' fp' en') b c σ H fp en
/-- behind t the rest is written once -/
theorem sb_join {Γf : S → List Ety} {k : S → Wp F} (h : SimB C res (atC Γf k) Bk Ct t Γ m) (hu : ∀ s, SimB C res N Bk Ct u (Γf s) (k s)) : SimB C res N Bk Ct (tSeq t u) Γ m := fun P X hm B D ex f n b c σ H fp en =>
  h P X hm B { D with nx := u D } ex f (fun σ' H' ⟨s, fp', hm', en'⟩ => hu s P X hm' B D ex f n b c σ' H' fp' en') b c σ H fp en
theorem sb_next (h : Lands N Γ m) : SimB C res N Bk Ct tNext Γ m := fun P X hm B D ex f n b c σ H fp en => n σ H (h P X B σ H fp hm en)
theorem sb_ret {te : TE} {w : Wp α} {e : α → PyData} {g : α → F} (h : EvG C Γ te w (fun r => RF C.K (e r))) (hr : ∀ r, res (g r) = .fz (e r)) : SimB C res N Bk Ct (tRet te) Γ (bnd w fun r => ret (g r)) := fun P X hm B D ex f n b c σ H fp en =>
  h _ X hm B σ H fp en ex _ fun r v H' hp s hv => f (g r) v H' hp (en.step s).fr s.ts (by rw [hr]; exact hv)
theorem sb_retS {te : TE} {w : Wp α} {S : α → Sl} {g : α → F} (h : EvG C Γ te w (fun r => RN (S r))) (hr : ∀ r, res (g r) = .nw (S r)) : SimB C res N Bk Ct (tRet te) Γ (bnd w fun r => ret (g r)) := fun P X hm B D ex f n b c σ H fp en =>
  h _ X hm B σ H fp en ex _ fun r v H' hp s ⟨q, ho, hn⟩ => f (g r) v H' hp (en.step s).fr s.ts (by
    rw [hr]
    refine ⟨q, ho, fun a ha => .inl ?_, fun a ha => en.tps.new (hn a ha)⟩
    cases e : B.H a with
    | none => rfl
    | some o =>
      obtain ⟨o', e', _⟩ := en.fr a o e
      rw [hn a ha] at e'; cases e')
theorem sb_if {tc : TT} {w : Wp Bool} {ma mb : Wp F} {ta tb : TS} (hc : EvT C Γ tc w) (ha : SimB C res N Bk Ct ta Γ ma) (hb : SimB C res N Bk Ct tb Γ mb) : SimB C res N Bk Ct (tIfS tc ta tb) Γ (bnd w fun k => sel k ma mb) := fun P X hm B D ex f n b c σ H fp en =>
  hc _ X hm B σ H fp en ex _ fun k H' hp s => by
    cases k with
    | true => exact iteT (ha P X hp B D ex f n b c σ H' fp (en.step s))
    | false => exact iteF (hb P X hp B D ex f n b c σ H' fp (en.step s))
/-- targets -/
theorem sb_asg {te : TE} {g : TG} {vs : List Nat} {w : Wp α} {e : α → PyData} {Γx : α → List Ety} {k : α → Wp F} (h : EvG C Γ te w (fun r => RF C.K (e r))) (hg : ∀ x, TgG C.K Γ g vs (e x) (Γx x)) (hk : ∀ x, Lands N (Γx x) (k x)) :
    SimB C res N Bk Ct (tAsg te g) Γ (bnd w k) := fun P X hm B D ex f n b c σ H fp en =>
  h _ X hm B σ H fp en ex _ fun r v H' hp s hv => (hg r).run B σ H' fp v (en.step s) hv _ fun σ' fp' en' _ _ => n σ' H' (hk r P X B σ' H' fp' hp en')
/-- x = data -/
theorem sb_set {te : TE} {i : Nat} {w : Wp α} {e : α → PyData} {k : α → Wp F} (h : EvG C Γ te w (fun r => RF C.K (e r))) (hi : i < Γ.length) (hk : ∀ x, Lands N (Γ.set i (.sl (fz C.K (e x)))) (k x)) :
    SimB C res N Bk Ct (tAsg te (gName i)) Γ (bnd w k) := sb_asg (vs := [i]) h (fun x => tg_name hi) hk
/-- x = a new thing -/
theorem sb_setN {te : TE} {i : Nat} {w : Wp α} {S : α → Sl} {k : α → Wp F} (h : EvG C Γ te w (fun r => RN (S r))) (hi : i < Γ.length) (hk : ∀ x, Lands N (Γ.set i (.sl (S x))) (k x)) :
    SimB C res N Bk Ct (tAsg te (gName i)) Γ (bnd w k) := fun P X hm B D ex f n b c σ H fp en =>
  h _ X hm B σ H fp en ex _ fun r v H' hp s ⟨q, ho, hf⟩ => n _ H' (hk r P X B _ H' _ hp ((en.step s).putN hi ho en hf))
/-- the list of one name goes to another: the first is forgotten -/
theorem sb_move {i j : Nat} {S : Sl} (h : Γ[j]? = some (.sl S)) (hi : i < Γ.length) (ro : S.ro = false) (hij : i ≠ j) (hk : Lands N ((Γ.set j .un).set i (.sl S)) m) : SimB C res N Bk Ct (tAsg (tVar j) (gName i)) Γ m := fun P X hm B D ex f n b c σ H fp en => by
  obtain ⟨v, hv, ho⟩ := en.sl j S h
  have en1 := en.forget j
  refine ⟨v, hv, n _ H (hk P X B _ H (put (put fp j []) i (fp j)) hm ?_)⟩
  refine en1.put (by rw [List.length_set]; exact hi) ho (fun a ha k hak => ?_) (fun a ha => en.nt j a ha) (fun _ a ha => en.new j a S h ro ha) fun r hr => (en.rr r hr).2.2 j
  by_cases e : k = j
  · subst e
    rw [put_same] at hak; cases hak
  · rw [put_ne e] at hak
    exact absurd (en.dis k j a hak ha) e
/-! ### a list that is one's own -/
theorem En.lst {B : Bs} {σ : List (Option V)} {H : Hp} {fp : Nat → List Addr} {i : Nat} {ds : List PyData} (en : En B Γ σ H fp) (h : Γ[i]? = some (.sl (ls C.K ds))) : ∃ p vs, σ[i]? = some (some (.ref p)) ∧ fp i = [p] ∧ H p = some (.lst vs) ∧ FzAll C.K H vs ds := by
  obtain ⟨v, hv, p, vs, rfl, e2, hp, hz⟩ := en.sl i _ h
  exact ⟨p, vs, hv, e2, hp, hz⟩
/-- its content changes -/
theorem En.relist {B : Bs} {σ : List (Option V)} {H : Hp} {fp : Nat → List Addr} {i : Nat} {ds ds' : List PyData} {p : Addr} {vs vs' : List V} (en : En B Γ σ H fp) (h : Γ[i]? = some (.sl (ls C.K ds))) (hv : σ[i]? = some (some (.ref p))) (hf : fp i = [p]) (hp : H p = some (.lst vs)) (hz : FzAll C.K H vs' ds') :
    En B (Γ.set i (.sl (ls C.K ds'))) σ (upd H p (.lst vs')) fp := by
  refine en.mut h rfl hv (by rw [hf]; exact List.mem_singleton.mpr rfl) (fun q hq => by rw [hf] at hq; exact List.mem_singleton.mp hq) rfl ⟨p, vs', rfl, hf, upd_same, hz.stay fun a o e z => ?_⟩
  have : a ≠ p := by
    rintro rfl
    rw [hp] at e; cases e; cases z
  rw [upd_ne this]
  exact e
theorem sb_append {i : Nat} {te : TE} {e : α → PyData} {xs : List α} {w : Wp α} {k : List α → Wp F} (h : Γ[i]? = some (.sl (ls C.K (xs.map e)))) (he : EvG C Γ te w (fun r => RF C.K (e r))) (hk : ∀ x, Lands N (Γ.set i (.sl (ls C.K ((xs ++ [x]).map e)))) (k (xs ++ [x]))) :
    SimB C res N Bk Ct (tDrop (tBM C.K "list" rAppend (tVar i) (tCons te tNil))) Γ (bnd w fun x => grd (xs.length < 16777216) (k (xs ++ [x]))) := fun P X hm B D ex f n b c σ H fp en => by
  obtain ⟨p, vs, hv, hf, hp, hz⟩ := en.lst h
  refine ⟨_, hv, .inl ⟨rfl, vs, .inl (.inl hp)⟩, he _ X hm B σ H fp en ex _ fun x v H' hpx s hx => ?_⟩
  have en' := en.step s
  obtain ⟨p', vs', hv', hf', hp', hz'⟩ := en'.lst h
  rw [hv] at hv'
  cases hv'
  have hl := hz'.length
  rw [List.length_map] at hl
  refine ⟨p, vs', v, rfl, rfl, hp', by rw [hl]; exact lc_list_room _ hpx.1, n _ _ (hk x P X B σ _ fp hpx.2 (en'.relist h hv hf hp' ?_))⟩
  rw [List.map_append]
  exact hz'.append (.one hx)
/-! ### loops -/
/-- a further fixed heap -/
structure Reb (B B' : Bs) (H1 : Hp) : Prop where
  h : B'.H = H1
  t : B'.T = B.T
  r : B'.R = B.R
  o : ∀ a ∈ B'.O, B.H a = none ∨ a ∈ B.O
  f : Frame B H1
theorem Reb.off {B B' : Bs} {H1 : Hp} (r : Reb B B' H1) {a : Addr} : B'.off a ↔ B.off a := by
  unfold Bs.off
  rw [r.t]
theorem Reb.none {B B' : Bs} {H1 : Hp} (r : Reb B B' H1) {a : Addr} (h : B'.H a = none ∨ a ∈ B'.O) : B.H a = none ∨ a ∈ B.O := by
  rcases h with h | h
  · rw [r.h] at h
    left
    cases e : B.H a with
    | none => rfl
    | some o =>
      obtain ⟨o', e', _⟩ := r.f a o e
      rw [h] at e'; cases e'
  · exact r.o a h
theorem Reb.frame {B B' : Bs} {H1 H : Hp} (r : Reb B B' H1) (f : Frame B' H) : Frame B H := fun a o e => by
  obtain ⟨o1, e1, k1, k2⟩ := r.f a o e
  obtain ⟨o2, e2, k3, k4⟩ := f a o1 (by rw [r.h]; exact e1)
  refine ⟨o2, e2, fun n1 n2 => ?_, fun z => ?_⟩
  · rw [← k1 n1 n2]
    refine k3 (fun z => ?_) (r.off.mpr n2)
    rcases r.o a z with q | q
    · rw [e] at q; cases q
    · exact n1 q
  · have e5 := k2 z
    subst e5
    exact k4 z
theorem Reb.ts {B B' : Bs} {H1 H : Hp} (r : Reb B B' H1) (f : TpSt B' H) : TpSt B H := fun t ht => f t (by rw [r.t]; exact ht)
theorem Reb.en {B B' : Bs} {H1 H : Hp} {σ : List (Option V)} {fp : Nat → List Addr} (r : Reb B B' H1) (en : En B' Γ σ H fp) : En B Γ σ H fp where
  len := en.len
  sl := en.sl
  tp := fun i S hi => by
    obtain ⟨v, fq, ht, hv⟩ := en.tp i S hi
    exact ⟨v, fq, by rw [← r.t]; exact ht, hv⟩
  off := en.off
  dis := en.dis
  nt := fun i a ha => r.off.mp (en.nt i a ha)
  new := fun i a S hS hr ha => r.none (en.new i a S hS hr ha)
  rd := fun i K' ds hi => by
    have z := en.rd i K' ds hi
    rw [r.r] at z
    exact z
  rb := fun i S hi => by
    have z := en.rb i S hi
    rw [r.r] at z
    exact z
  rr := fun x hx => by
    obtain ⟨h1, h2, h3⟩ := en.rr x (by rw [r.r]; exact hx)
    exact ⟨h1, r.off.mp h2, h3⟩
  fr := r.frame en.fr
  tps := r.ts en.tps
theorem Reb.exok {B B' : Bs} {H1 : Hp} {X : Xn → Prop} (r : Reb B B' H1) (ex : Exok C B X) : Exok C B' X := ⟨by rw [r.t]; exact ex.tb, fun x v d H' hx hf ht hi => ex.ok x v d H' hx (r.frame hf) (r.ts ht) hi⟩
theorem Reb.fin {B B' : Bs} {H1 : Hp} {D : Ends} {P : F → Prop} (r : Reb B B' H1) (f : Fin C B D res P) : Fin C B' D res P := fun out v H' hp hf ht ho => f out v H' hp (r.frame hf) (r.ts ht) (by
  cases e : res out with
  | fz d =>
    rw [e] at ho
    exact ho
  | nw S =>
    rw [e] at ho
    obtain ⟨q, h1, h2, h3⟩ := ho
    exact ⟨q, h1, fun a ha => r.none (h2 a ha), fun a ha => r.off.mp (h3 a ha)⟩)
/-- the objects that the names own and may change -/
def roB (Γ : List Ety) (i : Nat) : Bool := match Γ[i]? with
  | some (.sl S) => S.ro
  | _ => false
def owned (Γ : List Ety) (fp : Nat → List Addr) : List Addr := ((List.range Γ.length).filter fun i => !roB Γ i).flatMap fp
theorem roB_sl {i : Nat} {S : Sl} (h : Γ[i]? = some (.sl S)) : roB Γ i = S.ro := by unfold roB; rw [h]
theorem mem_owned {fp : Nat → List Addr} {a : Addr} : a ∈ owned Γ fp ↔ ∃ i, i < Γ.length ∧ roB Γ i = false ∧ a ∈ fp i := by
  unfold owned
  rw [List.mem_flatMap]
  constructor
  · rintro ⟨i, hi, ha⟩
    obtain ⟨h1, h2⟩ := List.mem_filter.mp hi
    exact ⟨i, List.mem_range.mp h1, by simpa using h2, ha⟩
  · rintro ⟨i, h1, h2, h3⟩
    exact ⟨i, List.mem_filter.mpr ⟨List.mem_range.mpr h1, by simpa using h2⟩, h3⟩
theorem En.rebase {B : Bs} {σ : List (Option V)} {H : Hp} {fp : Nat → List Addr} (en : En B Γ σ H fp) : Reb B ⟨H, owned Γ fp, B.T, B.R⟩ H ∧ En ⟨H, owned Γ fp, B.T, B.R⟩ Γ σ H fp := by
  refine ⟨⟨rfl, rfl, rfl, fun a ha => ?_, en.fr⟩, ⟨en.len, en.sl, en.tp, en.off, en.dis, en.nt, fun i a S hS hr ha => .inr ?_, en.rd, en.rb, en.rr, fun a o e => ⟨o, e, fun _ _ => rfl, fun _ => rfl⟩, en.tps⟩⟩
  · obtain ⟨i, hi, hr, ha⟩ := mem_owned.mp ha
    obtain ⟨S, hS⟩ := en.lt ha
    exact en.new i a S hS (by rw [← roB_sl hS]; exact hr) ha
  · exact mem_owned.mpr ⟨i, (List.getElem?_eq_some_iff.mp hS).1, by rw [roB_sl hS]; exact hr, ha⟩
def forK (body : α → S → (S → Wp F) → (S → Wp F) → Wp F) (exit : S → Wp F) : List α → S → Wp F
  | [], s => exit s
  | x :: xs, s => body x s (fun s' => forK body exit xs s') exit
/-- a loop's turns -/
theorem for_core {g : TG} {tb : TS} {vs : List Nat} {e : α → PyData} {Γh : S → List Ety} {Γb : α → S → List Ety} {body : α → S → (S → Wp F) → (S → Wp F) → Wp F} {exit : S → Wp F} {xs : List α} {s0 : S} {J : It} {sup : List Addr} {B B' : Bs} {H1 : Hp} {σ : List (Option V)}
    {fp1 : Nat → List Addr} {P : F → Prop} {X : Xn → Prop} {D : Ends} (ok : ItOk C.K B J H1 (xs.map e) sup) (reb : Reb B B' H1) (nsup : ∀ a ∈ sup, a ∉ B'.O) (hp : forK body exit xs s0 P X) (en2 : En B' (Γh s0) σ H1 fp1) (ex : Exok C B X) (f : Fin C B D res P)
    (hg : ∀ x s, TgG C.K (Γh s) g vs (e x) (Γb x s)) (hb : ∀ x s kc, SimB C res (atC Γh kc) (atC Γh exit) (atC Γh kc) tb (Γb x s) (body x s kc exit)) (out : ∀ s σ H fp, exit s P X → En B' (Γh s) σ H fp → D.nx σ H) :
    ∃ W : Nat → Nat → L2.St → Hp → Prop, (∃ m, W 0 m σ H1) ∧ ∀ i m σ H, W i m σ H → (J.stop i H ∧ D.nx σ H) ∨ (J.go i H ∧ ∃ N : L2.St → Hp → Prop, (∀ σ' H', N σ' H' → ∃ m', m' < m ∧ W (i + 1) m' σ' H') ∧ ∀ x H', J.yld i H x H' → g x σ H' fun σ2 H2 => tb { D with nx := N, ct := N, bk := D.nx } σ2 H2) := by
  have hB'H : B'.H = H1 := reb.h
  have stand : ∀ H2, Frame B' H2 → ∀ a o, H1 a = some o → (a ∈ sup ∨ still o = true) → H2 a = some o := fun H2 fr a o ea z => by
    obtain ⟨o', e', k1, k2⟩ := fr a o (by rw [hB'H]; exact ea)
    rcases z with z | z
    · rw [k1 (nsup a z) (reb.off.mpr (ok.sp a z).1)] at e'
      exact e'
    · rw [k2 z] at e'
      exact e'
  refine ⟨fun i m' σ2 H2 => m' = xs.length - i ∧ i ≤ xs.length ∧ ∃ s fp2, forK body exit (xs.drop i) s P X ∧ En B' (Γh s) σ2 H2 fp2, ⟨xs.length, by omega, Nat.zero_le _, s0, fp1, hp, en2⟩, ?_⟩
  rintro i m' σ2 H2 ⟨rfl, hi', s, fp2, hk, en3⟩
  by_cases hlt : i < xs.length
  · obtain ⟨go, yld⟩ := ok.go i H2 (stand H2 en3.fr) (by rw [List.length_map]; exact hlt)
    refine .inr ⟨go, fun σ' H' => ∃ m', m' < xs.length - i ∧ (m' = xs.length - (i + 1) ∧ i + 1 ≤ xs.length ∧ ∃ s fp2, forK body exit (xs.drop (i + 1)) s P X ∧ En B' (Γh s) σ' H' fp2), fun σ' H' h => h, fun x H3 hy => ?_⟩
    obtain ⟨kp3, d, hd, hx3⟩ := yld x H3 hy
    have ed : d = e xs[i] := by
      rw [List.getElem?_map, List.getElem?_eq_getElem hlt] at hd
      exact (Option.some.inj hd).symm
    subst ed
    have s3 : Stp B' H2 H3 := .same en3.tps kp3
    have hdrop : xs.drop i = xs[i] :: xs.drop (i + 1) := List.drop_eq_getElem_cons hlt
    rw [hdrop] at hk
    refine (hg xs[i] s).run B' σ2 H3 fp2 x (en3.step s3) hx3 _ fun σ4 fp4 en4 _ _ => ?_
    have again : ∀ σ' H', atC Γh (fun s' => forK body exit (xs.drop (i + 1)) s') P X B' σ' H' → ∃ m', m' < xs.length - i ∧ (m' = xs.length - (i + 1) ∧ i + 1 ≤ xs.length ∧ ∃ s fp2, forK body exit (xs.drop (i + 1)) s P X ∧ En B' (Γh s) σ' H' fp2) := fun σ' H' ⟨s', fp', hk', en'⟩ =>
      ⟨xs.length - (i + 1), by omega, rfl, hlt, s', fp', hk', en'⟩
    exact hb xs[i] s _ P X hk B' { D with nx := _, ct := _, bk := D.nx } (reb.exok ex) (reb.fin f) again (fun σ' H' ⟨s', fp', hk', en'⟩ => out s' σ' H' fp' hk' en') again σ4 H3 fp4 en4
  · have ei : i = xs.length := by omega
    subst ei
    rw [List.drop_length] at hk
    exact .inl ⟨ok.stop _ H2 (stand H2 en3.fr) (by rw [List.length_map]; exact Nat.le_refl _), out s σ2 H2 fp2 hk en3⟩
theorem sb_for {wi : TI} {g : TG} {tb : TS} {vs : List Nat} {w : Wp (List α)} {e : α → PyData} {own : Nat → Bool} {Γh : S → List Ety} {Γb : α → S → List Ety} {body : α → S → (S → Wp F) → (S → Wp F) → Wp F} {exit : S → Wp F} (s0 : S)
    (hi : ItG C Γ wi w (fun r => r.map e) own) (hown : ∀ i, own i = true → roB (Γh s0) i = true) (hw0 : WkG Γ (Γh s0))
    (hg : ∀ x s, TgG C.K (Γh s) g vs (e x) (Γb x s)) (hb : ∀ x s kc, SimB C res (atC Γh kc) (atC Γh exit) (atC Γh kc) tb (Γb x s) (body x s kc exit)) (hx : ∀ s, Lands N (Γh s) (exit s)) :
    SimB C res N Bk Ct (tFor wi g tb) Γ (bnd w fun xs => forK body exit xs s0) := fun P X hm B D ex f n b c σ H fp en => by
  refine hi _ X hm B σ H fp en ex _ fun xs J H1 sup hp s1 ok hsup => ?_
  have en1 := en.step s1
  obtain ⟨fp1, enh, sub⟩ := hw0 B σ H1 fp en1
  obtain ⟨reb, en2⟩ := enh.rebase
  refine for_core ok reb (fun a ha hO => ?_) hp en2 ex f hg hb fun s σ' H' fp' he en' => n σ' H' (hx s P X B σ' H' fp' he (reb.en en'))
  obtain ⟨j, _, hr, hj⟩ := mem_owned.mp hO
  have hj' := sub j a hj
  rcases hsup a ha with z | ⟨i, hoi, hai⟩ | ⟨r, hr, rfl⟩
  · obtain ⟨T, hT⟩ := en.lt hj'
    obtain ⟨v, _, ho⟩ := en.sl j T hT
    obtain ⟨o, eo, _⟩ := T.dom ho hj'
    rw [z] at eo; cases eo
  · have e := en.dis j i a hj' hai
    subst e
    rw [hown j hoi] at hr; cases hr
  · exact (en.rr r hr).2.2 j hj'
/-- a list while it is walked -/
def lkOwn (K : PySem.W.Frag) (p : Addr) (vs : List V) (ds : List PyData) (H : Hp) (v : V) (fp : List Addr) : Prop := v = .ref p ∧ fp = [p] ∧ H p = some (.lst vs) ∧ FzAll K H vs ds
def lk (K : PySem.W.Frag) (p : Addr) (vs : List V) (ds : List PyData) : Sl where
  own := lkOwn K p vs ds
  ro := true
  dom := fun h ha => by
    obtain ⟨_, e, hp, _⟩ := h
    rw [e] at ha
    rw [List.mem_singleton.mp ha]
    exact ⟨_, hp, rfl⟩
  keep := fun h k => by
    obtain ⟨e1, e2, hp, hz⟩ := h
    exact ⟨e1, e2, k p _ hp (.inl (by rw [e2]; exact List.mem_singleton.mpr rfl)), hz.stay fun a o e z => k a o e (.inr z)⟩
def whileK (c : S → Wp Bool) (body : S → (S → Wp F) → (S → Wp F) → Wp F) (exit : S → Wp F) : Nat → S → Wp F
  | 0, _ => cut
  | n + 1, s => bnd (c s) fun b => sel b (body s (fun s' => whileK c body exit n s') exit) (exit s)
def whileW (c : S → Wp Bool) (body : S → (S → Wp F) → (S → Wp F) → Wp F) (exit : S → Wp F) (s : S) : Wp F := fun P X => ∃ n, whileK c body exit n s P X
theorem sb_while {tc : TT} {tb : TS} {Γh : S → List Ety} {c : S → Wp Bool} {body : S → (S → Wp F) → (S → Wp F) → Wp F} {exit : S → Wp F} (s0 : S) (hw0 : WkG Γ (Γh s0)) (hc : ∀ s, EvT C (Γh s) tc (c s))
    (hb : ∀ s kc, SimB C res (atC Γh kc) (atC Γh exit) (atC Γh kc) tb (Γh s) (body s kc exit)) (hx : ∀ s, Lands N (Γh s) (exit s)) : SimB C res N Bk Ct (tWhile tc tb) Γ (whileW c body exit s0) := fun P X ⟨k, hm⟩ B D ex f n b ct σ H fp en => by
  obtain ⟨fp0, en0, _⟩ := hw0 B σ H fp en
  refine ⟨fun m σ' H' => ∃ s fp', whileK c body exit m s P X ∧ En B (Γh s) σ' H' fp', ⟨k, s0, fp0, hm, en0⟩, ?_⟩
  rintro m σ1 H1 ⟨s, fp1, hk, en1⟩
  cases m with
  | zero => exact hk.elim
  | succ m =>
    refine hc s _ X hk B σ1 H1 fp1 en1 ex _ fun q H2 hq s2 => ?_
    have en2 := en1.step s2
    cases q with
    | true =>
      refine iteT ?_
      refine ⟨fun σ' H' => ∃ s fp', whileK c body exit m s P X ∧ En B (Γh s) σ' H' fp', fun σ' H' h => ⟨m, Nat.lt_succ_self m, h⟩, ?_⟩
      exact hb s _ P X hq B { D with nx := _, ct := _, bk := D.nx } ex f (fun σ' H' ⟨s', fp', h1, h2⟩ => ⟨s', fp', h1, h2⟩) (fun σ' H' ⟨s', fp', h1, h2⟩ => n σ' H' (hx s' P X B σ' H' fp' h1 h2)) (fun σ' H' ⟨s', fp', h1, h2⟩ => ⟨s', fp', h1, h2⟩) σ1 H2 fp1 en2
    | false => exact iteF (n σ1 H2 (hx s P X B σ1 H2 fp1 hq en2))
end
end WL
/-! WL, part 5: defs and calls. -/
namespace WL
open PySem PySem.Spec PyProof.Rows L2
/-- a def's argument: data, a list that is read, the tape -/
inductive Ag where
  | d (x : PyData)
  | l (xs : List PyData)
  | t (S : Sl)
  /-- a thing of the caller's, read -/
  | b (S : Sl)
  /-- a thing that goes over to the def -/
  | o (S : Sl)
def Ag.ety (K : PySem.W.Frag) : Ag → Ety
  | .d x => .sl (fz K x)
  | .l xs => .rd K xs
  | .t S => .tp S
  | .b S => .rb S
  | .o S => .sl S
def Ag.rk (K : PySem.W.Frag) : Ag → Rk
  | .d x => RF K x
  | .l xs => RL K xs
  | .t S => RT S
  | .b S => RB S
  | .o _ => fun _ _ _ _ => False
/-- the promise of a def that raises nothing -/
def spN (K : PySem.W.Frag) [Tbs K] {ι F : Type} (ag : ι → List Ag) (f : ι → Wp F) (res : F → Oc) : Sp := fun vs H Q _ => ∃ (x : ι) (P : F → Prop) (T : Option (Sl × V × List Addr)) (R : List (Addr × HO)) (fp : Nat → List Addr),
  (f x P (fun _ => False) ∧ tbOf K T) ∧ En ⟨H, [], T, R⟩ ((ag x).map (Ag.ety K)) (vs.map some) H fp ∧ ∀ out v H', P out → Frame ⟨H, [], T, R⟩ H' → TpSt ⟨H, [], T, R⟩ H' → OcOk K ⟨H, [], T, R⟩ H' (res out) v → Q v H'
/-- the promise of a def that may raise -/
def spX (K : PySem.W.Frag) [Tbs K] (ct : Nat → Value × Str) {ι F : Type} (ag : ι → List Ag) (f : ι → Wp F) (res : F → Oc) : Sp := fun vs H Q E => ∃ (x : ι) (P : F → Prop) (X : Xn → Prop) (T : Option (Sl × V × List Addr)) (R : List (Addr × HO)) (fp : Nat → List Addr),
  f x P X ∧ En ⟨H, [], T, R⟩ ((ag x).map (Ag.ety K)) (vs.map some) H fp ∧ (∀ out v H', P out → Frame ⟨H, [], T, R⟩ H' → TpSt ⟨H, [], T, R⟩ H' → OcOk K ⟨H, [], T, R⟩ H' (res out) v → Q v H') ∧ Exok ⟨K, E, ct⟩ ⟨H, [], T, R⟩ X
section
variable {K : PySem.W.Frag} [Tbs K] {C : Cn} [Tbs C.K] {Γ : List Ety} {α β γ ι F : Type}
theorem En.slots {B : Bs} {σ : List (Option V)} {H : Hp} {fp : Nat → List Addr} (en : En B Γ σ H fp) (n : Nat) : En B (Γ ++ List.replicate n .un) (σ ++ List.replicate n none) H fp := by
  have get : ∀ (i : Nat) (e : Ety), (Γ ++ List.replicate n .un)[i]? = some e → e ≠ .un → Γ[i]? = some e := fun i e h ne => by
    by_cases hi : i < Γ.length
    · rwa [List.getElem?_append_left hi] at h
    · rw [List.getElem?_append_right (by omega), List.getElem?_replicate] at h
      split at h
      · cases h; exact absurd rfl ne
      · cases h
  have put : ∀ (i : Nat) (v : Option V), σ[i]? = some v → (σ ++ List.replicate n none)[i]? = some v := fun i v h => by
    rw [List.getElem?_append_left (List.getElem?_eq_some_iff.mp h).1]
    exact h
  refine ⟨by rw [List.length_append, List.length_append, en.len, List.length_replicate, List.length_replicate], fun i S h => ?_, fun i S h => ?_, fun i h => ?_, en.dis, en.nt, fun i a S h => ?_, fun i K' ds h => ?_, fun i S h => ?_, en.rr, en.fr, en.tps⟩
  · obtain ⟨v, hv, ho⟩ := en.sl i S (get i _ h nofun)
    exact ⟨v, put i _ hv, ho⟩
  · obtain ⟨v, fq, ht, hv⟩ := en.tp i S (get i _ h nofun)
    exact ⟨v, fq, ht, put i _ hv⟩
  · refine en.off i fun S hS => h S ?_
    rw [List.getElem?_append_left (List.getElem?_eq_some_iff.mp hS).1]
    exact hS
  · exact en.new i a S (get i _ h nofun)
  · obtain ⟨r, us, h1, h2, h3⟩ := en.rd i K' ds (get i _ h nofun)
    exact ⟨r, us, h1, put i _ h2, h3⟩
  · obtain ⟨v, fq, h1, h2, h3⟩ := en.rb i S (get i _ h nofun)
    exact ⟨v, fq, put i _ h1, h2, h3⟩
/-- behind the body: None -/
def endC (res : F → Oc) : Cont F := fun P X B σ H => ∃ out, P out ∧ res out = .fz .none ∧ Frame B H ∧ TpSt B H
variable {P : Program} {w : World} {mg : Str → Option Value} {base : Heap}
theorem start_eq {N : List Str} {vs : List V} : start N vs = vs.map some ++ List.replicate (N.length - vs.length) none := rfl
theorem run_body {res : F → Oc} {t : TS} {f : Wp F} {Pq : F → Prop} {Xq : Xn → Prop} {T : Option (Sl × V × List Addr)} {R : List (Addr × HO)} {H : Hp} {vs : List V} {N : List Str} {fp : Nat → List Addr} {Q : VK} {ags : List Ag} (hs : SimB C res (endC res) noC noC t (ags.map (Ag.ety C.K) ++ List.replicate (N.length - vs.length) .un) f)
    (hf : f Pq Xq) (en : En ⟨H, [], T, R⟩ (ags.map (Ag.ety C.K)) (vs.map some) H fp) (ex : Exok C ⟨H, [], T, R⟩ Xq) (fin : ∀ out v H', Pq out → Frame ⟨H, [], T, R⟩ H' → TpSt ⟨H, [], T, R⟩ H' → OcOk C.K ⟨H, [], T, R⟩ H' (res out) v → Q v H') :
    t { nx := fun _ H' => Q .non H', rt := Q } (start N vs) H := by
  refine hs Pq Xq hf ⟨H, [], T, R⟩ { nx := fun _ H' => Q .non H', rt := Q } ex fin (fun σ H' h => ?_) (fun σ H' h => h.elim) (fun σ H' h => h.elim) _ _ fp ?_
  · obtain ⟨out, hp, hr, h1, h2⟩ := h
    refine fin out .non H' hp h1 h2 ?_
    rw [hr]
    exact .non
  · rw [start_eq]
    exact en.slots _
/-- a def that raises nothing -/
theorem fn_n {x qual : Str} {st : Stmt} {f : Addr} {fd : FuncData} {N ps : List Str} {k : Nat} {ag : ι → List Ag} {fm : ι → Wp F} {res : F → Oc} (Fu : Fun K x qual st f fd) (S : FnScope N ps (defScope st)) (hlen : ∀ x, (ag x).length = ps.length)
    (hb : ∀ (cdv : Value) (A : Around) (outer : List PySem.Env) (s : Shared) (H : Hp) (E : XK), Room k (A.deeper (envOfC qual (defScope st) s.heap.objs.size f cdv)) →
      ∃ t, PSs (cxOf CX0 P w K mg base N qual (defScope st) f cdv A outer s H E).nox (defBody st) t ∧ ∀ x, SimB ⟨K, E0, fun _ => (.none, "")⟩ res (endC res) noC noC t ((ag x).map (Ag.ety K) ++ List.replicate (N.length - ps.length) .un) (fm x)) :
    FnOk P w K mg base CX0 (k + 1) f fd ps (spN K ag fm res) := by
  refine Fu.ok S (fun vs H Q E h => ?_) (fun cdv A outer s H vs Q E hr h => ?_)
  · obtain ⟨x, P, T, R, fp, _, en, _⟩ := h
    have := en.len
    rw [List.length_map, List.length_map] at this
    rw [this, hlen]
  · obtain ⟨t, ht, hs⟩ := hb cdv A outer s H E hr
    refine ⟨t, ht, ?_⟩
    obtain ⟨x, P, T, R, fp, hf, en, fin⟩ := h
    have hl := en.len
    rw [List.length_map, List.length_map] at hl
    have hs' := hs x
    rw [← hlen x, ← hl] at hs'
    exact run_body (C := ⟨K, E0, fun _ => (.none, "")⟩) hs' hf.1 en (exok_no hf.2) fin
/-! ### calls -/
def ArgAt (K : PySem.W.Frag) (B : Bs) (R : List (Addr × HO)) (H : Hp) (v : V) : Ag → Prop
  | .d x => Fz K H v x
  | .l xs => ∃ (p : Addr) (vs : List V), ((p, HO.lst vs) ∈ R ∨ ∀ H', SqL K H' p vs) ∧ v = .ref p ∧ FzAll K H vs xs
  | .t S => ∃ fq, B.T = some (S, v, fq)
  | .b S => ∃ fq, S.own H v fq ∧ ∀ a ∈ fq, ∃ o, (a, o) ∈ R
  | .o _ => False
theorem ArgAt.more {B : Bs} {R : List (Addr × HO)} {H : Hp} {v : V} {a : Ag} (x : List (Addr × HO)) (h : ArgAt K B R H v a) : ArgAt K B (x ++ R) H v a := by
  cases a with
  | d y => exact h
  | l ys =>
    obtain ⟨r, us, h1, h2⟩ := h
    exact ⟨r, us, h1.imp (fun h => List.mem_append_right _ h) fun h => h, h2⟩
  | t S => exact h
  | o S => exact h
  | b S =>
    obtain ⟨fq, h1, h2⟩ := h
    exact ⟨fq, h1, fun a ha => (h2 a ha).imp fun o ho => List.mem_append_right _ ho⟩
theorem args_R {B : Bs} {H0 H : Hp} : ∀ {vs : List V} {as : List Ag}, RAll B H0 H vs (as.map (Ag.rk K)) → ∃ R : List (Addr × HO), (∀ r ∈ R, Rd H r.1 r.2 ∧ B.off r.1) ∧ vs.length = as.length ∧ ∀ (i : Nat) (a : Ag), as[i]? = some a → ∃ v, vs[i]? = some v ∧ ArgAt K B R H v a
  | vs, [], h => by
    cases h
    exact ⟨[], fun r h => absurd h (by simp), rfl, fun i a h => by simp at h⟩
  | vs, a :: as, h => by
    cases h with
    | cons h1 h2 =>
      obtain ⟨R, hR, hl, hA⟩ := args_R h2
      cases a with
      | d x =>
        refine ⟨R, hR, by rw [List.length_cons, List.length_cons, hl], fun i a hi => ?_⟩
        cases i with
        | zero => cases hi; exact ⟨_, rfl, h1⟩
        | succ i => exact hA i a hi
      | t S =>
        refine ⟨R, hR, by rw [List.length_cons, List.length_cons, hl], fun i a hi => ?_⟩
        cases i with
        | zero => cases hi; exact ⟨_, rfl, h1⟩
        | succ i => exact hA i a hi
      | o S => exact h1.elim
      | b S =>
        obtain ⟨fq, ho, hf⟩ := h1
        refine ⟨fq.map (fun a => (a, (H a).getD (.tup []))) ++ R, fun r hr => ?_, by rw [List.length_cons, List.length_cons, hl], fun i a hi => ?_⟩
        · rcases List.mem_append.mp hr with hr | hr
          · obtain ⟨a, ha, rfl⟩ := List.mem_map.mp hr
            obtain ⟨o, e, _⟩ := S.dom ho ha
            refine ⟨.inl ?_, hf a ha⟩
            show H a = some ((H a).getD (.tup []))
            rw [e]
            rfl
          · exact hR r hr
        · cases i with
          | zero => cases hi; exact ⟨_, rfl, fq, ho, fun a ha => ⟨_, List.mem_append_left _ (List.mem_map.mpr ⟨a, ha, rfl⟩)⟩⟩
          | succ i =>
            obtain ⟨v, h3, h4⟩ := hA i a hi
            exact ⟨v, h3, h4.more _⟩
      | l xs =>
        obtain ⟨p, ws, e, hs, hz⟩ := h1
        rcases hs with ⟨hs, ho⟩ | hs
        · refine ⟨[(p, HO.lst ws)] ++ R, fun r hr => ?_, by rw [List.length_cons, List.length_cons, hl], fun i a hi => ?_⟩
          · rcases List.mem_cons.mp (show r ∈ (p, HO.lst ws) :: R from hr) with rfl | hr
            · exact ⟨hs, ho⟩
            · exact hR r hr
          · cases i with
            | zero => cases hi; exact ⟨_, rfl, p, ws, .inl List.mem_cons_self, e, hz⟩
            | succ i =>
              obtain ⟨v, h3, h4⟩ := hA i a hi
              exact ⟨v, h3, h4.more _⟩
        · refine ⟨R, hR, by rw [List.length_cons, List.length_cons, hl], fun i a hi => ?_⟩
          cases i with
          | zero => cases hi; exact ⟨_, rfl, p, ws, .inr hs, e, hz⟩
          | succ i => exact hA i a hi
theorem args_en {B : Bs} {H0 H : Hp} {vs : List V} {as : List Ag} (ts : TpSt B H) (h : RAll B H0 H vs (as.map (Ag.rk K))) : ∃ R, En ⟨H, [], B.T, R⟩ (as.map (Ag.ety K)) (vs.map some) H (fun _ => []) := by
  obtain ⟨R, hR, hl, hA⟩ := args_R h
  have at' : ∀ (i : Nat) (e : Ety), (as.map (Ag.ety K))[i]? = some e → ∃ a v, as[i]? = some a ∧ e = a.ety K ∧ (vs.map some)[i]? = some (some v) ∧ ArgAt K B R H v a := fun i e hi => by
    rw [List.getElem?_map] at hi
    cases q : as[i]? with
    | none => rw [q] at hi; cases hi
    | some a =>
      rw [q] at hi
      cases hi
      obtain ⟨v, h1, h2⟩ := hA i a q
      exact ⟨a, v, rfl, rfl, by rw [List.getElem?_map, h1]; rfl, h2⟩
  refine ⟨R, by rw [List.length_map, List.length_map, hl], fun i S hi => ?_, fun i S hi => ?_, fun i _ => rfl, fun i j a h => absurd h (by simp), fun i a h => absurd h (by simp), fun i a S _ _ h => absurd h (by simp), fun i K' ds hi => ?_, fun i S hi => ?_, fun r hr => ⟨(hR r hr).1, (hR r hr).2, fun i => by simp⟩, fun a o e => ⟨o, e, fun _ _ => rfl, fun _ => rfl⟩, ts⟩
  · obtain ⟨a, v, h1, h2, h3, h4⟩ := at' i _ hi
    cases a with
    | o x => exact h4.elim
    | d x =>
      cases h2
      exact ⟨v, h3, rfl, h4⟩
    | l x => cases h2
    | t _ => cases h2
    | b _ => cases h2
  · obtain ⟨a, v, h1, h2, h3, h4⟩ := at' i _ hi
    cases a with
    | o x => exact h4.elim
    | d x => cases h2
    | l x => cases h2
    | b _ => cases h2
    | t S' =>
      cases h2
      obtain ⟨fq, ht⟩ := h4
      exact ⟨v, fq, ht, h3⟩
  · obtain ⟨a, v, h1, h2, h3, h4⟩ := at' i _ hi
    cases a with
    | o x => exact h4.elim
    | d x => cases h2
    | t _ => cases h2
    | b _ => cases h2
    | l x =>
      cases h2
      obtain ⟨r, us, h5, h6, h7⟩ := h4
      exact ⟨r, us, h5, by rw [h3, h6], h7⟩
  · obtain ⟨a, v, h1, h2, h3, h4⟩ := at' i _ hi
    cases a with
    | o x => exact h4.elim
    | d x => cases h2
    | l x => cases h2
    | t _ => cases h2
    | b S' =>
      cases h2
      obtain ⟨fq, h5, h6⟩ := h4
      exact ⟨v, fq, h3, h5, h6⟩
theorem after_call {B : Bs} {H H' : Hp} {R : List (Addr × HO)} (f : Frame ⟨H, [], B.T, R⟩ H') (t : TpSt ⟨H, [], B.T, R⟩ H') : Stp B H H' := ⟨fun a o e n => by
  obtain ⟨o', e', k, _⟩ := f a o e
  rw [k (by simp) n] at e'
  exact e', t⟩
/-- a call of a def that raises nothing; what it gives is data -/
theorem ev_call {ta : TA} {wa : Wp ι} {ag : ι → List Ag} {f : ι → Wp F} {res : F → Oc} {e : F → PyData} {E : XK} (ha : EvA C Γ ta wa (fun x => (ag x).map (Ag.rk C.K))) (hr : ∀ o, res o = .fz (e o)) :
    EvG C Γ (tCall (spN C.K ag f res) [] E ta) (bnd wa fun x => noX (f x)) (fun r => RF C.K (e r)) := fun P X hw B σ H fp en ex Q q => by
  refine ha _ X hw B σ H fp en ex _ fun x vs H1 h1 s1 r1 => ?_
  obtain ⟨R, en'⟩ := args_en s1.ts r1
  rw [List.append_nil]
  refine ⟨x, P, B.T, R, _, ⟨h1, ex.tb⟩, en', fun out v H' hp hf ht ho => ?_⟩
  rw [hr] at ho
  exact q out v H' hp (s1.trans (after_call hf ht)) ho
/-- .. a new thing -/
theorem ev_callN {ta : TA} {wa : Wp ι} {ag : ι → List Ag} {f : ι → Wp F} {res : F → Oc} {S : F → Sl} {E : XK} (ha : EvA C Γ ta wa (fun x => (ag x).map (Ag.rk C.K))) (hr : ∀ o, res o = .nw (S o)) :
    EvG C Γ (tCall (spN C.K ag f res) [] E ta) (bnd wa fun x => noX (f x)) (fun r => RN (S r)) := fun P X hw B σ H fp en ex Q q => by
  refine ha _ X hw B σ H fp en ex _ fun x vs H1 h1 s1 r1 => ?_
  obtain ⟨R, en'⟩ := args_en s1.ts r1
  rw [List.append_nil]
  refine ⟨x, P, B.T, R, _, ⟨h1, ex.tb⟩, en', fun out v H' hp hf ht ho => ?_⟩
  rw [hr] at ho
  obtain ⟨fq, h2, h3, _⟩ := ho
  refine q out v H' hp (s1.trans (after_call hf ht)) ⟨fq, h2, fun a ha => ?_⟩
  rcases h3 a ha with z | z
  · exact s1.back en.tps z
  · cases z
/-! ### built-ins -/
theorem c_int (n : Int) : CaG C (fun xs H Q => (∃ i, xs = [.int i] ∧ Q (.int i) H) ∨ ∃ k, xs = [.bl k] ∧ Q (.int (if k then 1 else 0)) H) [RF C.K (eI n)] (ret n) (fun r => RF C.K (eI r)) := fun P X hw B H0 H vs t0 ts hb h Q q => by
  cases h with
  | cons h1 h2 =>
    cases h2
    exact .inl ⟨n, by rw [Fz.int_inv (n := n) h1], q n _ H hw (.refl ts) (.int n)⟩
abbrev rLen (K : PySem.W.Frag) : List V → Hp → VK → Prop := fun xs H Q => ∃ p ys, xs = [.ref p] ∧ (SqL K H p ys ∨ SqT K H p ys) ∧ Q (.int ys.length) H
theorem c_lenL {e : α → PyData} (xs : List α) : CaG C (rLen C.K) [RL C.K (xs.map e)] (ret (xs.length : Int)) (fun r => RF C.K (eI r)) := fun P X hw B H0 H vs t0 ts hb h Q q => by
  cases h with
  | cons h1 h2 =>
    cases h2
    obtain ⟨p, ws, rfl, hs, hz⟩ := h1
    have hl := hz.length
    rw [List.length_map] at hl
    exact ⟨p, ws, rfl, .inl hs.sq, q _ _ H hw (.refl ts) (by rw [hl]; exact .int _)⟩
theorem c_lenT {e : α → PyData} (xs : List α) : CaG C (rLen C.K) [RF C.K (eT e xs)] (ret (xs.length : Int)) (fun r => RF C.K (eI r)) := fun P X hw B H0 H vs t0 ts hb h Q q => by
  cases h with
  | cons h1 h2 =>
    cases h2
    obtain ⟨p, ws, rfl, hs, hz⟩ := Fz.tup_inv h1
    have hl := hz.length
    rw [List.length_map] at hl
    exact ⟨p, ws, rfl, .inr hs, q _ _ H hw (.refl ts) (by rw [hl]; exact .int _)⟩
abbrev rTup (K : PySem.W.Frag) : List V → Hp → VK → Prop := fun xs H Q => ∃ p ys, xs = [.ref p] ∧ ((SqL K H p ys ∧ ∀ l, H l = none → Q (.ref l) (upd H l (.tup ys))) ∨ (SqT K H p ys ∧ Q (.ref p) H))
theorem c_tupL {e : α → PyData} (xs : List α) : CaG C (rTup C.K) [RL C.K (xs.map e)] (ret xs) (fun r => RF C.K (eT e r)) := fun P X hw B H0 H vs t0 ts hb h Q q => by
  cases h with
  | cons h1 h2 =>
    cases h2
    obtain ⟨p, ws, rfl, hs, hz⟩ := h1
    refine ⟨p, ws, rfl, .inl ⟨hs.sq, fun l hl => ?_⟩⟩
    have s : Stp B H (upd H l (.tup ws)) := .new ts hl
    exact q _ _ _ hw s (.tup (.inl (.inl upd_same)) (hz.stay (s.stay ts)))
abbrev rLst (K : PySem.W.Frag) : List V → Hp → VK → Prop := fun xs H Q => ∃ p ys, xs = [.ref p] ∧ (SqL K H p ys ∨ SqT K H p ys) ∧ ∀ l, H l = none → Q (.ref l) (upd H l (.lst ys))
theorem c_lstT {e : α → PyData} (xs : List α) : CaG C (rLst C.K) [RF C.K (eT e xs)] (ret xs) (fun r => RN (ls C.K (r.map e))) := fun P X hw B H0 H vs t0 ts hb h Q q => by
  cases h with
  | cons h1 h2 =>
    cases h2
    obtain ⟨p, ws, rfl, hs, hz⟩ := Fz.tup_inv h1
    refine ⟨p, ws, rfl, .inr hs, fun l hl => ?_⟩
    have s : Stp B H (upd H l (.lst ws)) := .new ts hl
    exact q _ _ _ hw s ⟨[l], ⟨l, ws, rfl, rfl, upd_same, hz.stay (s.stay ts)⟩, fun a ha => by rw [List.mem_singleton.mp ha]; exact hb l hl⟩
/-- x in xs, ints -/
theorem inV_ints (x : Int) (ns : List Int) : inV (.int x) (ns.map V.int) = decide (x ∈ ns) := by
  unfold inV
  induction ns with
  | nil => rfl
  | cons n ns ih =>
    rw [List.map_cons, List.any_cons, ih]
    by_cases e : n = x
    · subst e
      simp [eqV]
    · have : eqV (V.int n) (V.int x) = false := by simp [eqV, e]
      rw [this, Bool.false_or]
      have e2 : ¬ x = n := fun z => e z.symm
      simp [e2]
theorem flat_ints (ns : List Int) : (ns.map V.int).all flatV = true := by
  rw [List.all_map]
  exact List.all_eq_true.mpr fun _ _ => rfl
theorem o_inT (x : Int) (ns : List Int) : OpG C (rIn C.K false) (RF C.K (eI x)) (RF C.K (eT eI ns)) (ret (decide (x ∈ ns))) (fun r => RF C.K (eB r)) := fun P X hw B H0 H v y _ ts _ hx hy Q q => by
  have e1 := Fz.int_inv (n := x) hx
  obtain ⟨p, ws, rfl, hs, hz⟩ := Fz.tup_inv hy
  have e := FzAll.ints (ns := ns) hz
  subst e
  subst e1
  refine ⟨p, _, rfl, .inr hs, rfl, flat_ints ns, ?_⟩
  show Q (.bl (inV (.int x) (ns.map V.int))) H
  rw [inV_ints]
  exact q _ _ H hw (.refl ts) (.bl _)
end
end WL
/-! WL, part 6: short forms, as a printer writes them. -/
namespace WL
open PySem PySem.Spec PyProof.Rows L2
section
variable {K : PySem.W.Frag} {C : Cn} [Tbs C.K] {Γ : List Ety} {α β γ δ ι F : Type}
theorem ltb {i n : Nat} (h : Nat.blt i n = true) : i < n := by simpa [Nat.blt_eq] using h
theorem ev_opF {r : R2} {ta tb : TE} {wa : Wp α} {wb : Wp β} {ea : α → PyData} {eb : β → PyData} {w : α → β → Wp γ} {R : γ → Rk} (ha : EvG C Γ ta wa (fun x => RF C.K (ea x))) (hb : EvG C Γ tb wb (fun x => RF C.K (eb x))) (hr : ∀ a b, OpG C r (RF C.K (ea a)) (RF C.K (eb b)) (w a b) R) :
    EvG C Γ (tOp r ta tb) (bnd wa fun a => bnd wb fun b => w a b) R := ev_op ha (fun _ => hb) hr (fun _ => st_F) (fun _ _ => st_F)
theorem ev_opLF {r : R2} {ta tb : TE} {wa : Wp α} {wb : Wp β} {ea : α → List PyData} {eb : β → PyData} {w : α → β → Wp γ} {R : γ → Rk} (ha : EvG C Γ ta wa (fun x => RL C.K (ea x))) (hb : EvG C Γ tb wb (fun x => RF C.K (eb x))) (hr : ∀ a b, OpG C r (RL C.K (ea a)) (RF C.K (eb b)) (w a b) R) :
    EvG C Γ (tOp r ta tb) (bnd wa fun a => bnd wb fun b => w a b) R := ev_op ha (fun _ => hb) hr (fun _ => st_L) (fun _ _ => st_F)
theorem ev_opLL {r : R2} {ta tb : TE} {wa : Wp α} {wb : Wp β} {ea : α → List PyData} {eb : β → List PyData} {w : α → β → Wp γ} {R : γ → Rk} (ha : EvG C Γ ta wa (fun x => RL C.K (ea x))) (hb : EvG C Γ tb wb (fun x => RL C.K (eb x))) (hr : ∀ a b, OpG C r (RL C.K (ea a)) (RL C.K (eb b)) (w a b) R) :
    EvG C Γ (tOp r ta tb) (bnd wa fun a => bnd wb fun b => w a b) R := ev_op ha (fun _ => hb) hr (fun _ => st_L) (fun _ _ => st_L)
theorem ev_ifF {t : TT} {ta tb : TE} {w : Wp Bool} {wa wb : Wp α} {e : α → PyData} (h : EvT C Γ t w) (h1 : EvG C Γ ta wa (fun x => RF C.K (e x))) (h2 : EvG C Γ tb wb (fun x => RF C.K (e x))) : EvG C Γ (tIf t ta tb) (bnd w fun b => sel b wa wb) (fun x => RF C.K (e x)) := ev_if h h1 h2 fun _ => st_F
theorem ev_mulR {n : Int} {ta : TE} {w : Wp Int} (hn : -(2 ^ 64) < n ∧ n < 2 ^ 64) (ha : EvG C Γ ta w (fun x => RF C.K (eI x))) : EvG C Γ (tOp (rI CMul fun i j => .int (i * j)) ta (tC (.int n))) (bnd w fun y => ret (y * n)) (fun r => RF C.K (eI r)) := fun P X hw B σ H fp en ex Q q =>
  ha _ X hw B σ H fp en ex _ fun y v H' hp s hv => ⟨y, n, Fz.int_inv hv, rfl, .inr hn, q _ _ H' hp s (.int _)⟩
theorem ev_fdivC {n : Int} {ta : TE} {w : Wp Int} (hn : CDivN 0 n) (ha : EvG C Γ ta w (fun x => RF C.K (eI x))) : EvG C Γ (tOp (rI CDivN fun i j => .int (i.fdiv j)) ta (tC (.int n))) (bnd w fun y => ret (y.fdiv n)) (fun r => RF C.K (eI r)) := fun P X hw B σ H fp en ex Q q =>
  ha _ X hw B σ H fp en ex _ fun y v H' hp s hv => ⟨y, n, Fz.int_inv hv, rfl, hn, q _ _ H' hp s (.int _)⟩
theorem ev_modC {n : Int} {ta : TE} {w : Wp Int} (hn : n ≠ 0) (ha : EvG C Γ ta w (fun x => RF C.K (eI x))) : EvG C Γ (tOp (rI (fun _ j => j ≠ 0) fun i j => .int (i.fmod j)) ta (tC (.int n))) (bnd w fun y => ret (y.fmod n)) (fun r => RF C.K (eI r)) := fun P X hw B σ H fp en ex Q q =>
  ha _ X hw B σ H fp en ex _ fun y v H' hp s hv => ⟨y, n, Fz.int_inv hv, rfl, hn, q _ _ H' hp s (.int _)⟩
/-- a written place of a tuple of a fixed form -/
theorem ev_ixW {n : Int} {ta : TE} {w : Wp α} {ea : α → PyData} {e' : γ → PyData} (g : α → γ) (k : Nat) (ha : EvG C Γ ta w (fun x => RF C.K (ea x))) (hn : n = (k : Int)) (h : ∀ a, ∃ ds, ea a = .tuple ds ∧ ds[k]? = some (e' (g a))) :
    EvG C Γ (tOp (rIxT C.K) ta (tC (.int n))) (bnd w fun a => ret (g a)) (fun r => RF C.K (e' r)) := fun P X hw B σ H fp en ex Q q =>
  ha _ X hw B σ H fp en ex _ fun a v H' hp s hv => by
    obtain ⟨ds, e1, e2⟩ := h a
    have hv : Fz C.K H' v (ea a) := hv
    rw [e1] at hv
    obtain ⟨p, vs, rfl, hs, hz⟩ := Fz.tup_inv hv
    obtain ⟨u, h1, h2⟩ := hz.get e2
    exact ⟨p, vs, n, u, rfl, rfl, hs, by rw [hn]; exact atI_nat h1, q (g a) u H' hp s h2⟩
/-- arguments with the kinds' stability -/
structure EvS (C : Cn) [Tbs C.K] (Γ : List Ety) (t : TA) (w : Wp α) (R : α → List Rk) : Prop where
  ev : EvA C Γ t w R
  st : ∀ b, ∀ R' ∈ R b, StR R'
theorem es_nil : EvS C Γ tNil (ret ()) (fun _ => []) := ⟨ea_nil, fun _ R h => absurd h (by simp)⟩
theorem es_cons {te : TE} {tr : TA} {wa : Wp α} {wr : Wp β} {Ra : α → Rk} {Rr : β → List Rk} (h : EvG C Γ te wa Ra) (sa : ∀ a, StR (Ra a)) (hr : EvS C Γ tr wr Rr) : EvS C Γ (tCons te tr) (bnd wa fun a => bnd wr fun r => ret (a, r)) (fun x => Ra x.1 :: Rr x.2) :=
  ⟨ea_cons h hr.ev sa hr.st, fun b R hR => by
    rcases List.mem_cons.mp hR with rfl | hR
    · exact sa _
    · exact hr.st _ R hR⟩
theorem es_f {te : TE} {tr : TA} {wa : Wp α} {wr : Wp β} {e : α → PyData} {Rr : β → List Rk} (h : EvG C Γ te wa (fun x => RF C.K (e x))) (hr : EvS C Γ tr wr Rr) : EvS C Γ (tCons te tr) (bnd wa fun a => bnd wr fun r => ret (a, r)) (fun x => RF C.K (e x.1) :: Rr x.2) := es_cons h (fun _ => st_F) hr
theorem es_t {te : TE} {tr : TA} {wa : Wp Unit} {wr : Wp β} {S : Sl} {Rr : β → List Rk} (h : EvG C Γ te wa (fun _ => RT S)) (hr : EvS C Γ tr wr Rr) : EvS C Γ (tCons te tr) (bnd wa fun a => bnd wr fun r => ret (a, r)) (fun x => RT S :: Rr x.2) := es_cons h (fun _ => st_T) hr
theorem ev_tupS {ta : TA} {w : Wp α} {Rs : α → List Rk} {ds : α → List PyData} (f : α → γ) (e : γ → PyData) (h : EvS C Γ ta w Rs) (hd : ∀ a, AllF C.K (Rs a) (ds a)) (hl : ∀ a, Nat.ble (ds a).length 100 = true) (he : ∀ a, e (f a) = .tuple (ds a)) : EvG C Γ (tTup ta) (mapW f w) (fun r => RF C.K (e r)) :=
  (ev_tup h.ev hd fun a => Nat.le_of_ble_eq_true (hl a)).as f fun r => by rw [he]
theorem ev_lstS {ta : TA} {w : Wp α} {Rs : α → List Rk} {ds : α → List PyData} (f : α → List γ) (e : γ → PyData) (h : EvS C Γ ta w Rs) (hd : ∀ a, AllF C.K (Rs a) (ds a)) (hl : ∀ a, Nat.ble (ds a).length 100 = true) (he : ∀ a, (f a).map e = ds a) : EvG C Γ (tLst ta) (mapW f w) (fun r => RN (ls C.K (r.map e))) :=
  (ev_lst h.ev hd fun a => Nat.le_of_ble_eq_true (hl a)).as f fun r => by rw [he]
theorem ev_callS {ta : TA} {wa : Wp ι} {ag : ι → List Ag} {f : ι → Wp F} {res : F → Oc} {E : XK} (e : F → PyData) (ha : EvS C Γ ta wa (fun x => (ag x).map (Ag.rk C.K))) (hr : ∀ o, res o = .fz (e o)) :
    EvG C Γ (tCall (spN C.K ag f res) [] E ta) (bnd wa fun x => noX (f x)) (fun r => RF C.K (e r)) := ev_call ha.ev hr
theorem ev_callNS {ta : TA} {wa : Wp ι} {ag : ι → List Ag} {f : ι → Wp F} {res : F → Oc} {E : XK} (S : F → Sl) (ha : EvS C Γ ta wa (fun x => (ag x).map (Ag.rk C.K))) (hr : ∀ o, res o = .nw (S o)) :
    EvG C Γ (tCall (spN C.K ag f res) [] E ta) (bnd wa fun x => noX (f x)) (fun r => RN (S r)) := ev_callN ha.ev hr
theorem ev_b1 {r : List V → Hp → VK → Prop} {te : TE} {wa : Wp α} {Ra : α → Rk} {w' : α → Wp γ} {R : γ → Rk} (h : EvG C Γ te wa Ra) (sa : ∀ a, StR (Ra a)) (hr : ∀ a, CaG C r [Ra a] (w' a) R) : EvG C Γ (tCB r (tCons te tNil)) (bnd wa w') R :=
  (ev_cb (es_cons h sa es_nil).ev (w' := fun x => w' x.1) fun a => hr a.1).is rfl
theorem ev_b1F {r : List V → Hp → VK → Prop} {te : TE} {wa : Wp α} {e : α → PyData} {w' : α → Wp γ} {R : γ → Rk} (h : EvG C Γ te wa (fun x => RF C.K (e x))) (hr : ∀ a, CaG C r [RF C.K (e a)] (w' a) R) : EvG C Γ (tCB r (tCons te tNil)) (bnd wa w') R := ev_b1 h (fun _ => st_F) hr
theorem ev_b1L {r : List V → Hp → VK → Prop} {te : TE} {wa : Wp (List α)} {e : α → PyData} {w' : List α → Wp γ} {R : γ → Rk} (h : EvG C Γ te wa (fun x => RL C.K (x.map e))) (hr : ∀ a : List α, CaG C r [RL C.K (a.map e)] (w' a) R) : EvG C Γ (tCB r (tCons te tNil)) (bnd wa w') R := ev_b1 h (fun _ => st_L) hr
/-- xs * k -/
def repL (xs : List α) (k : Int) : List α := (List.replicate k.toNat xs).flatten
/-- targets -/
structure TgS (K : PySem.W.Frag) (Γ : List Ety) (g : TGs) (vs : List Nat) (ds : List PyData) (Γ' : List Ety) : Prop where
  run : ∀ B σ H fp xs, En B Γ σ H fp → FzAll K H xs ds → ∀ Q : List (Option V) → Hp → Prop, (∀ σ' fp', En B Γ' σ' H fp' → wipe σ' vs = wipe σ vs → (∀ a i, a ∈ fp' i → ∃ j, a ∈ fp j) → Q σ' H) → g xs σ H Q
theorem ts_nil : TgS K Γ gNil [] [] Γ := ⟨fun B σ H fp xs en hz Q q => by
  cases hz
  exact ⟨rfl, q σ fp en rfl fun a i h => ⟨i, h⟩⟩⟩
theorem wipe_sub {σ σ' : List (Option V)} {vs ws : List Nat} (h : wipe σ vs = wipe σ' vs) (hs : ∀ v ∈ vs, v ∈ ws) (hl : σ.length = σ'.length) : wipe σ ws = wipe σ' ws := by
  refine List.ext_getElem? fun j => ?_
  rw [wipe_get, wipe_get]
  by_cases hj : j ∈ ws
  · rw [if_pos hj, if_pos hj]
    by_cases h1 : j < σ.length
    · rw [List.getElem?_eq_getElem h1, List.getElem?_eq_getElem (hl ▸ h1)]
      rfl
    · rw [List.getElem?_eq_none (by omega), List.getElem?_eq_none (by omega)]
  · rw [if_neg hj, if_neg hj]
    have z := congrArg (fun l => l[j]?) h
    simp only [wipe_get] at z
    have : ¬ j ∈ vs := fun q => hj (hs j q)
    rwa [if_neg this, if_neg this] at z
theorem ts_cons {g : TG} {gs : TGs} {vs ws : List Nat} {d : PyData} {ds : List PyData} {Γ' Γ'' : List Ety} (h : TgG K Γ g vs d Γ') (hs : TgS K Γ' gs ws ds Γ'') : TgS K Γ (gCons g gs) (vs ++ ws) (d :: ds) Γ'' := ⟨fun B σ H fp xs en hz Q q => by
  cases hz with
  | cons h1 h2 =>
    refine ⟨_, _, rfl, h.run B σ H fp _ en h1 _ fun σ1 fp1 en1 w1 s1 => hs.run B σ1 H fp1 _ en1 h2 _ fun σ2 fp2 en2 w2 s2 => ?_⟩
    have l1 : σ1.length = σ.length := by
      have z := congrArg List.length w1
      rw [wipe_length, wipe_length] at z
      exact z
    have l2 : σ2.length = σ1.length := by
      have z := congrArg List.length w2
      rw [wipe_length, wipe_length] at z
      exact z
    refine q σ2 fp2 en2 ?_ fun a i ha => ?_
    · exact (wipe_sub w2 (fun v hv => List.mem_append_right _ hv) l2).trans (wipe_sub w1 (fun v hv => List.mem_append_left _ hv) l1)
    · obtain ⟨j, hj⟩ := s2 a i ha
      exact s1 a j hj⟩
theorem tg_tup {g : TGs} {vs : List Nat} {d : PyData} {ds : List PyData} {n : Nat} {Γ' : List Ety} (h : TgS K Γ g vs ds Γ') (hd : d = .tuple ds) (hn : ds.length = n) : TgG K Γ (gTup K n g) vs d Γ' := ⟨fun B σ H fp v en hz Q q => by
  subst hd
  obtain ⟨a, xs, rfl, hs, hz'⟩ := Fz.tup_inv hz
  exact ⟨a, xs, rfl, hs, by rw [hz'.length]; exact hn, h.run B σ H fp xs en hz' Q q⟩⟩
end
end WL
/-! WL, part 7: what the printer writes; lists of data sorted, their least. -/
namespace WL
open PySem PySem.Spec PyProof.Rows L2
section
variable {F α β γ S : Type}
def appW (xs : List α) (w : Wp α) (k : List α → Wp F) : Wp F := bnd w fun x => grd (xs.length < 16777216) (k (xs ++ [x]))
def letK (k : S → Wp F) (f : (S → Wp F) → Wp F) : Wp F := f k
def eqW (d d' : PyData) : Wp Bool := grd (SeqAt.shaped d = true ∧ SeqAt.shaped d' = true) (ret (PyData.eqv d d'))
def eqWN (d d' : PyData) : Wp Bool := grd (SeqAt.shaped d = true ∧ SeqAt.shaped d' = true) (ret (!PyData.eqv d d'))
def eqL (d d' : List PyData) : Wp Bool := grd (SeqAt.shaped (.list d) = true ∧ SeqAt.shaped (.list d') = true) (ret (PyData.eqv (.list d) (.list d')))
def eqLN (d d' : List PyData) : Wp Bool := grd (SeqAt.shaped (.list d) = true ∧ SeqAt.shaped (.list d') = true) (ret (!PyData.eqv (.list d) (.list d')))
/-- sorted, by Python's order of data -/
def sortW (e : α → PyData) (xs : List α) : Wp (List α) := grd (PySem.W.AllAlike (xs.map e) ∧ PySem.W.Sortable (xs.map e) ∧ xs.length ≤ 16777216 ∧ ∀ x ∈ xs, (e x).depth ≤ 60) (ret (xs.mergeSort (PySem.W.dataLe false e)))
variable {K : PySem.W.Frag} {C : Cn} [Tbs C.K] {Γ : List Ety} {res : F → Oc} {N Bk Ct : Cont F}
theorem sb_retF {te : TE} {w : Wp F} {e : F → PyData} (h : EvG C Γ te w (fun r => RF C.K (e r))) (hr : ∀ r, res r = .fz (e r)) : SimB C res N Bk Ct (tRet te) Γ w := sb_ret (g := fun r => r) h hr
theorem sb_retSS {te : TE} {w : Wp F} {S : F → Sl} (h : EvG C Γ te w (fun r => RN (S r))) (hr : ∀ r, res r = .nw (S r)) : SimB C res N Bk Ct (tRet te) Γ w := sb_retS (g := fun r => r) h hr
theorem sb_appendK {i : Nat} {te : TE} {e : α → PyData} {xs : List α} {w : Wp α} {k : List α → Wp F} (h : Γ[i]? = some (.sl (ls C.K (xs.map e)))) (he : EvG C Γ te w (fun r => RF C.K (e r))) (hk : ∀ ys, Lands N (Γ.set i (.sl (ls C.K (ys.map e)))) (k ys)) :
    SimB C res N Bk Ct (tDrop (tBM C.K "list" rAppend (tVar i) (tCons te tNil))) Γ (appW xs w k) := sb_append h he fun x => hk _
/-! ### slices -/
def cutA (xs : List α) (lo hi : Option Int) : List α := (xs.drop (HT.sIx xs.length 0 lo)).take (HT.sIx xs.length xs.length hi - HT.sIx xs.length 0 lo)
def EvO (C : Cn) [Tbs C.K] (Γ : List Ety) (t : TO) (w : Wp (Option Int)) : Prop := ∀ (P : Option Int → Prop) (X : Xn → Prop), w P X → ∀ B σ H fp, En B Γ σ H fp → Exok C B X →
  ∀ Q : Option Int → Hp → Prop, (∀ b H', P b → Stp B H H' → Q b H') → t σ H Q
theorem eo_none : EvO C Γ tNoPart (ret none) := fun P X hw B σ H fp en ex Q q => q none H hw (.refl en.tps)
theorem eo_some {t : TE} {w : Wp Int} (h : EvG C Γ t w (fun r => RF C.K (eI r))) : EvO C Γ (tPart t) (bnd w fun i => ret (some i)) := fun P X hw B σ H fp en ex Q q =>
  h _ X hw B σ H fp en ex _ fun i v H' hp s hv => ⟨i, Fz.int_inv hv, q (some i) H' hp s⟩
theorem cut_fz {H : Hp} {vs : List V} {e : α → PyData} {xs : List α} (hz : FzAll K H vs (xs.map e)) (lo hi : Option Int) : FzAll K H (cutV vs lo hi) ((cutA xs lo hi).map e) := by
  have hl : vs.length = xs.length := by rw [hz.length, List.length_map]
  unfold cutV cutA
  rw [hl, List.map_take, List.map_drop]
  exact (hz.drop _).take _
theorem ev_slT {te : TE} {tl th : TO} {w : Wp (List α)} {wl wh : Wp (Option Int)} {e : α → PyData} (h : EvG C Γ te w (fun r => RF C.K (eT e r))) (hl : EvO C Γ tl wl) (hh : EvO C Γ th wh) :
    EvG C Γ (tSl (rSlA C.K) te tl th) (bnd w fun xs => bnd wl fun l => bnd wh fun u => ret (cutA xs l u)) (fun r => RF C.K (eT e r)) := fun P X hw B σ H fp en ex Q q => by
  refine h _ X hw B σ H fp en ex _ fun xs v H1 h1 s1 hv => ?_
  refine hl _ X h1 B σ H1 fp (en.step s1) ex _ fun l H2 h2 s2 => ?_
  refine hh _ X h2 B σ H2 fp ((en.step s1).step s2) ex _ fun u H3 h3 s3 => ?_
  have s13 := s2.trans s3
  obtain ⟨a, vs, rfl, hs, hz⟩ := Fz.tup_inv hv
  have hz3 := hz.stay (s13.stay s1.ts)
  have hs3 := sqT_stay (s13.stay s1.ts) hs
  have hc := cut_fz hz3 l u
  refine ⟨a, vs, rfl, hs3, fun hw0 => ?_, fun hw0 p hp => ?_⟩
  · have : cutV vs l u = vs := by
      unfold cutV
      rw [hw0.1, hw0.2, List.drop_zero, Nat.sub_zero, List.take_length]
    rw [this] at hc
    exact q _ _ H3 h3 (s1.trans s13) (.tup hs3 hc)
  · have s4 : Stp B H3 (upd H3 p (.tup (cutV vs l u))) := .new s3.ts hp
    exact q _ _ _ h3 ((s1.trans s13).trans s4) (.tup (.inl (.inl upd_same)) (hc.stay (s4.stay s3.ts)))
theorem ev_slL {te : TE} {tl th : TO} {w : Wp (List α)} {wl wh : Wp (Option Int)} {e : α → PyData} (h : EvG C Γ te w (fun r => RL C.K (r.map e))) (hl : EvO C Γ tl wl) (hh : EvO C Γ th wh) :
    EvG C Γ (tSl (rSlL C.K) te tl th) (bnd w fun xs => bnd wl fun l => bnd wh fun u => ret (cutA xs l u)) (fun r => RN (ls C.K (r.map e))) := fun P X hw B σ H fp en ex Q q => by
  refine h _ X hw B σ H fp en ex _ fun xs v H1 h1 s1 hv => ?_
  refine hl _ X h1 B σ H1 fp (en.step s1) ex _ fun l H2 h2 s2 => ?_
  refine hh _ X h2 B σ H2 fp ((en.step s1).step s2) ex _ fun u H3 h3 s3 => ?_
  have s13 := s2.trans s3
  have hv3 := st_L B H H H1 H3 v en.tps s1.ts s13 hv fun _ z => z
  obtain ⟨a, vs, rfl, hs, hz⟩ := hv3
  have hc := cut_fz hz l u
  refine ⟨a, vs, rfl, hs.sq, fun p hp => ?_⟩
  have s4 : Stp B H3 (upd H3 p (.lst (cutV vs l u))) := .new s3.ts hp
  refine q _ _ _ h3 ((s1.trans s13).trans s4) ⟨[p], ⟨p, _, rfl, rfl, upd_same, hc.stay (s4.stay s3.ts)⟩, fun b hb => ?_⟩
  rw [List.mem_singleton.mp hb]
  exact (s1.trans s13).back en.tps hp
/-- t + u -/
theorem o_catT {e : α → PyData} (xs ys : List α) : OpG C (rCatA C.K) (RF C.K (eT e xs)) (RF C.K (eT e ys)) (grd (xs.length + ys.length ≤ 16777216) (ret (xs ++ ys))) (fun r => RF C.K (eT e r)) := fun P X hw B H0 H x y t0 ts hb hx hy Q q => by
  obtain ⟨a, vs, rfl, hs, hz⟩ := Fz.tup_inv hx
  obtain ⟨b, ws, rfl, hs2, hz2⟩ := Fz.tup_inv hy
  have hl := hz.length
  have hl2 := hz2.length
  rw [List.length_map] at hl hl2
  have hc : FzAll C.K H (vs ++ ws) ((xs ++ ys).map e) := by
    rw [List.map_append]
    exact hz.append hz2
  refine ⟨a, b, vs, ws, rfl, rfl, hs, hs2, by rw [hl, hl2]; exact hw.1, fun e0 => ?_, fun e1 e0 => ?_, fun e1 e2 p hp => ?_⟩
  · subst e0
    exact q _ _ H hw.2 (.refl ts) (.tup hs2 hc)
  · subst e0
    rw [List.append_nil] at hc
    exact q _ _ H hw.2 (.refl ts) (.tup hs hc)
  · have s : Stp B H (upd H p (.tup (vs ++ ws))) := .new ts hp
    exact q _ _ _ hw.2 s (.tup (.inl (.inl upd_same)) (hc.stay (s.stay ts)))
/-! ### sorted, min: lists of data -/
theorem each_of {H : Hp} {e : β → PyData} : ∀ {xs : List V} {us : List Value} {bs : List β}, Vals xs us → FzAll K H xs (bs.map e) → PySem.W.EachIs (fun u b => ∃ x, RelV x u ∧ Fz K H x (e b)) us bs
  | _, _, [], r, h => by
    cases h
    cases r
    exact .nil
  | _, _, b :: bs, r, h => by
    cases h with
    | cons h1 h2 =>
      cases r with
      | cons r1 r2 => exact .cons ⟨_, r1, h1⟩ (each_of r2 h2)
theorem of_each {H : Hp} {e : β → PyData} : ∀ {us : List Value} {bs : List β}, PySem.W.EachIs (fun u b => ∃ x, RelV x u ∧ Fz K H x (e b)) us bs → ∃ xs, Vals xs us ∧ FzAll K H xs (bs.map e)
  | _, _, .nil => ⟨[], .nil, .nil⟩
  | _, _, .cons ⟨x, h1, h2⟩ t => by
    obtain ⟨xs, h3, h4⟩ := of_each t
    exact ⟨x :: xs, .cons h1 h3, .cons h2 h4⟩
def rSortD (K : PySem.W.Frag) : List V → Hp → VK → Prop := fun vs H Q => ∃ (β : Type) (a : Addr) (xs : List V) (bs : List β) (e : β → PyData), vs = [.ref a] ∧ SqL K H a xs ∧ FzAll K H xs (bs.map e) ∧ PySem.W.AllAlike (bs.map e) ∧ PySem.W.Sortable (bs.map e) ∧ bs.length ≤ sizeLine ∧
  (∀ b ∈ bs, (e b).depth ≤ 60) ∧ ∀ (ys : List V) (p : Addr), H p = none → FzAll K H ys ((bs.mergeSort (PySem.W.dataLe false e)).map e) → Q (.ref p) (upd H p (.lst ys))
theorem cr_sortD {X : Cx} (hu : X.A.units + 64 < cLine) : CallR X (.builtin "sorted") (rSortD X.K) := by
  intro pins s σ H vs us Q I r h
  obtain ⟨β, a, xs, bs, e, rfl, hs, hz, hal, hso, hlen, hdp, q⟩ := h
  obtain ⟨its, rv, hl, hsz⟩ := I.list hs
  rw [Vals.ref1 r]
  have er := each_of rv hz
  refine PySem.W.sorted_data (enc := e) (R := fun u b => ∃ x, RelV x u ∧ Fz X.K H x (e b)) hl.isList er (er.mono fun u b ⟨x, h1, h2⟩ => Dp.reads I _ _ _ h2.dp h1) hal hso hlen (fun b hb => ?_) fun out hol heach => ?_
  · have := hdp b hb
    omega
  · obtain ⟨ys, h1, h2⟩ := of_each heach
    obtain ⟨ep, he'⟩ := PyProof.Rows.sortedAll_at s.heap its out.toArray
    have hyl : ys.length ≤ sizeLine := by rw [h1.length, hol]; exact hlen
    exact ⟨.ref _, upd H (s.heap.objs.size + 1) (.lst ys), I.laid (t' := s.toks) (fun _ _ => PyProof.Rows.sortedAll_old) (Nat.le_succ _) ⟨hyl, out, ep, h1, he'⟩, rfl, q ys _ (I.hok.fresh (Nat.le_succ _)) h2⟩
theorem c_sortD {e : α → PyData} (xs : List α) : CaG C (rSortD C.K) [RL C.K (xs.map e)] (sortW e xs) (fun r => RN (ls C.K (r.map e))) := fun P X ⟨hg, hw⟩ B H0 H vs t0 ts hb h Q q => by
  cases h with
  | cons h1 h2 =>
    cases h2
    obtain ⟨p, ws, rfl, hs, hz⟩ := h1
    refine ⟨α, p, ws, xs, e, rfl, hs.sq, hz, hg.1, hg.2.1, hg.2.2.1, hg.2.2.2, fun ys l hl hy => ?_⟩
    have s : Stp B H (upd H l (.lst ys)) := .new ts hl
    exact q _ _ _ hw s ⟨[l], ⟨l, ys, rfl, rfl, upd_same, hy.stay (s.stay ts)⟩, fun a ha => by rw [List.mem_singleton.mp ha]; exact hb l hl⟩
theorem ev_unO {t : TE} {w : Wp (Option α)} {e : α → PyData} (h : EvG C Γ t w (fun r => RF C.K (eO e r))) : EvG C Γ t (bnd w fun o => opt o) (fun r => RF C.K (e r)) := fun P X hw B σ H fp en ex Q q =>
  h _ X hw B σ H fp en ex Q fun o v H' ⟨a, ho, hp⟩ s hv => by
    subst ho
    exact q a v H' hp s hv
end
end WL
/-! WL, part 8: the layer's rules with the written part said apart (so that they fit a comprehension's block too). -/
namespace WL
open PySem PySem.Spec PyProof.Rows L2
section
variable {X : Cx} {K : PySem.W.Frag}
theorem ix_tupK (h : X.K = K) : IxR X (rIxT K) := by subst h; exact ix_tup
theorem ix_listK (h : X.K = K) : IxR X (rIxL K) := by subst h; exact ix_list
theorem op_inK (h : X.K = K) : OpR X (compareOp .In) (rIn K false) := by subst h; exact op_in_seq
theorem op_eqDK (h : X.K = K) (hu : X.A.units + 64 < cLine) : OpR X (compareOp .Eq) (rEqD K) := by subst h; exact op_eqD hu
theorem op_neDK (h : X.K = K) (hu : X.A.units + 64 < cLine) : OpR X (compareOp .NotEq) (rNeD K) := by subst h; exact op_neD hu
theorem call_lenK (h : X.K = K) : CallR X (.builtin "len") (rLen K) := by subst h; exact call_len_seq
theorem call_tupK (h : X.K = K) : CallR X (.type "tuple") (rTup K) := by subst h; exact call_tuple_of
theorem call_lstK (h : X.K = K) : CallR X (.type "list") (rLst K) := by subst h; exact call_list_of
theorem cr_sortDK (h : X.K = K) (hu : X.A.units + 64 < cLine) : CallR X (.builtin "sorted") (rSortD K) := by subst h; exact cr_sortD hu
theorem sl_tupK (h : X.K = K) : SlR X (rSlA K) := by subst h; exact sl_tupA
theorem sl_listK (h : X.K = K) : SlR X (rSlL K) := by subst h; exact sl_list
theorem op_catK (h : X.K = K) : OpR X (binaryOp .Add) (rCatA K) := by subst h; exact op_catA
theorem pg_tupK {es : List Expr} {k : Nat} {t : TGs} {n : Nat} {pos : Pos} (hK : X.K = K) (hc : X.calm = true) (h : PGs X es t)
    (hn : (assignEach es X.env).length = n := by rfl) (hst : (assignEach es X.env).findIdx? (·.1) = none := by rfl) : PG X (.Tuple es k pos) (gTup K n t) := by subst hK; exact pg_tup hc h hn hst
theorem pi_listK {tg l : Expr} {tl : TE} (hK : X.K = K) (hl : PE X l tl) : PI X tg l (iList K tl) := by subst hK; exact pi_list hl
theorem pi_tupK {tg l : Expr} {tl : TE} (hK : X.K = K) (hl : PE X l tl) : PI X tg l (iTup K tl) := by subst hK; exact pi_tup hl
theorem o_eqDW {C : Cn} [Tbs C.K] (d d' : PyData) : OpG C (rEqD C.K) (RF C.K d) (RF C.K d') (eqW d d') (fun r => RF C.K (eB r)) := o_eqD d d'
theorem o_neDW {C : Cn} [Tbs C.K] (d d' : PyData) : OpG C (rNeD C.K) (RF C.K d) (RF C.K d') (eqWN d d') (fun r => RF C.K (eB r)) := o_neD d d'
theorem o_eqLW {C : Cn} [Tbs C.K] (d d' : List PyData) : OpG C (rEqD C.K) (RL C.K d) (RL C.K d') (eqL d d') (fun r => RF C.K (eB r)) := o_eqL d d'
theorem o_neLW {C : Cn} [Tbs C.K] (d d' : List PyData) : OpG C (rNeD C.K) (RL C.K d) (RL C.K d') (eqLN d d') (fun r => RF C.K (eB r)) := o_neL d d'
/-- the first part of a block by what it reaches -/
theorem seq_via {t u : TS} {D : Ends} {σ : L2.St} {H : Hp} (I : L2.St → Hp → Prop) (h : ∀ N : L2.St → Hp → Prop, (∀ σ H, I σ H → N σ H) → t { D with nx := N } σ H) (r : ∀ σ H, I σ H → u D σ H) : tSeq t u D σ H := h _ r
end
end WL
/-! WL, part 9: dicts of the def's own with int keys. -/
namespace WL
open PySem PySem.Spec PyProof.Rows L2
section
variable {α β F : Type}
def valI (kvs : List (Int × α)) (k : Int) : Option α := (kvs.find? fun p => decide (p.1 = k)).map (·.2)
def putI (kvs : List (Int × α)) (k : Int) (v : α) : List (Int × α) := if (kvs.any fun p => decide (p.1 = k)) = true then kvs.map (fun p => if p.1 = k then (p.1, v) else p) else kvs ++ [(k, v)]
/-- entries that stand for kvs -/
inductive DkAll (K : PySem.W.Frag) (H : Hp) : List (Key × V) → List (Int × PyData) → Prop
  | nil : DkAll K H [] []
  | cons {k : Int} {v : V} {d : PyData} {a : List (Key × V)} {b : List (Int × PyData)} : Fz K H v d → DkAll K H a b → DkAll K H ((.inl k, v) :: a) ((k, d) :: b)
theorem DkAll.stay {K : PySem.W.Frag} {H H' : Hp} (st : Stay H H') : ∀ {a : List (Key × V)} {b : List (Int × PyData)}, DkAll K H a b → DkAll K H' a b
  | _, _, .nil => .nil
  | _, _, .cons h t => .cons (h.stay st) (t.stay st)
theorem DkAll.length {K : PySem.W.Frag} {H : Hp} : ∀ {a : List (Key × V)} {b : List (Int × PyData)}, DkAll K H a b → a.length = b.length
  | _, _, .nil => rfl
  | _, _, .cons _ t => congrArg Nat.succ t.length
theorem DkAll.get {K : PySem.W.Frag} {H : Hp} (k : Int) : ∀ {a : List (Key × V)} {b : List (Int × PyData)}, DkAll K H a b → (valV a (.inl k)).isSome = (valI b k).isSome ∧ ∀ d, valI b k = some d → ∃ v, valV a (.inl k) = some v ∧ Fz K H v d
  | _, _, .nil => ⟨rfl, fun d e => by cases e⟩
  | _, _, @DkAll.cons _ _ k' v d a b h t => by
    by_cases e : k' = k
    · subst e
      have e1 : valV ((Sum.inl k', v) :: a) (.inl k') = some v := valV_pos rfl
      have e2 : valI ((k', d) :: b) k' = some d := by simp [valI, List.find?_cons]
      rw [e1, e2]
      exact ⟨rfl, fun d' e' => by cases e'; exact ⟨v, rfl, h⟩⟩
    · have e1 : valV ((Sum.inl k', v) :: a) (.inl k) = valV a (.inl k) := valV_neg (fun z => e (Sum.inl.inj z))
      have e2 : valI ((k', d) :: b) k = valI b k := by simp [valI, List.find?_cons, e]
      rw [e1, e2]
      exact t.get k
theorem DkAll.any {K : PySem.W.Frag} {H : Hp} (k : Int) : ∀ {a : List (Key × V)} {b : List (Int × PyData)}, DkAll K H a b → (a.any fun kv => decide (kv.1 = .inl k)) = b.any fun p => decide (p.1 = k)
  | _, _, .nil => rfl
  | _, _, @DkAll.cons _ _ k' v d a b h t => by
    rw [List.any_cons, List.any_cons, t.any k]
    congr 1
    by_cases e : k' = k
    · subst e; simp
    · have : ¬ (Sum.inl k' : Key) = .inl k := fun z => e (Sum.inl.inj z)
      simp [e]
theorem DkAll.snoc {K : PySem.W.Frag} {H : Hp} {k : Int} {v : V} {d : PyData} (h : Fz K H v d) : ∀ {a : List (Key × V)} {b : List (Int × PyData)}, DkAll K H a b → DkAll K H (a ++ [(.inl k, v)]) (b ++ [(k, d)])
  | _, _, .nil => .cons h .nil
  | _, _, .cons h' t => .cons h' (t.snoc h)
theorem DkAll.over {K : PySem.W.Frag} {H : Hp} {k : Int} {v : V} {d : PyData} (h : Fz K H v d) : ∀ {a : List (Key × V)} {b : List (Int × PyData)}, DkAll K H a b → DkAll K H (a.map fun kv => if kv.1 = .inl k then (kv.1, v) else kv) (b.map fun p => if p.1 = k then (p.1, d) else p)
  | _, _, .nil => .nil
  | _, _, @DkAll.cons _ _ k' v' d' a b h' t => by
    rw [List.map_cons, List.map_cons]
    by_cases e : k' = k
    · subst e
      rw [if_pos rfl, if_pos rfl]
      exact .cons h (t.over h)
    · rw [if_neg (fun z => e (Sum.inl.inj z)), if_neg e]
      exact .cons h' (t.over h)
theorem DkAll.put {K : PySem.W.Frag} {H : Hp} {k : Int} {v : V} {d : PyData} {a : List (Key × V)} {b : List (Int × PyData)} (t : DkAll K H a b) (h : Fz K H v d) : DkAll K H (putK a (.inl k) v) (putI b k d) := by
  unfold putK putI
  rw [t.any k]
  split
  · exact t.over h
  · exact t.snoc h
variable {K : PySem.W.Frag} {C : Cn} [Tbs C.K] {Γ : List Ety}
theorem hu1 {a : Nat} (h : a + 64 < cLine) : a + 1 < cLine := by omega
/-! sorted(d) -/
end
end WL
/-! WL, part 10: the law itself: the script's tape, the rest, the end. -/
namespace WL
open PySem PySem.Spec PyProof.Rows L2
/-- the law at a script -/
def spLaw (K : PySem.W.Frag) : Sp := fun vs H Q _ => ∃ (p : Addr) (ns : List Int), vs = [.ref p] ∧ SqL K H p (ns.map V.int) ∧ ∀ H', Q (.bl true) H'
theorem law_start (K : PySem.W.Frag) (H : Hp) (a : Addr) (ns : List Int) (h : SqL K H a (ns.map V.int)) : spLaw K [.ref a] H (fun v _ => v = .bl true) fun _ _ _ => False := ⟨a, ns, rfl, h, fun _ => rfl⟩
end WL
/-! WL, part 11: what a transformer is sure to answer. -/
namespace WL
open PySem
variable {α β γ S F : Type}
/-- m answers, raises nothing, and what it answers has Q -/
def Ens (m : Wp α) (Q : α → Prop) : Prop := ∀ (P : α → Prop) (X : Xn → Prop), (∀ v, Q v → P v) → m P X
theorem Ens.mono {m : Wp α} {Q R : α → Prop} (h : Ens m Q) (k : ∀ v, Q v → R v) : Ens m R := fun P X hp => h P X fun v hv => hp v (k v hv)
theorem en_ret {a : α} {Q : α → Prop} (h : Q a) : Ens (ret a) Q := fun P X hp => hp a h
theorem en_eq (a : α) : Ens (ret a) (fun v => v = a) := en_ret rfl
theorem en_bnd {m : Wp α} {k : α → Wp β} {R : α → Prop} {Q : β → Prop} (h : Ens m R) (hk : ∀ a, R a → Ens (k a) Q) : Ens (bnd m k) Q := fun P X hp => h _ X fun a ha => hk a ha P X hp
theorem en_bndE {m : Wp α} {k : α → Wp β} {a : α} {Q : β → Prop} (h : Ens m (fun v => v = a)) (hk : Ens (k a) Q) : Ens (bnd m k) Q := en_bnd h fun _ e => e ▸ hk
theorem en_grd {c : Prop} {m : Wp α} {Q : α → Prop} (hc : c) (h : Ens m Q) : Ens (grd c m) Q := fun P X hp => ⟨hc, h P X hp⟩
theorem en_opt {o : Option α} {a : α} {Q : α → Prop} (e : o = some a) (h : Q a) : Ens (opt o) Q := fun P X hp => ⟨a, e, hp a h⟩
theorem en_optE {o : Option α} {a : α} (e : o = some a) : Ens (opt o) (fun v => v = a) := en_opt e rfl
theorem en_sel {b : Bool} {m n : Wp α} {Q : α → Prop} (h1 : b = true → Ens m Q) (h2 : b = false → Ens n Q) : Ens (sel b m n) Q := by
  cases b with
  | true => exact h1 rfl
  | false => exact h2 rfl
theorem en_any {p : α → Prop} {Q : α → Prop} (h : ∀ a, p a → Q a) : Ens (anyW p) Q := fun P X hp a ha => hp a (h a ha)
theorem en_noX {m : Wp α} {Q : α → Prop} (h : Ens m Q) : Ens (noX m) Q := fun P X hp => h P _ hp
theorem en_letK {k : S → Wp F} {f : (S → Wp F) → Wp F} {Q : F → Prop} {I : S → Prop} (hk : ∀ s, I s → Ens (k s) Q) (hf : ∀ k' : S → Wp F, (∀ s, I s → Ens (k' s) Q) → Ens (f k') Q) : Ens (letK k f) Q := hf k hk
/-- a loop: an invariant by what is walked -/
theorem en_for {body : α → S → (S → Wp F) → (S → Wp F) → Wp F} {exit : S → Wp F} {Q : F → Prop} (I : List α → S → Prop) (xs : List α) {s : S} (h0 : I [] s)
    (hb : ∀ pre x post s k, xs = pre ++ x :: post → I pre s → (∀ s', I (pre ++ [x]) s' → Ens (k s') Q) → Ens (body x s k exit) Q) (hx : ∀ s, I xs s → Ens (exit s) Q) : Ens (forK body exit xs s) Q := by
  have : ∀ (post pre : List α) (s : S), xs = pre ++ post → I pre s → Ens (forK body exit post s) Q := by
    intro post
    induction post with
    | nil =>
      intro pre s e h
      rw [List.append_nil] at e
      exact hx s (e ▸ h)
    | cons x post ih =>
      intro pre s e h
      exact hb pre x post s _ e h fun s' h' => ih (pre ++ [x]) s' (by rw [e]; simp) h'
  exact this xs [] s rfl h0
theorem en_while {c : S → Wp Bool} {body : S → (S → Wp F) → (S → Wp F) → Wp F} {exit : S → Wp F} {Q : F → Prop} (I : S → Prop) (b : S → Bool) (μ : S → Nat) {s : S} (h0 : I s) (hc : ∀ s, I s → Ens (c s) (fun v => v = b s))
    (hb : ∀ s k, I s → b s = true → (∀ s', I s' → μ s' < μ s → Ens (k s') Q) → Ens (body s k exit) Q) (hx : ∀ s, I s → b s = false → Ens (exit s) Q) : Ens (whileW c body exit s) Q := by
  have : ∀ (n : Nat) (s : S), I s → μ s < n → Ens (whileK c body exit n s) Q := by
    intro n
    induction n with
    | zero => intro s _ h; omega
    | succ n ih =>
      intro s h hm
      exact en_bndE (hc s h) (en_sel (fun e => hb s _ h e fun s' h' hl => ih s' h' (by omega)) fun e => hx s h e)
  exact fun P X hp => ⟨μ s + 1, this _ s h0 (by omega) P X hp⟩
/-- a comprehension that is sure of its answer -/
theorem en_lcW {c : α → Wp Bool} {f : α → Wp β} {p : α → Bool} {g : α → β} : ∀ (xs : List α), (∀ x ∈ xs, Ens (c x) (fun v => v = p x)) → (∀ x ∈ xs, p x = true → Ens (f x) (fun v => v = g x)) → Ens (lcW c f xs) (fun v => v = (xs.filter p).map g)
  | [], _, _ => en_eq _
  | x :: xs, h1, h2 => by
    have ih := en_lcW xs (fun y hy => h1 y (List.mem_cons_of_mem _ hy)) fun y hy => h2 y (List.mem_cons_of_mem _ hy)
    refine en_bndE (h1 x List.mem_cons_self) (en_sel (fun e => ?_) fun e => ?_)
    · rw [List.filter_cons_of_pos e]
      exact en_bndE (h2 x List.mem_cons_self e) (en_bndE ih (en_eq _))
    · rw [List.filter_cons_of_neg (by rw [e]; decide)]
      exact ih
theorem en_lc {c : α → Wp Bool} {f : α → Wp β} (p : α → Bool) (g : α → β) (xs : List α) (hl : xs.length ≤ 16777216) (h1 : ∀ x ∈ xs, Ens (c x) (fun v => v = p x)) (h2 : ∀ x ∈ xs, p x = true → Ens (f x) (fun v => v = g x)) : Ens (lcG c f xs) (fun v => v = (xs.filter p).map g) :=
  en_grd hl (en_noX (en_lcW xs h1 h2))
theorem en_lcF {c : α → Wp Bool} {f : α → Wp α} (p : α → Bool) (xs : List α) (hl : xs.length ≤ 16777216) (h1 : ∀ x ∈ xs, Ens (c x) (fun v => v = p x)) (h2 : ∀ x ∈ xs, p x = true → Ens (f x) (fun v => v = x)) : Ens (lcG c f xs) (fun v => v = xs.filter p) := by
  have := en_lc p (fun x => x) xs hl h1 h2
  simpa using this
theorem en_app {xs : List α} {w : Wp α} {k : List α → Wp F} {R : α → Prop} {Q : F → Prop} (h : Ens w R) (hl : xs.length < 16777216) (hk : ∀ a, R a → Ens (k (xs ++ [a])) Q) : Ens (appW xs w k) Q := en_bnd h fun a ha => en_grd hl (hk a ha)
theorem rng_small {i : Int} (h0 : 0 ≤ i) (h1 : i < 1000000) : Rng i := ⟨by omega, by omega⟩
theorem mem_span {lo : Int} {n : Nat} {x : Int} : x ∈ span lo n ↔ lo ≤ x ∧ x < lo + n := by
  unfold span
  rw [List.mem_map]
  constructor
  · rintro ⟨k, hk, rfl⟩
    rw [List.mem_range] at hk
    omega
  · rintro ⟨h1, h2⟩
    exact ⟨(x - lo).toNat, List.mem_range.mpr (by omega), by omega⟩
end WL
/-! WL, part 12: comprehensions with two for. -/
namespace WL
open PySem PySem.Spec PyProof.Rows L2
section
variable {α β γ : Type} {C : Cn} [Tbs C.K] {Γ : List Ety}
def lc2W (c : α → Wp Bool) (w1 : α → Wp (List γ)) (c1 : α → γ → Wp Bool) (f : α → γ → Wp β) : Nat → List α → Wp (List β)
  | _, [] => ret []
  | n, x :: xs => bnd (c x) fun b => sel b (bnd (w1 x) fun us => grd (n + us.length ≤ 16777216) (bnd (lcW (c1 x) (f x) us) fun ys => bnd (lc2W c w1 c1 f (n + us.length) xs) fun zs => ret (ys ++ zs))) (lc2W c w1 c1 f n xs)
def lc2G (c : α → Wp Bool) (w1 : α → Wp (List γ)) (c1 : α → γ → Wp Bool) (f : α → γ → Wp β) (xs : List α) : Wp (List β) := noX (lc2W c w1 c1 f 0 xs)
theorem ev_lc2 {wi wi1 : TI} {g g1 : TG} {tt tt1 : TT} {te : TE} {vs vs1 : List Nat} {w : Wp (List α)} {e : α → PyData} {own : Nat → Bool} {c : α → Wp Bool} {w1 : α → Wp (List γ)} {e1 : γ → PyData} {own1 : α → Nat → Bool} {c1 : α → γ → Wp Bool} {f : α → γ → Wp β} {e' : β → PyData} {Γb : α → List Ety} {Γc : α → γ → List Ety}
    (hi : ItG C Γ wi w (fun r => r.map e) own) (hg : ∀ x, TgG C.K (unA Γ vs) g vs (e x) (Γb x)) (ht : ∀ x, EvT C.nox (Γb x) tt (c x))
    (hi1 : ∀ x, ItG C.nox (Γb x) wi1 (w1 x) (fun r => r.map e1) (own1 x)) (hg1 : ∀ x y, TgG C.K (unA (Γb x) vs1) g1 vs1 (e1 y) (Γc x y)) (ht1 : ∀ x y, EvT C.nox (Γc x y) tt1 (c1 x y)) (hf : ∀ x y, EvG C.nox (Γc x y) te (f x y) (fun r => RF C.K (e' r))) :
    EvG C Γ (tLc2 wi g tt wi1 g1 tt1 te vs vs1) (bnd w fun xs => lc2G c w1 c1 f xs) (fun r => RN (ls C.K (r.map e'))) := fun P X hw B σ H fp en ex Q q => by
  refine hi _ X hw B σ H fp en ex _ fun xs J H1 sup hp s1 ok hsup => ?_
  intro D hD
  have hD0 : H D = none := s1.back en.tps hD
  have offD : B.off D := s1.ts.new hD
  have hBD : B.H D = none := by
    cases z : B.H D with
    | none => rfl
    | some o =>
      obtain ⟨o', e', _⟩ := (en.step s1).fr D o z
      rw [hD] at e'; cases e'
  have nD : ∀ i, D ∉ fp i := fun i hm => by
    obtain ⟨S, hS⟩ := en.lt hm
    obtain ⟨v, _, ho⟩ := en.sl i S hS
    obtain ⟨o, eo, _⟩ := S.dom ho hm
    rw [hD0] at eo; cases eo
  have nsup : D ∉ sup := fun hm => by
    obtain ⟨_, o, eo⟩ := ok.sp D hm
    rw [hD] at eo; cases eo
  have hRD : ∀ r ∈ B.R, r.1 ≠ D := fun r hr z => rd_new ((en.step s1).rr r hr).1 (by rw [z]; exact hD)
  obtain ⟨fpw, enw, subw⟩ := (en.step s1).wiped vs
  refine ⟨fun i m H2 => m = xs.length - i ∧ i ≤ xs.length ∧ (∀ a o, H1 a = some o → B.off a → H2 a = some o) ∧ TpSt B H2 ∧ En B (unA Γ vs) (wipe σ vs) H2 fpw ∧ ∃ (n : Nat) (acc : List V) (ys : List β), H2 D = some (.lst acc) ∧ acc.length ≤ n ∧ FzAll C.K H2 acc (ys.map e') ∧
      lc2W c w1 c1 f n (xs.drop i) (fun zs => P (ys ++ zs)) (fun _ => False), ⟨xs.length, by omega, Nat.zero_le _, fun a o ea _ => ?_, ?_, ?_, 0, [], [], upd_same, Nat.le_refl _, .nil, hp⟩, ?_⟩
  · rw [upd_ne (ne_of_none ea hD)]
    exact ea
  · exact s1.ts.same (upd_keeps hD)
  · exact enw.step (.new s1.ts hD)
  rintro i m H2 ⟨rfl, hi', kp, ts2, en2, n, acc, ys, hacc, hal, hz, hlc⟩
  have kst : ∀ a o, H1 a = some o → (a ∈ sup ∨ still o = true) → H2 a = some o := fun a o ea z => by
    rcases z with z | z
    · exact kp a o ea (ok.sp a z).1
    · exact kp a o ea (s1.ts.notstill ea z)
  by_cases hlt : i < xs.length
  · obtain ⟨go, yld⟩ := ok.go i H2 kst (by rw [List.length_map]; exact hlt)
    refine .inr ⟨go, fun H' => ∃ m', m' < xs.length - i ∧ (m' = xs.length - (i + 1) ∧ i + 1 ≤ xs.length ∧ (∀ a o, H1 a = some o → B.off a → H' a = some o) ∧ TpSt B H' ∧ En B (unA Γ vs) (wipe σ vs) H' fpw ∧ ∃ (n : Nat) (acc : List V) (ys : List β), H' D = some (.lst acc) ∧ acc.length ≤ n ∧ FzAll C.K H' acc (ys.map e') ∧
      lc2W c w1 c1 f n (xs.drop (i + 1)) (fun zs => P (ys ++ zs)) (fun _ => False)), fun H' h => h, fun x H3 hy => ?_⟩
    obtain ⟨kp3, d, hd, hx⟩ := yld x H3 hy
    have ed : d = e xs[i] := by
      rw [List.getElem?_map, List.getElem?_eq_getElem hlt] at hd
      exact (Option.some.inj hd).symm
    subst ed
    have s3 : Stp B H2 H3 := .same ts2 kp3
    have en3 := en2.step s3
    refine (hg xs[i]).run B (wipe σ vs) H3 fpw x en3 hx _ fun σ4 fp4 en4 hw4 sub4 => ?_
    have nD4 : ∀ i, D ∉ fp4 i := fun i hm => by
      obtain ⟨j, hj⟩ := sub4 D i hm
      exact nD j (subw D j hj)
    have hdrop : xs.drop i = xs[i] :: xs.drop (i + 1) := List.drop_eq_getElem_cons hlt
    rw [hdrop] at hlc
    refine ⟨hw4.trans (wipe_idem vs σ), ?_⟩
    refine ht xs[i] _ (fun _ => False) hlc B σ4 H3 fp4 en4 (exok_no ex.tb) _ fun b H5 hb s5 => ?_
    have en5 := en4.step s5
    have s25 := s3.trans s5
    have kp5 : ∀ a o, H1 a = some o → B.off a → H5 a = some o := fun a o ea na => s25.kp a o (kp a o ea na) na
    cases b with
    | false =>
      refine iteF ?_
      exact ⟨xs.length - (i + 1), by omega, rfl, hlt, kp5, s5.ts, en2.step s25, n, acc, ys, s25.kp D _ hacc offD, hal, hz.stay (s25.stay ts2), hb⟩
    | true =>
      refine iteT ?_
      have hb : bnd (w1 xs[i]) _ _ _ := hb
      refine hi1 xs[i] _ (fun _ => False) hb B σ4 H5 fp4 en5 (exok_no ex.tb) _ fun us J1 H6 sup1 hus s6 ok1 hsup1 => ?_
      obtain ⟨hbound, hus⟩ := hus
      have s26 := s25.trans s6
      have hD5 : H5 D = some (.lst acc) := s25.kp D _ hacc offD
      have hD6 : H6 D = some (.lst acc) := s26.kp D _ hacc offD
      have nsup1 : D ∉ sup1 := fun hm => by
        rcases hsup1 D hm with h | ⟨i, _, h⟩ | ⟨r, h1, h2⟩
        · rw [hD5] at h; cases h
        · exact nD4 i h
        · exact hRD r h1 h2
      have en6 := en5.step s6
      obtain ⟨fpv, env, subv⟩ := en6.wiped vs1
      have nDv : ∀ i, D ∉ fpv i := fun i hm => nD4 i (subv D i hm)
      have kp6 : ∀ a o, H1 a = some o → B.off a → H6 a = some o := fun a o ea na => s6.kp a o (kp5 a o ea na) na
      refine ⟨fun j k H7 => k = us.length - j ∧ j ≤ us.length ∧ (∀ a o, H6 a = some o → a ≠ D → B.off a → H7 a = some o) ∧ TpSt B H7 ∧ En B (unA (Γb xs[i]) vs1) (wipe σ4 vs1) H7 fpv ∧ En B (unA Γ vs) (wipe σ vs) H7 fpw ∧ ∃ (acc : List V) (ys : List β), H7 D = some (.lst acc) ∧ acc.length ≤ n + j ∧ FzAll C.K H7 acc (ys.map e') ∧
        lcW (c1 xs[i]) (f xs[i]) (us.drop j) (fun zs => lc2W c w1 c1 f (n + us.length) (xs.drop (i + 1)) (fun rs => P (ys ++ (zs ++ rs))) (fun _ => False)) (fun _ => False), ⟨us.length, by omega, Nat.zero_le _, fun a o ea _ _ => ea, s6.ts, env, en2.step s26, acc, ys, hD6, by omega, hz.stay (s26.stay ts2), hus⟩, ?_⟩
      rintro j k H7 ⟨rfl, hj', kp7, ts7, en7, enw7, acc7, ys7, hacc7, hal7, hz7, hlc7⟩
      have kst7 : ∀ a o, H6 a = some o → (a ∈ sup1 ∨ still o = true) → H7 a = some o := fun a o ea z => by
        rcases z with z | z
        · exact kp7 a o ea (fun z' => nsup1 (z' ▸ z)) (ok1.sp a z).1
        · refine kp7 a o ea (fun z' => ?_) (s6.ts.notstill ea z)
          rw [z', hD6] at ea
          cases ea
          cases z
      by_cases hlt1 : j < us.length
      · obtain ⟨go1, yld1⟩ := ok1.go j H7 kst7 (by rw [List.length_map]; exact hlt1)
        refine .inr ⟨go1, fun H' => ∃ m', m' < us.length - j ∧ (m' = us.length - (j + 1) ∧ j + 1 ≤ us.length ∧ (∀ a o, H6 a = some o → a ≠ D → B.off a → H' a = some o) ∧ TpSt B H' ∧ En B (unA (Γb xs[i]) vs1) (wipe σ4 vs1) H' fpv ∧ En B (unA Γ vs) (wipe σ vs) H' fpw ∧ ∃ (acc : List V) (ys : List β), H' D = some (.lst acc) ∧ acc.length ≤ n + (j + 1) ∧ FzAll C.K H' acc (ys.map e') ∧
          lcW (c1 xs[i]) (f xs[i]) (us.drop (j + 1)) (fun zs => lc2W c w1 c1 f (n + us.length) (xs.drop (i + 1)) (fun rs => P (ys ++ (zs ++ rs))) (fun _ => False)) (fun _ => False)), fun H' h => h, fun x1 H8 hy1 => ?_⟩
        obtain ⟨kp8, d1, hd1, hx1⟩ := yld1 x1 H8 hy1
        have ed1 : d1 = e1 us[j] := by
          rw [List.getElem?_map, List.getElem?_eq_getElem hlt1] at hd1
          exact (Option.some.inj hd1).symm
        subst ed1
        have s8 : Stp B H7 H8 := .same ts7 kp8
        have en8 := en7.step s8
        refine (hg1 xs[i] us[j]).run B (wipe σ4 vs1) H8 fpv x1 en8 hx1 _ fun σ9 fp9 en9 hw9 sub9 => ?_
        have nD9 : ∀ i, D ∉ fp9 i := fun i hm => by
          obtain ⟨k, hk⟩ := sub9 D i hm
          exact nDv k hk
        have hdrop1 : us.drop j = us[j] :: us.drop (j + 1) := List.drop_eq_getElem_cons hlt1
        rw [hdrop1] at hlc7
        refine ⟨hw9.trans (wipe_idem vs1 σ4), ?_⟩
        refine ht1 xs[i] us[j] _ (fun _ => False) hlc7 B σ9 H8 fp9 en9 (exok_no ex.tb) _ fun b H10 hb1 s10 => ?_
        have en10 := en9.step s10
        have s710 := s8.trans s10
        have kp10 : ∀ a o, H6 a = some o → a ≠ D → B.off a → H10 a = some o := fun a o ea nd na => s710.kp a o (kp7 a o ea nd na) na
        cases b with
        | true =>
          refine iteT ?_
          refine hf xs[i] us[j] _ (fun _ => False) hb1 B σ9 H10 fp9 en10 (exok_no ex.tb) _ fun y v H11 hy6 s11 r11 => ?_
          have s711 := s710.trans s11
          have hD11 : H11 D = some (.lst acc7) := s711.kp D _ hacc7 offD
          have hz11 := hz7.stay (s711.stay ts7)
          have enw11 := enw7.step s711
          have env11 := en7.step s711
          have stE : Stay H11 (upd H11 D (.lst (acc7 ++ [v]))) := fun a o ea z => by
            have : a ≠ D := by
              rintro rfl
              rw [hD11] at ea; cases ea; cases z
            rw [upd_ne this]
            exact ea
          have enyw := enw11.side (o' := .lst (acc7 ++ [v])) hD11 rfl (fun i hm => nD i (subw D i hm)) offD hBD hRD
          have enyv := env11.side (o' := .lst (acc7 ++ [v])) hD11 rfl nDv offD hBD hRD
          refine ⟨acc7, hD11, lc_list_room _ (by omega), us.length - (j + 1), by omega, rfl, hlt1, fun a o ea nd na => ?_, enyw.tps, enyv, enyw, acc7 ++ [v], ys7 ++ [y], upd_same, ?_, ?_, ?_⟩
          · rw [upd_ne nd]
            exact s11.kp a o (kp10 a o ea nd na) na
          · rw [List.length_append, List.length_singleton]
            omega
          · rw [List.map_append]
            exact (hz11.stay stE).append (.one (Fz.stay stE r11))
          · have : (fun zs => lc2W c w1 c1 f (n + us.length) (xs.drop (i + 1)) (fun rs => P (ys7 ++ [y] ++ (zs ++ rs))) (fun _ => False)) = fun zs => lc2W c w1 c1 f (n + us.length) (xs.drop (i + 1)) (fun rs => P (ys7 ++ (y :: zs ++ rs))) (fun _ => False) := by
              funext zs
              congr 1
              funext rs
              rw [List.append_assoc]
              rfl
            rw [this]
            exact hy6
        | false =>
          refine iteF ?_
          exact ⟨us.length - (j + 1), by omega, rfl, hlt1, kp10, s10.ts, en7.step s710, enw7.step s710, acc7, ys7, s710.kp D _ hacc7 offD, by omega, hz7.stay (s710.stay ts7), hb1⟩
      · have ej : j = us.length := by omega
        subst ej
        rw [List.drop_length] at hlc7
        refine .inl ⟨ok1.stop _ H7 kst7 (by rw [List.length_map]; exact Nat.le_refl _), ?_⟩
        exact ⟨xs.length - (i + 1), by omega, rfl, hlt, fun a o ea na => kp7 a o (kp6 a o ea na) (fun z => by rw [z, hD] at ea; cases ea) na, ts7, enw7, n + us.length, acc7, ys7, hacc7, hal7, hz7, hlc7⟩
  · have ei : i = xs.length := by omega
    subst ei
    rw [List.drop_length] at hlc
    refine .inl ⟨ok.stop _ H2 kst (by rw [List.length_map]; exact Nat.le_refl _), ?_⟩
    have hP : P (ys ++ []) := hlc
    rw [List.append_nil] at hP
    refine q ys (.ref D) H2 hP ⟨fun a o ea na => kp a o (s1.kp a o ea na) na, ts2⟩ ⟨[D], ⟨D, acc, rfl, rfl, hacc, hz⟩, fun a ha => ?_⟩
    rw [List.mem_singleton.mp ha]
    exact hD0
theorem wipe_wide {σ σ' : List (Option V)} {v0 vs : List Nat} (h : wipe σ' v0 = wipe σ v0) (hs : ∀ i ∈ v0, i ∈ vs) : wipe σ' vs = wipe σ vs := by
  have hl : σ'.length = σ.length := by
    have := congrArg List.length h
    rwa [wipe_length, wipe_length] at this
  refine List.ext_getElem? fun j => ?_
  have hj : (wipe σ' v0)[j]? = (wipe σ v0)[j]? := by rw [h]
  rw [wipe_get, wipe_get] at hj ⊢
  by_cases hv : j ∈ vs
  · rw [if_pos hv, if_pos hv]
    by_cases hlt : j < σ.length
    · rw [List.getElem?_eq_getElem hlt, List.getElem?_eq_getElem (by omega)]
      rfl
    · rw [List.getElem?_eq_none (by omega), List.getElem?_eq_none (by omega)]
  · have h0 : j ∉ v0 := fun z => hv (hs j z)
    rw [if_neg h0, if_neg h0] at hj
    rw [if_neg hv, if_neg hv, hj]
theorem tg_wide {K : PySem.W.Frag} {g : TG} {v0 vs : List Nat} {d : PyData} {Γ' : List Ety} (h : TgG K Γ g v0 d Γ') (hs : ∀ i ∈ v0, i ∈ vs) : TgG K Γ g vs d Γ' :=
  ⟨fun B σ H fp v en hz Q q => h.run B σ H fp v en hz Q fun σ' fp' en' hw sub => q σ' fp' en' (wipe_wide hw hs) sub⟩
end
end WL
/-! WL, part 13: enumerate of a tuple. -/
namespace WL
open PySem PySem.Spec PyProof.Rows L2
end WL
/-! WL, part 14: lists of lists that are read; `in` for data. -/
namespace WL
open PySem PySem.Spec PyProof.Rows L2
section
variable {α β γ : Type} {C : Cn} [Tbs C.K] {Γ : List Ety} {K : PySem.W.Frag}
/-- lists at addresses -/
inductive LA (K : PySem.W.Frag) (H : Hp) : List Addr → List (List PyData) → Prop
  | nil : LA K H [] []
  | cons {r : Addr} {vs : List V} {ds : List PyData} {rs : List Addr} {dss : List (List PyData)} : H r = some (.lst vs) → FzAll K H vs ds → LA K H rs dss → LA K H (r :: rs) (ds :: dss)
theorem LA.keep {H H' : Hp} : ∀ {rs : List Addr} {dss : List (List PyData)}, LA K H rs dss → (∀ a o, H a = some o → (a ∈ rs ∨ still o = true) → H' a = some o) → LA K H' rs dss
  | _, _, .nil, _ => .nil
  | _, _, .cons h1 h2 h3, k => .cons (k _ _ h1 (.inl List.mem_cons_self)) (h2.stay fun a o e z => k a o e (.inr z)) (h3.keep fun a o e z => k a o e (z.imp (List.mem_cons_of_mem _) id))
theorem LA.snoc {H : Hp} {r : Addr} {vs : List V} {ds : List PyData} (h1 : H r = some (.lst vs)) (h2 : FzAll K H vs ds) : ∀ {rs : List Addr} {dss : List (List PyData)}, LA K H rs dss → LA K H (rs ++ [r]) (dss ++ [ds])
  | _, _, .nil => .cons h1 h2 .nil
  | _, _, .cons a b c => .cons a b (c.snoc h1 h2)
theorem LA.length {H : Hp} : ∀ {rs : List Addr} {dss : List (List PyData)}, LA K H rs dss → rs.length = dss.length
  | _, _, .nil => rfl
  | _, _, .cons _ _ h => congrArg Nat.succ h.length
theorem LA.at {H : Hp} : ∀ {rs : List Addr} {dss : List (List PyData)} {i : Nat} {ds : List PyData}, LA K H rs dss → dss[i]? = some ds → ∃ r vs, rs[i]? = some r ∧ H r = some (.lst vs) ∧ FzAll K H vs ds
  | _, _, 0, _, .cons a b _, e => by cases e; exact ⟨_, _, rfl, a, b⟩
  | _, _, i + 1, _, .cons _ _ c, e => c.at (i := i) e
  | _, _, 0, _, .nil, e => by cases e
  | _, _, _ + 1, _, .nil, e => by cases e
theorem LA.mem {H : Hp} : ∀ {rs : List Addr} {dss : List (List PyData)} {r : Addr}, LA K H rs dss → r ∈ rs → ∃ vs, H r = some (.lst vs)
  | _, _, _, .cons a b c, h => by
    rcases List.mem_cons.mp h with rfl | h
    · exact ⟨_, a⟩
    · exact c.mem h
def ls2 (K : PySem.W.Frag) (dss : List (List PyData)) : Sl where
  own := fun H v fp => ∃ (p : Addr) (rs : List Addr), v = .ref p ∧ fp = p :: rs ∧ (p :: rs).Nodup ∧ H p = some (.lst (rs.map V.ref)) ∧ LA K H rs dss
  ro := false
  dom := fun h ha => by
    obtain ⟨p, rs, _, e, _, hp, hl⟩ := h
    rw [e] at ha
    rcases List.mem_cons.mp ha with rfl | ha
    · exact ⟨_, hp, rfl⟩
    · obtain ⟨vs, hv⟩ := hl.mem ha
      exact ⟨_, hv, rfl⟩
  keep := fun h k => by
    obtain ⟨p, rs, e1, e2, nd, hp, hl⟩ := h
    exact ⟨p, rs, e1, e2, nd, k p _ hp (.inl (by rw [e2]; exact List.mem_cons_self)), hl.keep fun a o e z => k a o e (z.imp (fun m => by rw [e2]; exact List.mem_cons_of_mem _ m) id)⟩
def e2L (e : β → PyData) (r : List (List β)) : List (List PyData) := r.map fun x => x.map e
theorem ev_lcN {wi : TI} {g : TG} {tt : TT} {te : TE} {vs : List Nat} {w : Wp (List α)} {e : α → PyData} {own : Nat → Bool} {c : α → Wp Bool} {f : α → Wp (List β)} {e' : β → PyData} {Γb : α → List Ety} (hi : ItG C Γ wi w (fun r => r.map e) own)
    (hg : ∀ x, TgG C.K (unA Γ vs) g vs (e x) (Γb x)) (ht : ∀ x, EvT C.nox (Γb x) tt (c x)) (hf : ∀ x, EvG C.nox (Γb x) te (f x) (fun r => RN (ls C.K (r.map e')))) :
    EvG C Γ (tLc wi g tt te vs) (bnd w fun xs => lcG c f xs) (fun r => RN (ls2 C.K (e2L e' r))) := fun P X hw B σ H fp en ex Q q => by
  refine hi _ X hw B σ H fp en ex _ fun xs J H1 sup hp s1 ok hsup => ?_
  obtain ⟨hlen, hp⟩ := hp
  intro D hD
  have hD0 : H D = none := s1.back en.tps hD
  have offD : B.off D := s1.ts.new hD
  have hBD : B.H D = none := by
    cases z : B.H D with
    | none => rfl
    | some o =>
      obtain ⟨o', e', _⟩ := (en.step s1).fr D o z
      rw [hD] at e'; cases e'
  have nD : ∀ i, D ∉ fp i := fun i hm => by
    obtain ⟨S, hS⟩ := en.lt hm
    obtain ⟨v, _, ho⟩ := en.sl i S hS
    obtain ⟨o, eo, _⟩ := S.dom ho hm
    rw [hD0] at eo; cases eo
  have nsup : D ∉ sup := fun hm => by
    obtain ⟨_, o, eo⟩ := ok.sp D hm
    rw [hD] at eo; cases eo
  have hRD : ∀ r ∈ B.R, r.1 ≠ D := fun r hr z => rd_new ((en.step s1).rr r hr).1 (by rw [z]; exact hD)
  obtain ⟨fpw, enw, subw⟩ := (en.step s1).wiped vs
  refine ⟨fun i m H2 => m = xs.length - i ∧ i ≤ xs.length ∧ (∀ a o, H1 a = some o → B.off a → H2 a = some o) ∧ TpSt B H2 ∧ En B (unA Γ vs) (wipe σ vs) H2 fpw ∧ ∃ (rs : List Addr) (ys : List (List β)), H2 D = some (.lst (rs.map V.ref)) ∧ rs.length ≤ i ∧ LA C.K H2 rs (e2L e' ys) ∧ rs.Nodup ∧ (∀ r ∈ rs, B.off r ∧ H r = none ∧ r ≠ D) ∧
      lcW c f (xs.drop i) (fun zs => P (ys ++ zs)) (fun _ => False), ⟨xs.length, by omega, Nat.zero_le _, fun a o ea _ => ?_, ?_, ?_, [], [], upd_same, Nat.le_refl _, .nil, .nil, fun r hr => (by cases hr), hp⟩, ?_⟩
  · rw [upd_ne (ne_of_none ea hD)]
    exact ea
  · exact s1.ts.same (upd_keeps hD)
  · exact enw.step (.new s1.ts hD)
  rintro i m H2 ⟨rfl, hi', kp, ts2, en2, rs, ys, hacc, hal, hz, hnd, hrs, hlc⟩
  have kst : ∀ a o, H1 a = some o → (a ∈ sup ∨ still o = true) → H2 a = some o := fun a o ea z => by
    rcases z with z | z
    · exact kp a o ea (ok.sp a z).1
    · exact kp a o ea (s1.ts.notstill ea z)
  by_cases hlt : i < xs.length
  · obtain ⟨go, yld⟩ := ok.go i H2 kst (by rw [List.length_map]; exact hlt)
    refine .inr ⟨go, fun H' => ∃ m', m' < xs.length - i ∧ (m' = xs.length - (i + 1) ∧ i + 1 ≤ xs.length ∧ (∀ a o, H1 a = some o → B.off a → H' a = some o) ∧ TpSt B H' ∧ En B (unA Γ vs) (wipe σ vs) H' fpw ∧ ∃ (rs : List Addr) (ys : List (List β)), H' D = some (.lst (rs.map V.ref)) ∧ rs.length ≤ i + 1 ∧ LA C.K H' rs (e2L e' ys) ∧ rs.Nodup ∧ (∀ r ∈ rs, B.off r ∧ H r = none ∧ r ≠ D) ∧
      lcW c f (xs.drop (i + 1)) (fun zs => P (ys ++ zs)) (fun _ => False)), fun H' h => h, fun x H3 hy => ?_⟩
    obtain ⟨kp3, d, hd, hx⟩ := yld x H3 hy
    have ed : d = e xs[i] := by
      rw [List.getElem?_map, List.getElem?_eq_getElem hlt] at hd
      exact (Option.some.inj hd).symm
    subst ed
    have s3 : Stp B H2 H3 := .same ts2 kp3
    have en3 := en2.step s3
    refine (hg xs[i]).run B (wipe σ vs) H3 fpw x en3 hx _ fun σ4 fp4 en4 hw4 sub4 => ?_
    have hdrop : xs.drop i = xs[i] :: xs.drop (i + 1) := List.drop_eq_getElem_cons hlt
    rw [hdrop] at hlc
    refine ⟨hw4.trans (wipe_idem vs σ), ?_⟩
    refine ht xs[i] _ (fun _ => False) hlc B σ4 H3 fp4 en4 (exok_no ex.tb) _ fun b H5 hb s5 => ?_
    have en5 := en4.step s5
    have s25 := s3.trans s5
    have kp5 : ∀ a o, H1 a = some o → B.off a → H5 a = some o := fun a o ea na => s25.kp a o (kp a o ea na) na
    have up : ∀ {H'}, Stp B H2 H' → LA C.K H' rs (e2L e' ys) := fun s => hz.keep fun a o ea z => s.kp a o ea (z.elim (fun m => (hrs a m).1) fun st => ts2.notstill ea st)
    cases b with
    | true =>
      refine iteT ?_
      refine hf xs[i] _ (fun _ => False) hb B σ4 H5 fp4 en5 (exok_no ex.tb) _ fun y v H6 hy6 s6 r6 => ?_
      have s26 := s25.trans s6
      have hD5 : H5 D = some (.lst (rs.map V.ref)) := s25.kp D _ hacc offD
      have hD6 : H6 D = some (.lst (rs.map V.ref)) := s26.kp D _ hacc offD
      obtain ⟨fq, ⟨r, ws, rfl, efq, hr, hzr⟩, hfr⟩ := r6
      have hr5 : H5 r = none := hfr r (by rw [efq]; exact List.mem_singleton.mpr rfl)
      have offr : B.off r := s5.ts.new hr5
      have hr1 : H1 r = none := by
        cases z : H1 r with
        | none => rfl
        | some o => rw [kp5 r o z offr] at hr5; cases hr5
      have hrH : H r = none := s1.back en.tps hr1
      have hrD : r ≠ D := fun z => by rw [z, hD5] at hr5; cases hr5
      have enw6 : En B (unA Γ vs) (wipe σ vs) H6 fpw := en2.step s26
      have stE : Stay H6 (upd H6 D (.lst (rs.map V.ref ++ [V.ref r]))) := fun a o ea z => by
        have : a ≠ D := by
          rintro rfl
          rw [hD6] at ea; cases ea; cases z
        rw [upd_ne this]
        exact ea
      have eny := enw6.side (o' := .lst (rs.map V.ref ++ [V.ref r])) hD6 rfl (fun i hm => nD i (subw D i hm)) offD hBD hRD
      refine ⟨rs.map V.ref, hD6, lc_list_room _ (by rw [List.length_map]; omega), xs.length - (i + 1), by omega, rfl, hlt, fun a o ea na => ?_, eny.tps, eny, rs ++ [r], ys ++ [y], ?_, ?_, ?_, ?_, fun r' hr' => ?_, ?_⟩
      · have : a ≠ D := by
          rintro rfl
          rw [hD] at ea; cases ea
        rw [upd_ne this]
        exact s6.kp a o (kp5 a o ea na) na
      · rw [upd_same, List.map_append]
        rfl
      · rw [List.length_append, List.length_singleton]
        omega
      · unfold e2L
        rw [List.map_append]
        refine LA.snoc (by rw [upd_ne hrD]; exact hr) (hzr.stay stE) ((up s26).keep fun a o ea z => ?_)
        rcases z with z | z
        · rw [upd_ne (hrs a z).2.2]
          exact ea
        · exact stE a o ea z
      · rw [List.nodup_append]
        refine ⟨hnd, by simp, fun a ha b hb z => ?_⟩
        rw [List.mem_singleton.mp hb] at z
        have : r ∈ rs := z ▸ ha
        obtain ⟨ws', hw'⟩ := (up s25).mem this
        rw [hr5] at hw'
        cases hw'
      · rcases List.mem_append.mp hr' with h | h
        · exact hrs r' h
        · rw [List.mem_singleton.mp h]
          exact ⟨offr, hrH, hrD⟩
      · have : (fun zs => P (ys ++ [y] ++ zs)) = fun zs => P (ys ++ y :: zs) := by
          funext zs
          rw [List.append_assoc]
          rfl
        rw [this]
        exact hy6
    | false =>
      refine iteF ?_
      exact ⟨xs.length - (i + 1), by omega, rfl, hlt, kp5, s5.ts, en2.step s25, rs, ys, s25.kp D _ hacc offD, by omega, up s25, hnd, hrs, hb⟩
  · have ei : i = xs.length := by omega
    subst ei
    rw [List.drop_length] at hlc
    refine .inl ⟨ok.stop _ H2 kst (by rw [List.length_map]; exact Nat.le_refl _), ?_⟩
    have hP : P (ys ++ []) := hlc
    rw [List.append_nil] at hP
    refine q ys (.ref D) H2 hP ⟨fun a o ea na => kp a o (s1.kp a o ea na) na, ts2⟩ ⟨D :: rs, ⟨D, rs, rfl, rfl, List.nodup_cons.mpr ⟨fun hm => (hrs D hm).2.2 rfl, hnd⟩, hacc, hz⟩, fun a ha => ?_⟩
    rcases List.mem_cons.mp ha with rfl | ha
    · exact hD0
    · exact (hrs a ha).2.1
theorem units65 {k : Nat} {A : Around} (r : Room k A) : A.units + 65 < cLine := by have := r.un; omega
end
end WL
/-! WL, part 15: list(range(n)), tuple(range(n)). -/
namespace WL
open PySem PySem.Spec PyProof.Rows L2
section
variable {C : Cn} [Tbs C.K] {Γ : List Ety}
theorem fz_span {K : PySem.W.Frag} {H : Hp} : ∀ ns : List Int, FzAll K H (ns.map V.int) (ns.map eI)
  | [] => .nil
  | n :: ns => .cons (.int n) (fz_span ns)
end
end WL
/-! WL, part 16: data of any kind: isinstance, what it is, in, index, is. -/
namespace WL
open PySem PySem.Spec PyProof.Rows L2
section
variable {C : Cn} [Tbs C.K] {Γ : List Ety} {K : PySem.W.Frag} {α β γ F : Type}
/-! ### isinstance -/
/-! ### data as what it is -/
def asI : PyData → Option Int
  | .int i => some i
  | _ => none
def asS : PyData → Option Str
  | .str i => some i
  | _ => none
def asT : PyData → Option (List PyData)
  | .tuple ds => some ds
  | _ => none
theorem ev_as {t : TE} {w : Wp PyData} {f : PyData → Option α} {e : α → PyData} (h : EvG C Γ t w (fun r => RF C.K (eD r))) (hf : ∀ d a, f d = some a → d = e a) : EvG C Γ t (bnd w fun d => opt (f d)) (fun r => RF C.K (e r)) := fun P X hw B σ H fp en ex Q q =>
  h _ X hw B σ H fp en ex Q fun d v H' ⟨a, ha, hp⟩ s hv => q a v H' hp s (show Fz C.K H' v (e a) by rw [← hf d a ha]; exact hv)
theorem as_I : ∀ d a, asI d = some a → d = eI a := fun d a h => by cases d <;> cases h <;> rfl
theorem as_S : ∀ d a, asS d = some a → d = eS a := fun d a h => by cases d <;> cases h <;> rfl
theorem eT_eD (ds : List PyData) : eT eD ds = .tuple ds := by
  unfold eT
  congr 1
  exact List.map_id ds
theorem as_T : ∀ d a, asT d = some a → d = eT eD a := fun d a h => by cases d <;> cases h; exact (eT_eD _).symm
/-! ### in, a tuple of data -/
def rInTD (K : PySem.W.Frag) : R2 := fun x y H Q => ∃ d ds, Dp K H x d ∧ Dp K H y (.tuple ds) ∧ SeqAt.shaped d = true ∧ SeqAt.shaped (.tuple ds) = true ∧ Q (.bl (ds.any fun z => PyData.eqv z d)) H
theorem op_inTDK {X : Cx} (hK : X.K = K) (hu : X.A.units + 65 < cLine) : OpR X (compareOp .In) (rInTD K) := by
  subst hK
  intro pins s σ H x y v u Q I rx ry h
  obtain ⟨d, ds, hd, he, sd, se, q⟩ := h
  obtain ⟨as, r1⟩ := Dp.reads I d x v hd rx
  obtain ⟨bs, r2⟩ := Dp.reads I (.tuple ds) y u he ry
  have hc : PyData.canLayAll0 ds = true := by
    have := SeqAt.canLay_of_shaped se
    simpa [PyData.canLay0] using this
  exact SeqAt.in_tuple_reads r2 r1 hc (SeqAt.canLay_of_shaped sd) (room_in_shaped sd hu) ⟨.bl _, H, I, rfl, q⟩
/-- x in t, t a tuple or a list of data -/
def inD (d : PyData) (ds : List PyData) : Wp Bool := grd (SeqAt.shaped d = true ∧ SeqAt.shaped (.tuple ds) = true) (ret (ds.any fun z => PyData.eqv z d))
theorem o_inTD {e : α → PyData} {e' : β → PyData} (x : α) (xs : List β) : OpG C (rInTD C.K) (RF C.K (e x)) (RF C.K (eT e' xs)) (inD (e x) (xs.map e')) (fun r => RF C.K (eB r)) := fun P X hw B H0 H a b _ ts _ ha hb Q q =>
  ⟨e x, xs.map e', Fz.dp ha, Fz.dp hb, hw.1.1, hw.1.2, q _ _ H hw.2 (.refl ts) (.bl _)⟩
/-! ### is, of bools -/
theorem o_neB (i j : Bool) : OpG C rNe (RF C.K (eB i)) (RF C.K (eB j)) (ret (!decide (i = j))) (fun r => RF C.K (eB r)) := fun P X hw B H0 H x y _ ts _ hx hy Q q => by
  have e1 := Fz.bl_inv (b := i) hx
  have e2 := Fz.bl_inv (b := j) hy
  subst e1
  subst e2
  refine ⟨rfl, q _ _ H hw (.refl ts) ?_⟩
  rw [show decide (V.bl i = V.bl j) = decide (i = j) from by
    by_cases e : i = j
    · subst e; simp
    · rw [decide_eq_false e, decide_eq_false (fun z => e (V.bl.inj z))]]
  exact .bl _
/-! ### xs.index(x), a list of data -/
/-! ### xs.pop(i), a list of its own: a statement, or with its value kept -/
end
end WL
/-! WL, part 17: methods with the written part said apart; more of data; pop. -/
namespace WL
open PySem PySem.Spec PyProof.Rows L2
section
variable {X : Cx} {K : PySem.W.Frag} {o e : Expr} {to : TE} {t : TA} {name : Str} {apos cpos : Pos} {id : String} {r : V → List V → Hp → VK → Prop}
theorem pe_bmL (hK : X.K = K) (slot : Slot "list" name id) (hty : typeOf (.builtin id) = pure (.type "method_descriptor")) (hm : MtR X id r) (ho : PE X o to) (ha : PA X [e] t)
    (hbase : attributeBase o name X.env (eval o X.env) = eval o X.env := by rfl)
    (hfew : ((backTo cpos (starEach [e] X.env)).all (fun x => !x.1) && (backToKw cpos (keywordEach [] X.env)).all (fun x => x.1.isSome)
      && decide ([e].length + ([] : List Keyword).length + (if ([] : List Keyword).isEmpty then 0 else 1) < 30)) = true := by rfl)
    (hline : (apos.endLine == cpos.line) = true := by rfl) (hs : starEach [e] X.env = (false, eval e X.env) :: starEach [] X.env := by rfl) (hplain : (backTo cpos (starEach [] X.env)).any (·.1) = false := by rfl) :
    PE X (.Call (.Attribute o name apos) [e] [] cpos) (tBM K "list" r to t) := by
  subst hK
  exact pe_bm PySem.F.plainAttrs_list slot hty hm ho ha hbase hfew hline hs hplain
end
section
variable {C : Cn} [Tbs C.K] {Γ : List Ety} {K : PySem.W.Frag} {α β γ F : Type}
/-! ### pop -/
theorem map_erase (e : α → β) : ∀ (xs : List α) (a : Nat), (xs.eraseIdx a).map e = (xs.map e).eraseIdx a
  | [], a => by simp
  | x :: xs, 0 => by simp
  | x :: xs, a + 1 => by
    have ih := map_erase e xs a
    simp [ih]
theorem fz_erase {H1 : Hp} (vs : List V) (ds : List PyData) (a : Nat) (hz : FzAll K H1 vs ds) : FzAll K H1 (vs.eraseIdx a) (ds.eraseIdx a) := by
  rw [List.eraseIdx_eq_take_drop_succ, List.eraseIdx_eq_take_drop_succ]
  exact (hz.take a).append (hz.drop (a + 1))
end
end WL
/-! WL, part 18: more of dicts: len, get, truth, del, a copy, walks, comprehensions. -/
namespace WL
open PySem PySem.Spec PyProof.Rows L2
section
variable {C : Cn} [Tbs C.K] {Γ : List Ety} {K : PySem.W.Frag} {α β γ F : Type}
/-- n ** m, both written -/
theorem ev_powC {n m r : Int} (hn : CPow n m) (hr : n ^ m.toNat = r) : EvG C Γ (tOp (rI CPow fun i j => .int (i ^ j.toNat)) (tC (.int n)) (tC (.int m))) (ret r) (fun r => RF C.K (eI r)) := fun P X hw B σ H fp en ex Q q =>
  ⟨n, m, rfl, rfl, hn, q r _ H hw (.refl en.tps) (show Fz C.K H (.int (n ^ m.toNat)) (.int r) by rw [hr]; exact .int r)⟩
end
end WL
/-! WL, part 19: abs, t * k, xs + ys by name, len(set(xs)); lists of lists that change. -/
namespace WL
open PySem PySem.Spec PyProof.Rows L2
section
variable {C : Cn} [Tbs C.K] {Γ : List Ety} {K : PySem.W.Frag} {α β γ F : Type}
theorem c_abs (i : Int) : CaG C (fun xs H Q => ∃ i, xs = [V.int i] ∧ Q (.int (if i < 0 then -i else i)) H) [RF C.K (eI i)] (ret (if i < 0 then -i else i)) (fun r => RF C.K (eI r)) := fun P X hw B H0 H vs t0 ts hb h Q q => by
  cases h with
  | cons h1 h2 =>
    cases h2
    exact ⟨i, by rw [Fz.int_inv (n := i) h1], q _ _ H hw (.refl ts) (.int _)⟩
theorem op_repTK {X : Cx} (h : X.K = K) : OpR X (binaryOp .Mult) (rRepT K) := by subst h; exact op_repT
theorem o_repT {e : α → PyData} (xs : List α) (k : Int) : OpG C (rRepT C.K) (RF C.K (eT e xs)) (RF C.K (eI k)) (grd (xs ≠ [] ∧ 2 ≤ k ∧ k ≤ 1000 ∧ xs.length ≤ 1000) (ret (repL xs k))) (fun r => RF C.K (eT e r)) := fun P X hw B H0 H x y t0 ts hb hx hy Q q => by
  obtain ⟨a, vs, rfl, hs, hz⟩ := Fz.tup_inv hx
  have e1 := Fz.int_inv (n := k) hy
  subst e1
  have hl := hz.length
  rw [List.length_map] at hl
  refine ⟨a, k, vs, rfl, rfl, hs, fun z => hw.1.1 (List.length_eq_zero_iff.mp (by rw [← hl, z]; rfl)), hw.1.2.1, hw.1.2.2.1, by rw [hl]; exact hw.1.2.2.2, fun p hp => ?_⟩
  have s : Stp B H (upd H p (.tup (List.replicate k.toNat vs).flatten)) := .new ts hp
  have rep : ∀ n : Nat, FzAll C.K H (List.replicate n vs).flatten ((List.replicate n xs).flatten.map e) := fun n => by
    induction n with
    | zero => exact .nil
    | succ n ih =>
      rw [List.replicate_succ, List.replicate_succ, List.flatten_cons, List.flatten_cons, List.map_append]
      exact hz.append ih
  exact q _ _ _ hw.2 s (.tup (.inl (.inl upd_same)) ((rep k.toNat).stay (s.stay ts)))
/-- a list that stands as one: a name's own, or new -/
def RX (K : PySem.W.Frag) (ds : List PyData) : Rk := fun B _ H v => ∃ p vs, v = .ref p ∧ H p = some (.lst vs) ∧ B.off p ∧ FzAll K H vs ds
theorem st_X {ds : List PyData} : StR (RX K ds) := fun B H0 H1 H H' v _ t s ⟨p, vs, e, hs, ho, hz⟩ _ => ⟨p, vs, e, s.kp p _ hs ho, ho, hz.stay (s.stay t)⟩
theorem ev_lX {i : Nat} {e : α → PyData} (xs : List α) (h : Has Γ i (ls C.K (xs.map e))) : EvG C Γ (tVar i) (ret xs) (fun r => RX C.K (r.map e)) := fun P X hw B σ H fp en ex Q q => by
  obtain ⟨v, fq, hv, ⟨p, vs, rfl, e2, hp, hz⟩, hf⟩ := en.hold h
  exact ⟨_, hv, q xs _ H hw (.refl en.tps) ⟨p, vs, rfl, hp, hf p (by rw [e2]; exact List.mem_singleton.mpr rfl), hz⟩⟩
theorem EvG.rx {t : TE} {w : Wp α} {ds : α → List PyData} (h : EvG C Γ t w (fun a => RN (ls C.K (ds a)))) : EvG C Γ t w (fun a => RX C.K (ds a)) := fun P X hw B σ H fp en ex Q q =>
  h P X hw B σ H fp en ex Q fun r v H' hp s ⟨fp', ⟨p, vs, e1, e2, e3, hz⟩, hf⟩ => q r v H' hp s ⟨p, vs, e1, e3, en.tps.new (hf p (by rw [e2]; exact List.mem_singleton.mpr rfl)), hz⟩
theorem o_catX {e : α → PyData} (xs ys : List α) : OpG C rCat (RX C.K (xs.map e)) (RX C.K (ys.map e)) (grd (xs.length + ys.length ≤ 16777216) (ret (xs ++ ys))) (fun r => RN (ls C.K (r.map e))) := fun P X hw B H0 H x y t0 ts hb hx hy Q q => by
  obtain ⟨p, vs, rfl, hp, _, hz⟩ := hx
  obtain ⟨p', vs', rfl, hp', _, hz'⟩ := hy
  have hl := hz.length
  have hl' := hz'.length
  rw [List.length_map] at hl hl'
  refine ⟨p, p', vs, vs', rfl, rfl, hp, hp', by rw [hl, hl']; exact hw.1, fun l hn => ?_⟩
  have s : Stp B H (upd H l (.lst (vs ++ vs'))) := .new ts hn
  refine q _ _ _ hw.2 s ⟨[l], ⟨l, _, rfl, rfl, upd_same, ?_⟩, fun a ha => by rw [List.mem_singleton.mp ha]; exact hb l hn⟩
  rw [List.map_append]
  exact (hz.append hz').stay (s.stay ts)
theorem ev_opXX {r : R2} {ta tb : TE} {wa : Wp α} {wb : Wp β} {ea : α → List PyData} {eb : β → List PyData} {w : α → β → Wp γ} {R : γ → Rk} (ha : EvG C Γ ta wa (fun x => RX C.K (ea x))) (hb : EvG C Γ tb wb (fun x => RX C.K (eb x))) (hr : ∀ a b, OpG C r (RX C.K (ea a)) (RX C.K (eb b)) (w a b) R) :
    EvG C Γ (tOp r ta tb) (bnd wa fun a => bnd wb fun b => w a b) R := ev_op ha (fun _ => hb) hr (fun _ => st_X) (fun _ _ => st_X)
/-! ### len(set(xs)), ints -/
/-! ### lists of lists that change -/
/-- the row at j of one's own list of lists -/
theorem En.row2 {B : Bs} {σ : List (Option V)} {H : Hp} {fp : Nat → List Addr} {i : Nat} {e : β → PyData} {xss : List (List β)} (en : En B Γ σ H fp) (h : Γ[i]? = some (.sl (ls2 C.K (e2L e xss)))) :
    ∃ p rs, σ[i]? = some (some (.ref p)) ∧ fp i = p :: rs ∧ (p :: rs).Nodup ∧ H p = some (.lst (rs.map V.ref)) ∧ LA C.K H rs (e2L e xss) ∧ rs.length = xss.length := by
  obtain ⟨v, hv, p, rs, rfl, e2, nd, hp, hl⟩ := en.sl i _ h
  have hlen := hl.length
  unfold e2L at hlen
  rw [List.length_map] at hlen
  exact ⟨p, rs, hv, e2, nd, hp, hl, hlen⟩
theorem LA.row {H : Hp} {rs : List Addr} {e : β → PyData} {xss : List (List β)} (h : LA K H rs (e2L e xss)) {j : Nat} {row : List β} (hj : xss[j]? = some row) : ∃ r vs, rs[j]? = some r ∧ H r = some (.lst vs) ∧ FzAll K H vs (row.map e) := h.at (i := j) (ds := row.map e) (by unfold e2L; rw [List.getElem?_map, hj]; rfl)
theorem LA.set {H : Hp} {o : HO} {r : Addr} {vs : List V} {ds : List PyData} (ho : o = .lst vs) (hst : Stay H (upd H r o)) : ∀ {rs : List Addr} {dss : List (List PyData)} {j : Nat}, LA K H rs dss → rs.Nodup → rs[j]? = some r → FzAll K (upd H r o) vs ds → LA K (upd H r o) rs (dss.set j ds)
  | _, _, 0, .cons (rs := rs) h1 h2 h3, nd, e, hz => by
    cases e
    refine .cons (by rw [ho]; exact upd_same) hz (h3.keep fun a ob ea z => ?_)
    rcases z with z | z
    · rw [upd_ne (show a ≠ _ from fun q => (List.nodup_cons.mp nd).1 (by rw [← q]; exact z))]
      exact ea
    · exact hst a ob ea z
  | _, _, j + 1, .cons (r := r') (rs := rs) h1 h2 h3, nd, e, hz => by
    have hm : r ∈ rs := List.mem_of_getElem? (show rs[j]? = some r from e)
    refine .cons ?_ (h2.stay hst) (LA.set ho hst h3 (List.nodup_cons.mp nd).2 e hz)
    rw [upd_ne (show r' ≠ r from fun q => (List.nodup_cons.mp nd).1 (by rw [q]; exact hm))]
    exact h1
  | _, _, 0, .nil, _, e, _ => by cases e
  | _, _, _ + 1, .nil, _, e, _ => by cases e
/-- a row's content changes -/
theorem En.rerow {B : Bs} {σ : List (Option V)} {H : Hp} {fp : Nat → List Addr} {i j : Nat} {e : β → PyData} {xss : List (List β)} {row' : List β} {p r : Addr} {rs : List Addr} {vs vs' : List V} (en : En B Γ σ H fp) (h : Γ[i]? = some (.sl (ls2 C.K (e2L e xss)))) (hv : σ[i]? = some (some (.ref p))) (hf : fp i = p :: rs) (nd : (p :: rs).Nodup) (hp : H p = some (.lst (rs.map V.ref))) (hl : LA C.K H rs (e2L e xss))
    (hr : rs[j]? = some r) (hrv : H r = some (.lst vs)) (hz : FzAll C.K H vs' (row'.map e)) : En B (Γ.set i (.sl (ls2 C.K (e2L e (xss.set j row'))))) σ (upd H r (.lst vs')) fp := by
  have hm : r ∈ rs := List.mem_of_getElem? hr
  have hrp : r ≠ p := fun q => (List.nodup_cons.mp nd).1 (q ▸ hm)
  have hst : Stay H (upd H r (.lst vs')) := fun a o ea z => by
    rw [upd_ne (fun q => by rw [q, hrv] at ea; cases ea; cases z)]
    exact ea
  -- as En.mut, but the changed object is a row of the slot's own
  have hS := h
  have hi : i < Γ.length := (List.getElem?_eq_some_iff.mp hS).1
  have hown : (ls2 C.K (e2L e (xss.set j row'))).own (upd H r (.lst vs')) (.ref p) (fp i) := by
    refine ⟨p, rs, rfl, hf, nd, by rw [upd_ne (Ne.symm hrp)]; exact hp, ?_⟩
    have := LA.set (ds := row'.map e) rfl hst hl (List.nodup_cons.mp nd).2 hr (hz.stay hst)
    unfold e2L at this ⊢
    rw [List.map_set]
    exact this
  have hrfp : r ∈ fp i := by rw [hf]; exact List.mem_cons_of_mem _ hm
  have still_ne : ∀ a ob, H a = some ob → still ob = true → a ≠ r := fun a ob ea z q => by
    rw [q, hrv] at ea; cases ea; cases z
  refine ⟨by rw [List.length_set]; exact en.len, fun k T hk => ?_, fun k T hk => ?_, fun k hk => ?_, en.dis, en.nt, fun k a T hk hro ha => ?_, fun k K' ds hk => ?_, fun k T hk => ?_, fun q hq => ?_, fun a o' ea => ?_, fun t ht => ?_⟩
  · by_cases ek : k = i
    · subst ek
      rw [List.getElem?_set_self hi] at hk
      cases hk
      exact ⟨_, hv, hown⟩
    · rw [List.getElem?_set_ne (Ne.symm ek)] at hk
      obtain ⟨u, hu, hT⟩ := en.sl k T hk
      refine ⟨u, hu, T.keep hT fun a ob ea z => ?_⟩
      rw [upd_ne]
      · exact ea
      · rcases z with z | z
        · exact fun q => ek (en.dis k i a z (q ▸ hrfp))
        · exact still_ne a ob ea z
  · by_cases ek : k = i
    · subst ek
      rw [List.getElem?_set_self hi] at hk
      cases hk
    · rw [List.getElem?_set_ne (Ne.symm ek)] at hk
      exact en.tp k T hk
  · by_cases ek : k = i
    · subst ek
      exact absurd (List.getElem?_set_self hi) (hk _)
    · exact en.off k fun S'' z => hk S'' (by rw [List.getElem?_set_ne (Ne.symm ek)]; exact z)
  · by_cases ek : k = i
    · subst ek
      exact en.new k a _ hS rfl ha
    · rw [List.getElem?_set_ne (Ne.symm ek)] at hk
      exact en.new k a T hk hro ha
  · by_cases ek : k = i
    · subst ek
      rw [List.getElem?_set_self hi] at hk
      cases hk
    · rw [List.getElem?_set_ne (Ne.symm ek)] at hk
      obtain ⟨q, us, h1, h2, h3⟩ := en.rd k K' ds hk
      exact ⟨q, us, h1, h2, h3.stay hst⟩
  · by_cases ek : k = i
    · subst ek
      rw [List.getElem?_set_self hi] at hk
      cases hk
    · rw [List.getElem?_set_ne (Ne.symm ek)] at hk
      obtain ⟨u, fq, hu, hT, hR⟩ := en.rb k T hk
      refine ⟨u, fq, hu, T.keep hT fun a ob ea z => ?_, hR⟩
      rw [upd_ne]
      · exact ea
      · rcases z with z | z
        · obtain ⟨o', hm'⟩ := hR a z
          exact fun q => (en.rr _ hm').2.2 i (q ▸ hrfp)
        · exact still_ne a ob ea z
  · obtain ⟨h1, h2, h3⟩ := en.rr q hq
    exact ⟨rd_upd (fun z => h3 i (z ▸ hrfp)) h1, h2, h3⟩
  · obtain ⟨o2, e2, k1, k2⟩ := en.fr a o' ea
    by_cases z : a = r
    · subst z
      refine ⟨_, upd_same, fun n1 _ => ?_, fun z => ?_⟩
      · rcases en.new i a _ hS rfl hrfp with q | q
        · rw [ea] at q; cases q
        · exact absurd q n1
      · have e5 := k2 z
        subst e5
        rw [hrv] at e2
        cases e2
        cases z
    · exact ⟨o2, by rw [upd_ne z]; exact e2, k1, k2⟩
  · have hoff := en.nt i r hrfp t ht
    refine t.1.keep (en.tps t ht) fun a ob ea z => ?_
    rw [upd_ne]
    · exact ea
    · rcases z with z | z
      · exact fun q => hoff (q ▸ z)
      · exact still_ne a ob ea z
theorem atI_map {xs : List α} {f : α → β} {i : Int} {j : Nat} {x : α} (h : ixN xs.length i = some j) (hx : xs[j]? = some x) : atI (xs.map f) i = some (f x) := by
  unfold atI
  rw [List.length_map, h]
  show (xs.map f)[j]? = _
  rw [List.getElem?_map, hx]
  rfl
/-- the row at an index -/
def rowW (xss : List (List β)) (wi : Wp Int) (k : Nat → List β → Wp F) : Wp F := bnd wi fun ix => bnd (opt (ixN xss.length ix)) fun j => bnd (opt xss[j]?) fun row => k j row
def app2W (xss : List (List β)) (wi : Wp Int) (w : Wp β) (k : List (List β) → Wp F) : Wp F := rowW xss wi fun j row => bnd w fun x => grd (row.length < 16777216) (k (xss.set j (row ++ [x])))
theorem sb_append2 {res : F → Oc} {N Bk Ct : Cont F} {i : Nat} {ti te : TE} {e : β → PyData} {xss : List (List β)} {wi : Wp Int} {w : Wp β} {k : List (List β) → Wp F} (h : Γ[i]? = some (.sl (ls2 C.K (e2L e xss)))) (hi : EvG C Γ ti wi (fun r => RF C.K (eI r))) (he : EvG C Γ te w (fun r => RF C.K (e r)))
    (hk : ∀ ys, Lands N (Γ.set i (.sl (ls2 C.K (e2L e ys)))) (k ys)) : SimB C res N Bk Ct (tDrop (tBM C.K "list" rAppend (tOp (rIxL C.K) (tVar i) ti) (tCons te tNil))) Γ (app2W xss wi w k) := fun P X hm B D ex f n b c σ H fp en => by
  obtain ⟨p, rs, hv, hf, nd, hp, hl, hlen⟩ := En.row2 (C := C) en h
  refine ⟨_, hv, hi _ X hm B σ H fp en ex _ fun ix y H1 h1 s1 hix => ?_⟩
  have ei := Fz.int_inv (n := ix) hix
  subst ei
  obtain ⟨j, hj, row, hrow, h1⟩ := h1
  have en1 := en.step s1
  obtain ⟨p', rs', hv', hf', nd', hp', hl', hlen'⟩ := En.row2 (C := C) en1 h
  rw [hv] at hv'
  cases hv'
  obtain ⟨r, vs, g1, g2, g3⟩ := hl'.row hrow
  refine ⟨p, rs'.map V.ref, ix, .ref r, rfl, rfl, .inl (.inl hp'), atI_map (by rw [hlen']; exact hj) g1, .inl ⟨rfl, vs, .inl (.inl g2)⟩, he _ X h1 B σ H1 fp en1 ex _ fun x v H2 h2 s2 hx => ?_⟩
  have en2 := en1.step s2
  obtain ⟨p2, rs2, hv2, hf2, nd2, hp2, hl2, hlen2⟩ := En.row2 (C := C) en2 h
  rw [hv] at hv2
  cases hv2
  rw [hf'] at hf2
  cases hf2
  obtain ⟨r2, vs2, k1, k2, k3⟩ := hl2.row hrow
  rw [g1] at k1
  cases k1
  have hll := k3.length
  rw [List.length_map] at hll
  refine ⟨r, vs2, v, rfl, rfl, k2, by rw [hll]; exact lc_list_room _ h2.1, n _ _ (hk _ P X B σ _ fp h2.2 (en2.rerow h hv hf' nd2 hp2 hl2 g1 k2 ?_))⟩
  rw [List.map_append]
  exact k3.append (.one hx)
def pop2W (xss : List (List β)) (wi wz : Wp Int) (k : β → List (List β) → Wp F) : Wp F := rowW xss wi fun j row => bnd wz fun z => grd (-(2 ^ 63) ≤ z ∧ z < 2 ^ 63) (bnd (opt (ixN row.length z)) fun a => bnd (opt row[a]?) fun x => k x (xss.set j (row.eraseIdx a)))
/-- what a pop of a row does -/
theorem pop2_core {i : Nat} {ti tz : TE} {e : β → PyData} {xss : List (List β)} {wi wz : Wp Int} {k : β → List (List β) → Wp F} (h : Γ[i]? = some (.sl (ls2 C.K (e2L e xss)))) (hi : EvG C Γ ti wi (fun r => RF C.K (eI r))) (hz : EvG C Γ tz wz (fun r => RF C.K (eI r)))
    {P : F → Prop} {X : Xn → Prop} (hm : pop2W xss wi wz k P X) {B : Bs} {σ : List (Option V)} {H : Hp} {fp : Nat → List Addr} (en : En B Γ σ H fp) (ex : Exok C B X) {Q : VK}
    (q : ∀ x y ys H', k x ys P X → En B (Γ.set i (.sl (ls2 C.K (e2L e ys)))) σ H' fp → Fz C.K H' y (e x) → Q y H') : tBM C.K "list" rPopAt (tOp (rIxL C.K) (tVar i) ti) (tCons tz tNil) σ H Q := by
  obtain ⟨p, rs, hv, hf, nd, hp, hl, hlen⟩ := En.row2 (C := C) en h
  refine ⟨_, hv, hi _ X hm B σ H fp en ex _ fun ix y H1 h1 s1 hix => ?_⟩
  have ei := Fz.int_inv (n := ix) hix
  subst ei
  obtain ⟨j, hj, row, hrow, h1⟩ := h1
  have en1 := en.step s1
  obtain ⟨p', rs', hv', hf', nd', hp', hl', hlen'⟩ := En.row2 (C := C) en1 h
  rw [hv] at hv'
  cases hv'
  obtain ⟨r, vs, g1, g2, g3⟩ := hl'.row hrow
  refine ⟨p, rs'.map V.ref, ix, .ref r, rfl, rfl, .inl (.inl hp'), atI_map (by rw [hlen']; exact hj) g1, .inl ⟨rfl, vs, .inl (.inl g2)⟩, hz _ X h1 B σ H1 fp en1 ex _ fun z v H2 h2 s2 hx => ?_⟩
  have ez := Fz.int_inv (n := z) hx
  subst ez
  obtain ⟨hg, a, ha, x, hx2, h2⟩ := h2
  have en2 := en1.step s2
  obtain ⟨p2, rs2, hv2, hf2, nd2, hp2, hl2, hlen2⟩ := En.row2 (C := C) en2 h
  rw [hv] at hv2
  cases hv2
  rw [hf'] at hf2
  cases hf2
  obtain ⟨r2, vs2, k1, k2, k3⟩ := hl2.row hrow
  rw [g1] at k1
  cases k1
  have hll := k3.length
  rw [List.length_map] at hll
  obtain ⟨y, hy, hyz⟩ := k3.get (i := a) (d := e x) (by rw [List.getElem?_map, hx2]; rfl)
  have st : Stay H2 (upd H2 r (.lst (vs2.eraseIdx a))) := fun q o eq z => by
    rw [upd_ne (fun w => by rw [w, k2] at eq; cases eq; cases z)]
    exact eq
  refine ⟨r, vs2, z, a, y, rfl, rfl, k2, hg.1, hg.2, by rw [hll]; exact (ixN_seq ha).1, hy, q x y _ _ h2 (en2.rerow h hv hf' nd2 hp2 hl2 g1 k2 ?_) (hyz.stay st)⟩
  rw [map_erase]
  exact fz_erase _ _ _ k3
theorem sb_pop2Set {res : F → Oc} {N Bk Ct : Cont F} {i j : Nat} {ti tz : TE} {e : β → PyData} {xss : List (List β)} {wi wz : Wp Int} {k : β → List (List β) → Wp F} (h : Γ[i]? = some (.sl (ls2 C.K (e2L e xss)))) (hi : EvG C Γ ti wi (fun r => RF C.K (eI r))) (hz : EvG C Γ tz wz (fun r => RF C.K (eI r))) (hj : j < Γ.length)
    (hk : ∀ x ys, Lands N ((Γ.set i (.sl (ls2 C.K (e2L e ys)))).set j (.sl (fz C.K (e x)))) (k x ys)) : SimB C res N Bk Ct (tAsg (tBM C.K "list" rPopAt (tOp (rIxL C.K) (tVar i) ti) (tCons tz tNil)) (gName j)) Γ (pop2W xss wi wz k) := fun P X hm B D ex f n b c σ H fp en =>
  pop2_core h hi hz hm en ex fun x y ys H' hP en' hy => n _ _ (hk x ys P X B _ H' _ hP (en'.putF (by rw [List.length_set]; exact hj) hy))
end
end WL
/-! WL, part 20: things that stand for a while; lists of lists walked. -/
namespace WL
open PySem PySem.Spec PyProof.Rows L2
section
variable {C : Cn} [Tbs C.K] {Γ : List Ety} {K : PySem.W.Frag} {α β γ F : Type}
abbrev Bs.more (B : Bs) (R : List (Addr × HO)) : Bs := { B with R := R ++ B.R }
theorem En.addR {B : Bs} {σ : List (Option V)} {H : Hp} {fp : Nat → List Addr} (en : En B Γ σ H fp) (X : List (Addr × HO)) (hX : ∀ r ∈ X, Rd H r.1 r.2 ∧ B.off r.1 ∧ ∀ i, r.1 ∉ fp i) : En (B.more X) Γ σ H fp where
  len := en.len
  sl := en.sl
  tp := en.tp
  off := en.off
  dis := en.dis
  nt := en.nt
  new := en.new
  rd := fun i K' ds h => by
    obtain ⟨p, vs, h1, h2, h3⟩ := en.rd i K' ds h
    exact ⟨p, vs, h1.imp (fun z => List.mem_append_right _ z) id, h2, h3⟩
  rb := fun i S h => by
    obtain ⟨v, fq, h1, h2, h3⟩ := en.rb i S h
    exact ⟨v, fq, h1, h2, fun a ha => (h3 a ha).imp fun o ho => List.mem_append_right _ ho⟩
  rr := fun r hr => by
    rcases List.mem_append.mp hr with hr | hr
    · exact hX r hr
    · exact en.rr r hr
  fr := en.fr
  tps := en.tps
theorem En.unRb {B : Bs} {σ : List (Option V)} {H : Hp} {fp : Nat → List Addr} {i : Nat} {S : Sl} {v : V} {fq : List Addr} (en : En B Γ σ H fp) (hu : Γ[i]? = some .un) (hv : σ[i]? = some (some v)) (ho : S.own H v fq) (hq : ∀ a ∈ fq, ∃ o, (a, o) ∈ B.R) : En B (Γ.set i (.rb S)) σ H fp := by
  have hi : i < Γ.length := (List.getElem?_eq_some_iff.mp hu).1
  have get : ∀ (k : Nat) (t : Ety), (Γ.set i (.rb S))[k]? = some t → (k = i ∧ t = .rb S) ∨ (k ≠ i ∧ Γ[k]? = some t) := fun k t h => by
    by_cases e : k = i
    · subst e
      rw [List.getElem?_set_self hi] at h
      cases h
      exact .inl ⟨rfl, rfl⟩
    · rw [List.getElem?_set_ne (Ne.symm e)] at h
      exact .inr ⟨e, h⟩
  refine ⟨by rw [List.length_set]; exact en.len, fun k T h => ?_, fun k T h => ?_, fun k h => ?_, en.dis, en.nt, fun k a T h => ?_, fun k K' ds h => ?_, fun k T h => ?_, en.rr, en.fr, en.tps⟩
  · rcases get k _ h with ⟨_, h⟩ | ⟨_, h⟩
    · cases h
    · exact en.sl k T h
  · rcases get k _ h with ⟨_, h⟩ | ⟨_, h⟩
    · cases h
    · exact en.tp k T h
  · refine en.off k fun T hT => ?_
    by_cases e : k = i
    · rw [e, hu] at hT; cases hT
    · exact h T (by rw [List.getElem?_set_ne (Ne.symm e)]; exact hT)
  · rcases get k _ h with ⟨_, h⟩ | ⟨_, h⟩
    · cases h
    · exact en.new k a T h
  · rcases get k _ h with ⟨_, h⟩ | ⟨_, h⟩
    · cases h
    · exact en.rd k K' ds h
  · rcases get k _ h with ⟨e, h⟩ | ⟨_, h⟩
    · cases h
      exact ⟨v, fq, by rw [e]; exact hv, ho, hq⟩
    · exact en.rb k T h
theorem En.putRb {B : Bs} {σ : List (Option V)} {H : Hp} {fp : Nat → List Addr} {i : Nat} {S : Sl} {v : V} {fq : List Addr} (en : En B Γ σ H fp) (hi : i < Γ.length) (ho : S.own H v fq) (hq : ∀ a ∈ fq, ∃ o, (a, o) ∈ B.R) : En B (Γ.set i (.rb S)) (σ.set i (some v)) H (WL.put fp i []) := by
  have h := (en.drop i (some v)).unRb (i := i) (S := S) (List.getElem?_set_self hi) (List.getElem?_set_self (by rw [en.len]; exact hi)) ho hq
  rw [List.set_set] at h
  exact h
/-- what a name owns is set fast for a while -/
theorem ev_freeze {i : Nat} {S : Sl} {t : TE} {w : Wp α} {R : α → Rk} (h : Γ[i]? = some (.sl S)) (ht : EvG C (Γ.set i (.rb S)) t w R) (hR : ∀ r B Y H0 H v, R r (Bs.more B Y) H0 H v → R r B H0 H v) : EvG C Γ t w R := fun P X hw B σ H fp en ex Q q => by
  obtain ⟨v, hv, ho⟩ := en.sl i S h
  have en1 := (en.forget i).addR ((fp i).map fun a => (a, (H a).getD (.tup []))) fun r hr => by
    obtain ⟨a, ha, rfl⟩ := List.mem_map.mp hr
    obtain ⟨o, e, _⟩ := S.dom ho ha
    refine ⟨.inl ?_, en.nt i a ha, fun k hk => ?_⟩
    · show H a = some ((H a).getD (.tup []))
      rw [e]
      rfl
    · by_cases z : k = i
      · subst z
        rw [put_same] at hk; cases hk
      · rw [put_ne z] at hk
        exact z (en.dis k i a hk ha)
  have hi : i < Γ.length := (List.getElem?_eq_some_iff.mp h).1
  have en2 := en1.unRb (i := i) (S := S) (v := v) (fq := fp i) (List.getElem?_set_self hi) hv ho fun a ha => ⟨_, List.mem_append_left _ (List.mem_map.mpr ⟨a, ha, rfl⟩)⟩
  rw [List.set_set] at en2
  exact ht P X hw _ σ H _ en2 ⟨ex.tb, fun x v d H' a b c => ex.ok x v d H' a b c⟩ Q fun r v H' hp s hr => q r v H' hp ⟨s.kp, s.ts⟩ (hR r _ _ _ _ _ hr)
/-- S is a list of things of the kinds Ss -/
def Nest (S : Sl) (Ss : List Sl) : Prop := ∀ (H : Hp) (v : V) (fq : List Addr), S.own H v fq → ∃ p vs, v = .ref p ∧ p ∈ fq ∧ H p = some (.lst vs) ∧ vs.length = Ss.length ∧ ∀ (j : Nat) (T : Sl), Ss[j]? = some T → ∃ x fx, vs[j]? = some x ∧ T.own H x fx ∧ ∀ a ∈ fx, a ∈ fq
theorem nest2 {e : β → PyData} (xss : List (List β)) : Nest (ls2 K (e2L e xss)) (xss.map fun x => ls K (x.map e)) := fun H v fq ⟨p, rs, e1, efq, nd, hp, hl⟩ => by
  have hll := hl.length
  unfold e2L at hll
  rw [List.length_map] at hll
  refine ⟨p, rs.map V.ref, e1, by rw [efq]; simp, hp, by rw [List.length_map, List.length_map, hll], fun j T hT => ?_⟩
  rw [List.getElem?_map] at hT
  cases hx : xss[j]? with
  | none => rw [hx] at hT; cases hT
  | some row =>
    rw [hx] at hT
    cases hT
    obtain ⟨r, vs, g1, g2, g3⟩ := hl.row hx
    exact ⟨.ref r, [r], by rw [List.getElem?_map, g1]; rfl, ⟨r, vs, rfl, rfl, g2, g3⟩, fun a ha => by rw [List.mem_singleton.mp ha, efq]; exact List.mem_cons_of_mem _ (List.mem_of_getElem? g1)⟩
/-- [.. for row in rows], rows lists of lists that stand -/
theorem ev_lcNest {i j : Nat} {tt : TT} {te : TE} {S : Sl} {Sf : α → Sl} (xss : List α) {c : α → Wp Bool} {f : α → Wp γ} {e' : γ → PyData} (h : Γ[i]? = some (.rb S)) (hN : Nest S (xss.map Sf)) (hj : j < Γ.length) (hij : i ≠ j)
    (ht : ∀ x, EvT C.nox ((Γ.set j .un).set j (.rb (Sf x))) tt (c x)) (hf : ∀ x, EvG C.nox ((Γ.set j .un).set j (.rb (Sf x))) te (f x) (fun r => RF C.K (e' r))) :
    EvG C Γ (tLc (iList C.K (tVar i)) (gName j) tt te [j]) (bnd (ret xss) fun xs => lcG c f xs) (fun r => RN (ls C.K (r.map e'))) := fun P X hw B σ H fp en ex Q q => by
  obtain ⟨hlen, hp⟩ := hw
  obtain ⟨v, fq, hv, hown, hq⟩ := en.rb i _ h
  obtain ⟨p, vs0, rfl, hpq, hpp, hll, hat⟩ := hN _ _ _ hown
  rw [List.length_map] at hll
  refine ⟨_, hv, p, rfl, ⟨_, .inl (.inl hpp)⟩, ?_⟩
  have inR : ∀ a ∈ fq, B.off a ∧ (∀ k, a ∉ fp k) ∧ ∃ o, (a, o) ∈ B.R := fun a ha => by
    obtain ⟨o, hm⟩ := hq a ha
    obtain ⟨h1, h2, h3⟩ := en.rr _ hm
    exact ⟨h2, h3, o, hm⟩
  intro D hD
  have offD : B.off D := en.tps.new hD
  have hBD : B.H D = none := by
    cases z : B.H D with
    | none => rfl
    | some o =>
      obtain ⟨o', e', _⟩ := en.fr D o z
      rw [hD] at e'; cases e'
  have nD : ∀ k, D ∉ fp k := fun k hm => by
    obtain ⟨S, hS⟩ := en.lt hm
    obtain ⟨v, _, ho⟩ := en.sl k S hS
    obtain ⟨o, eo, _⟩ := S.dom ho hm
    rw [hD] at eo; cases eo
  have hRD : ∀ r ∈ B.R, r.1 ≠ D := fun r hr z => rd_new (en.rr r hr).1 (by rw [z]; exact hD)
  obtain ⟨fpw, enw, subw⟩ := en.wiped [j]
  refine ⟨fun a m H2 => m = xss.length - a ∧ a ≤ xss.length ∧ (∀ a o, H a = some o → B.off a → H2 a = some o) ∧ TpSt B H2 ∧ En B (unA Γ [j]) (wipe σ [j]) H2 fpw ∧ ∃ (acc : List V) (ys : List γ), H2 D = some (.lst acc) ∧ acc.length ≤ a ∧ FzAll C.K H2 acc (ys.map e') ∧
      lcW c f (xss.drop a) (fun zs => P (ys ++ zs)) (fun _ => False), ⟨xss.length, by omega, Nat.zero_le _, fun a o ea _ => ?_, ?_, ?_, [], [], upd_same, Nat.le_refl _, .nil, hp⟩, ?_⟩
  · rw [upd_ne (ne_of_none ea hD)]
    exact ea
  · exact en.tps.same (upd_keeps hD)
  · exact enw.step (.new en.tps hD)
  rintro a m H2 ⟨rfl, ha', kp, ts2, en2, acc, ys, hacc, hal, hz, hlc⟩
  have hp2 : H2 p = some (.lst vs0) := kp p _ hpp (inR p hpq).1
  by_cases hlt : a < xss.length
  · have hra : a < vs0.length := by omega
    refine .inr ⟨⟨vs0, vs0[a], .inl (.inl hp2), List.getElem?_eq_getElem hra⟩, fun H' => ∃ m', m' < xss.length - a ∧ (m' = xss.length - (a + 1) ∧ a + 1 ≤ xss.length ∧ (∀ a o, H a = some o → B.off a → H' a = some o) ∧ TpSt B H' ∧ En B (unA Γ [j]) (wipe σ [j]) H' fpw ∧ ∃ (acc : List V) (ys : List γ), H' D = some (.lst acc) ∧ acc.length ≤ a + 1 ∧ FzAll C.K H' acc (ys.map e') ∧
      lcW c f (xss.drop (a + 1)) (fun zs => P (ys ++ zs)) (fun _ => False)), fun H' h => h, fun x H3 hy => ?_⟩
    obtain ⟨rfl, hx⟩ := hy
    have hx := hx _ (.inl (.inl hp2))
    obtain ⟨x', fx, g1, g2, g3⟩ := hat a (Sf xss[a]) (by rw [List.getElem?_map, List.getElem?_eq_getElem hlt]; rfl)
    rw [hx] at g1
    cases g1
    have own3 : (Sf xss[a]).own H3 x fx := (Sf xss[a]).keep g2 fun b o eb z => by
      rcases z with z | z
      · exact kp b o eb (inR b (g3 b z)).1
      · exact kp b o eb (en.tps.notstill eb z)
    have en4 := en2.putRb (i := j) (S := Sf xss[a]) (by show j < ((unA Γ []).set j .un).length; rw [List.length_set]; exact hj) own3 fun b hb => by
      obtain ⟨_, _, ob, o5⟩ := inR b (g3 b hb)
      exact ⟨ob, o5⟩
    have hdrop : xss.drop a = xss[a] :: xss.drop (a + 1) := List.drop_eq_getElem_cons hlt
    rw [hdrop] at hlc
    refine ⟨?_, ?_⟩
    · show wipe ((wipe σ [j]).set j _) [j] = _
      rw [wipe1]
      exact wipe_idem [j] σ
    have nD4 : ∀ k, D ∉ put fpw j [] k := fun k hm => by
      by_cases z : k = j
      · subst z
        rw [put_same] at hm; cases hm
      · rw [put_ne z] at hm
        exact nD k (subw D k hm)
    refine ht xss[a] _ (fun _ => False) hlc B _ H3 _ en4 (exok_no ex.tb) _ fun b H5 hb s5 => ?_
    have en5 := en4.step s5
    have kp5 : ∀ a o, H a = some o → B.off a → H5 a = some o := fun a o ea na => s5.kp a o (kp a o ea na) na
    cases b with
    | true =>
      refine iteT ?_
      refine hf xss[a] _ (fun _ => False) hb B _ H5 _ en5 (exok_no ex.tb) _ fun y v H6 hy6 s6 r6 => ?_
      have s36 := s5.trans s6
      have hD6 : H6 D = some (.lst acc) := s36.kp D _ hacc offD
      have hz6 := hz.stay (s36.stay ts2)
      have enw6 : En B (unA Γ [j]) (wipe σ [j]) H6 fpw := en2.step s36
      have stE : Stay H6 (upd H6 D (.lst (acc ++ [v]))) := fun a o ea z => by
        have : a ≠ D := by
          rintro rfl
          rw [hD6] at ea; cases ea; cases z
        rw [upd_ne this]
        exact ea
      have eny := enw6.side (o' := .lst (acc ++ [v])) hD6 rfl (fun i hm => nD i (subw D i hm)) offD hBD hRD
      refine ⟨acc, hD6, lc_list_room _ (by omega), xss.length - (a + 1), by omega, rfl, hlt, fun b o ea na => ?_, eny.tps, eny, acc ++ [v], ys ++ [y], upd_same, ?_, ?_, ?_⟩
      · have : b ≠ D := by
          rintro rfl
          rw [hD] at ea; cases ea
        rw [upd_ne this]
        exact s6.kp b o (kp5 b o ea na) na
      · rw [List.length_append, List.length_singleton]
        omega
      · rw [List.map_append]
        exact (hz6.stay stE).append (.one (Fz.stay stE r6))
      · have : (fun zs => P (ys ++ [y] ++ zs)) = fun zs => P (ys ++ y :: zs) := by
          funext zs
          rw [List.append_assoc]
          rfl
        rw [this]
        exact hy6
    | false =>
      refine iteF ?_
      exact ⟨xss.length - (a + 1), by omega, rfl, hlt, kp5, s5.ts, en2.step s5, acc, ys, s5.kp D _ hacc offD, by omega, hz.stay (s5.stay ts2), hb⟩
  · have ei : a = xss.length := by omega
    subst ei
    rw [List.drop_length] at hlc
    refine .inl ⟨⟨vs0, .inl (.inl hp2), by omega⟩, ?_⟩
    have hP : P (ys ++ []) := hlc
    rw [List.append_nil] at hP
    refine q ys (.ref D) H2 hP ⟨fun a o ea na => kp a o ea na, ts2⟩ ⟨[D], ⟨D, acc, rfl, rfl, hacc, hz⟩, fun a ha => ?_⟩
    rw [List.mem_singleton.mp ha]
    exact hD
/-- a borrowed list, read -/
theorem ev_b {i : Nat} {e : α → PyData} (xs : List α) (h : Γ[i]? = some (.rb (ls C.K (xs.map e)))) : EvG C Γ (tVar i) (ret xs) (fun r => RL C.K (r.map e)) := fun P X hw B σ H fp en ex Q q => by
  obtain ⟨v, fq, hv, ⟨p, vs, rfl, e2, hp, hz⟩, hf⟩ := en.hold (.inr h)
  exact ⟨_, hv, q xs _ H hw (.refl en.tps) ⟨p, vs, rfl, .inl ⟨.inl hp, hf p (by rw [e2]; exact List.mem_singleton.mpr rfl)⟩, hz⟩⟩
end
end WL
/-! WL, part 21: lists of lists of lists; things that move into others, into a call. -/
namespace WL
open PySem PySem.Spec PyProof.Rows L2
section
variable {C : Cn} [Tbs C.K] {Γ : List Ety} {K : PySem.W.Frag} {α β γ ι F : Type}
/-- an object that nobody of the names owns is changed (it may be one that may change) -/
theorem En.side2 {B : Bs} {σ : List (Option V)} {H : Hp} {fp : Nat → List Addr} (en : En B Γ σ H fp) {D : Addr} {o o' : HO} (hD : H D = some o) (ho : still o = false) (hn : ∀ i, D ∉ fp i) (ht : B.off D) (hb : B.H D = none ∨ D ∈ B.O) (hR : ∀ r ∈ B.R, r.1 ≠ D) : En B Γ σ (upd H D o') fp where
  len := en.len
  sl := fun i S hS => by
    obtain ⟨v, hv, h⟩ := en.sl i S hS
    refine ⟨v, hv, S.keep h fun a ob e z => ?_⟩
    have : a ≠ D := by
      rintro rfl
      rcases z with z | z
      · exact hn i z
      · rw [hD] at e
        cases e
        rw [ho] at z; cases z
    rw [upd_ne this]
    exact e
  tp := en.tp
  off := en.off
  dis := en.dis
  nt := en.nt
  new := en.new
  rd := fun j K' ds hj => by
    obtain ⟨r, us, h1, h2, h3⟩ := en.rd j K' ds hj
    refine ⟨r, us, h1, h2, h3.stay fun a ob ea z => ?_⟩
    have : a ≠ D := by
      rintro rfl
      rw [hD] at ea
      cases ea
      rw [ho] at z; cases z
    rw [upd_ne this]
    exact ea
  rb := fun j T hj => by
    obtain ⟨u, fq, hu, hT, hq⟩ := en.rb j T hj
    refine ⟨u, fq, hu, T.keep hT fun a ob ea z => ?_, hq⟩
    have : a ≠ D := by
      rintro rfl
      rcases z with z | z
      · obtain ⟨o', hm⟩ := hq a z
        exact hR _ hm rfl
      · rw [hD] at ea
        cases ea
        rw [ho] at z; cases z
    rw [upd_ne this]
    exact ea
  rr := fun r hr => by
    obtain ⟨h1, h2, h3⟩ := en.rr r hr
    exact ⟨rd_upd (hR r hr) h1, h2, h3⟩
  fr := fun a ob e => by
    obtain ⟨o2, e2, k1, k2⟩ := en.fr a ob e
    by_cases z : a = D
    · subst z
      refine ⟨_, upd_same, fun n1 _ => ?_, fun z => ?_⟩
      · rcases hb with q | q
        · rw [e] at q; cases q
        · exact absurd q n1
      · have e5 := k2 z
        subst e5
        rw [hD] at e2
        cases e2
        rw [ho] at z; cases z
    · exact ⟨o2, by rw [upd_ne z]; exact e2, k1, k2⟩
  tps := fun t h => by
    refine t.1.keep (en.tps t h) fun a ob ea z => ?_
    have : a ≠ D := by
      rintro rfl
      rcases z with z | z
      · exact ht t h z
      · rw [hD] at ea
        cases ea
        rw [ho] at z; cases z
    rw [upd_ne this]
    exact ea
/-- a name's thing changes at p, and owns other objects then -/
theorem En.regrow {B : Bs} {σ : List (Option V)} {H : Hp} {fp : Nat → List Addr} {i : Nat} {S S' : Sl} {v : V} {p : Addr} {o o0 : HO} {q : List Addr} (en : En B Γ σ H fp) (hS : Γ[i]? = some (.sl S)) (ro : S.ro = false) (hv : σ[i]? = some (some v)) (hp : p ∈ fp i) (hpo : H p = some o0) (h0 : still o0 = false) (hown : S'.own (upd H p o) v q)
    (hd : ∀ a ∈ q, ∀ k, a ∈ fp k → k = i) (ht : ∀ a ∈ q, B.off a) (hn : ∀ a ∈ q, B.H a = none ∨ a ∈ B.O) (hR : ∀ r ∈ B.R, r.1 ∉ q) : En B (Γ.set i (.sl S')) σ (upd H p o) (WL.put fp i q) := by
  have hi : i < Γ.length := (List.getElem?_eq_some_iff.mp hS).1
  have en1 := en.forget i
  have en2 := en1.side2 (D := p) (o' := o) hpo h0 (fun k hk => by
    by_cases z : k = i
    · subst z
      rw [put_same] at hk; cases hk
    · rw [put_ne z] at hk
      exact z (en.dis k i p hk hp)) (en.nt i p hp) (en.new i p S hS ro hp) fun r hr z => (en.rr r hr).2.2 i (by rw [z]; exact hp)
  have en3 := en2.put (i := i) (S := S') (v := v) (q := q) (by rw [List.length_set]; exact hi) hown (fun a ha k hk => by
    by_cases z : k = i
    · exact z
    · rw [put_ne z] at hk
      exact hd a ha k hk) ht (fun _ => hn) hR
  rw [List.set_set, set_id σ i _ hv] at en3
  have e : WL.put (WL.put fp i []) i q = WL.put fp i q := by
    funext k
    by_cases z : k = i
    · subst z
      rw [put_same, put_same]
    · rw [put_ne z, put_ne z, put_ne z]
  rw [e] at en3
  exact en3
/-- [] of lists -/
theorem ev_new2 {e : β → PyData} : EvG C Γ (tLst tNil) (ret ([] : List (List β))) (fun r => RN (ls2 C.K (e2L e r))) := fun P X hw B σ H fp en ex Q q =>
  ⟨Nat.zero_le _, fun p hp => q [] (.ref p) _ hw (.new en.tps hp) ⟨[p], ⟨p, [], rfl, rfl, by simp, upd_same, .nil⟩, fun a ha => by rw [List.mem_singleton.mp ha]; exact hp⟩⟩
/-- xss.append(a new list) -/
theorem sb_appN {res : F → Oc} {N Bk Ct : Cont F} {i : Nat} {te : TE} {e : β → PyData} {xss : List (List β)} {w : Wp (List β)} {k : List (List β) → Wp F} (h : Γ[i]? = some (.sl (ls2 C.K (e2L e xss)))) (he : EvG C Γ te w (fun r => RN (ls C.K (r.map e))))
    (hk : ∀ ys, Lands N (Γ.set i (.sl (ls2 C.K (e2L e ys)))) (k ys)) : SimB C res N Bk Ct (tDrop (tBM C.K "list" rAppend (tVar i) (tCons te tNil))) Γ (appW xss w k) := fun P X hm B D ex f n b c σ H fp en => by
  obtain ⟨p, rs, hv, hf, nd, hp, hl, hlen⟩ := En.row2 (C := C) en h
  refine ⟨_, hv, .inl ⟨rfl, _, .inl (.inl hp)⟩, he _ X hm B σ H fp en ex _ fun x v H1 hpx s1 hx => ?_⟩
  have en1 := en.step s1
  obtain ⟨p', rs', hv', hf', nd', hp', hl', hlen'⟩ := En.row2 (C := C) en1 h
  rw [hv] at hv'
  cases hv'
  rw [hf] at hf'
  cases hf'
  obtain ⟨fq, ⟨r, vs, rfl, efq, hr, hz⟩, hfr⟩ := hx
  have hrn : H r = none := hfr r (by rw [efq]; exact List.mem_singleton.mpr rfl)
  have old : ∀ a ∈ fp i, ∃ o, H a = some o := fun a ha => by
    obtain ⟨u, _, ho⟩ := en.sl i _ h
    obtain ⟨o, e, _⟩ := (ls2 C.K (e2L e xss)).dom ho ha
    exact ⟨o, e⟩
  have hrf : r ∉ p :: rs := fun hm => by
    obtain ⟨o, e⟩ := old r (by rw [hf]; exact hm)
    rw [hrn] at e; cases e
  have hrp : r ≠ p := fun z => hrf (by rw [z]; exact List.mem_cons_self)
  have st : Stay H1 (upd H1 p (.lst (rs.map V.ref ++ [V.ref r]))) := fun a o ea z => by
    rw [upd_ne (fun q => by rw [q, hp'] at ea; cases ea; cases z)]
    exact ea
  have hown : (ls2 C.K (e2L e (xss ++ [x]))).own (upd H1 p (.lst (rs.map V.ref ++ [V.ref r]))) (.ref p) (p :: (rs ++ [r])) := by
    refine ⟨p, rs ++ [r], rfl, rfl, ?_, ?_, ?_⟩
    · rw [← List.cons_append, List.nodup_append]
      refine ⟨nd, by simp, fun a ha b hb z => hrf ?_⟩
      rw [List.mem_singleton.mp hb] at z
      exact z ▸ ha
    · rw [upd_same, List.map_append]
      rfl
    · unfold e2L
      rw [List.map_append]
      refine LA.snoc (by rw [upd_ne hrp]; exact hr) (hz.stay st) (hl'.keep fun a o ea z => ?_)
      rcases z with z | z
      · rw [upd_ne (show a ≠ p from fun q => (List.nodup_cons.mp nd).1 (by rw [← q]; exact z))]
        exact ea
      · exact st a o ea z
  have inq : ∀ a ∈ p :: (rs ++ [r]), a ∈ fp i ∨ a = r := fun a ha => by
    rw [← List.cons_append] at ha
    rcases List.mem_append.mp ha with ha | ha
    · exact .inl (by rw [hf]; exact ha)
    · exact .inr (List.mem_singleton.mp ha)
  have rnot : ∀ k, r ∉ fp k := fun k hk => by
    obtain ⟨T, hT⟩ := en.lt hk
    obtain ⟨u, _, ho⟩ := en.sl k T hT
    obtain ⟨o, e, _⟩ := T.dom ho hk
    rw [hrn] at e; cases e
  refine ⟨p, rs.map V.ref, .ref r, rfl, rfl, hp', by rw [List.length_map, hlen]; exact lc_list_room _ hpx.1, n _ _ (hk _ P X B σ _ _ hpx.2 (en1.regrow h rfl hv (by rw [hf]; exact List.mem_cons_self) hp' rfl hown (fun a ha k hk => ?_) (fun a ha => ?_) (fun a ha => ?_) fun z hz hzq => ?_))⟩
  · rcases inq a ha with z | z
    · exact en.dis k i a hk z
    · exact absurd hk (by rw [z]; exact rnot k)
  · rcases inq a ha with z | z
    · exact en.nt i a z
    · rw [z]; exact en.tps.new hrn
  · rcases inq a ha with z | z
    · exact en.new i a _ h rfl z
    · left
      rw [z]
      cases q : B.H r with
      | none => rfl
      | some o =>
        obtain ⟨o', e', _⟩ := en.fr r o q
        rw [hrn] at e'; cases e'
  · rcases inq _ hzq with q | q
    · exact (en.rr z hz).2.2 i q
    · exact rd_new (en.rr z hz).1 (by rw [q]; exact hrn)
/-! ### lists of lists of lists -/
inductive LB (K : PySem.W.Frag) (H : Hp) : List (Addr × List Addr) → List (List (List PyData)) → Prop
  | nil : LB K H [] []
  | cons {r : Addr} {rs : List Addr} {dss : List (List PyData)} {zs : List (Addr × List Addr)} {dsss : List (List (List PyData))} : H r = some (.lst (rs.map V.ref)) → LA K H rs dss → LB K H zs dsss → LB K H ((r, rs) :: zs) (dss :: dsss)
def flatZ (zs : List (Addr × List Addr)) : List Addr := zs.flatMap fun z => z.1 :: z.2
theorem LB.keep {H H' : Hp} : ∀ {zs : List (Addr × List Addr)} {ds : List (List (List PyData))}, LB K H zs ds → (∀ a o, H a = some o → (a ∈ flatZ zs ∨ still o = true) → H' a = some o) → LB K H' zs ds
  | _, _, .nil, _ => .nil
  | _, _, .cons (r := r) (rs := rs) (zs := zs) h1 h2 h3, k => by
    have hin : ∀ a, a ∈ r :: rs ∨ a ∈ flatZ zs → a ∈ flatZ ((r, rs) :: zs) := fun a ha => by
      unfold flatZ
      rw [List.flatMap_cons, List.mem_append]
      exact ha
    exact .cons (k _ _ h1 (.inl (hin _ (.inl List.mem_cons_self)))) (h2.keep fun a o e z => k a o e (z.imp (fun m => hin _ (.inl (List.mem_cons_of_mem _ m))) id)) (h3.keep fun a o e z => k a o e (z.imp (fun m => hin _ (.inr m)) id))
theorem LB.dom {H : Hp} : ∀ {zs : List (Addr × List Addr)} {ds : List (List (List PyData))} {a : Addr}, LB K H zs ds → a ∈ flatZ zs → ∃ vs, H a = some (.lst vs)
  | _, _, a, .cons (r := r) (rs := rs) (zs := zs) h1 h2 h3, h => by
    unfold flatZ at h
    rw [List.flatMap_cons, List.mem_append] at h
    rcases h with h | h
    · rcases List.mem_cons.mp h with rfl | h
      · exact ⟨_, h1⟩
      · exact h2.mem h
    · exact h3.dom h
theorem LB.snoc {H : Hp} {r : Addr} {rs : List Addr} {dss : List (List PyData)} (h1 : H r = some (.lst (rs.map V.ref))) (h2 : LA K H rs dss) : ∀ {zs : List (Addr × List Addr)} {ds : List (List (List PyData))}, LB K H zs ds → LB K H (zs ++ [(r, rs)]) (ds ++ [dss])
  | _, _, .nil => .cons h1 h2 .nil
  | _, _, .cons a b c => .cons a b (c.snoc h1 h2)
theorem LB.length {H : Hp} : ∀ {zs : List (Addr × List Addr)} {ds : List (List (List PyData))}, LB K H zs ds → zs.length = ds.length
  | _, _, .nil => rfl
  | _, _, .cons _ _ h => congrArg Nat.succ h.length
theorem LB.at {H : Hp} : ∀ {zs : List (Addr × List Addr)} {ds : List (List (List PyData))} {i : Nat} {dss : List (List PyData)}, LB K H zs ds → ds[i]? = some dss → ∃ r rs, zs[i]? = some (r, rs) ∧ H r = some (.lst (rs.map V.ref)) ∧ LA K H rs dss
  | _, _, 0, _, .cons a b _, e => by cases e; exact ⟨_, _, rfl, a, b⟩
  | _, _, i + 1, _, .cons _ _ c, e => c.at (i := i) e
  | _, _, 0, _, .nil, e => by cases e
  | _, _, _ + 1, _, .nil, e => by cases e
def ls3 (K : PySem.W.Frag) (ds : List (List (List PyData))) : Sl where
  own := fun H v fp => ∃ (p : Addr) (zs : List (Addr × List Addr)), v = .ref p ∧ fp = p :: flatZ zs ∧ (p :: flatZ zs).Nodup ∧ H p = some (.lst (zs.map fun z => V.ref z.1)) ∧ LB K H zs ds
  ro := false
  dom := fun h ha => by
    obtain ⟨p, zs, _, e, _, hp, hl⟩ := h
    rw [e] at ha
    rcases List.mem_cons.mp ha with rfl | ha
    · exact ⟨_, hp, rfl⟩
    · obtain ⟨vs, hv⟩ := hl.dom ha
      exact ⟨_, hv, rfl⟩
  keep := fun h k => by
    obtain ⟨p, zs, e1, e2, nd, hp, hl⟩ := h
    exact ⟨p, zs, e1, e2, nd, k p _ hp (.inl (by rw [e2]; exact List.mem_cons_self)), hl.keep fun a o e z => k a o e (z.imp (fun m => by rw [e2]; exact List.mem_cons_of_mem _ m) id)⟩
def e3L (e : β → PyData) (r : List (List (List β))) : List (List (List PyData)) := r.map (e2L e)
theorem mem_flatZ {zs : List (Addr × List Addr)} {i : Nat} {r : Addr} {rs : List Addr} (h : zs[i]? = some (r, rs)) {a : Addr} (ha : a ∈ r :: rs) : a ∈ flatZ zs := by
  unfold flatZ
  exact List.mem_flatMap.mpr ⟨(r, rs), List.mem_of_getElem? h, ha⟩
theorem nd_flatZ : ∀ {zs : List (Addr × List Addr)} {i : Nat} {r : Addr} {rs : List Addr}, (flatZ zs).Nodup → zs[i]? = some (r, rs) → (r :: rs).Nodup
  | z :: zs, 0, r, rs, h, e => by
    cases e
    unfold flatZ at h
    rw [List.flatMap_cons, List.nodup_append] at h
    exact h.1
  | z :: zs, i + 1, r, rs, h, e => by
    unfold flatZ at h
    rw [List.flatMap_cons, List.nodup_append] at h
    exact nd_flatZ h.2.1 e
  | [], 0, _, _, _, e => by cases e
  | [], _ + 1, _, _, _, e => by cases e
theorem nest3 {e : β → PyData} (xs : List (List (List β))) : Nest (ls3 K (e3L e xs)) (xs.map fun x => ls2 K (e2L e x)) := fun H v fq ⟨p, zs, e1, efq, nd, hp, hl⟩ => by
  have hll := hl.length
  unfold e3L at hll
  rw [List.length_map] at hll
  refine ⟨p, _, e1, by rw [efq]; simp, hp, by rw [List.length_map, List.length_map, hll], fun j T hT => ?_⟩
  rw [List.getElem?_map] at hT
  cases hx : xs[j]? with
  | none => rw [hx] at hT; cases hT
  | some row =>
    rw [hx] at hT
    cases hT
    obtain ⟨r, rs, g1, g2, g3⟩ := hl.at (i := j) (dss := e2L e row) (by unfold e3L; rw [List.getElem?_map, hx]; rfl)
    exact ⟨.ref r, r :: rs, by rw [List.getElem?_map, g1]; rfl, ⟨r, rs, rfl, rfl, nd_flatZ (List.nodup_cons.mp nd).2 g1, g2, g3⟩, fun a ha => by rw [efq]; exact List.mem_cons_of_mem _ (mem_flatZ g1 ha)⟩
theorem ev_new3 {e : β → PyData} : EvG C Γ (tLst tNil) (ret ([] : List (List (List β)))) (fun r => RN (ls3 C.K (e3L e r))) := fun P X hw B σ H fp en ex Q q =>
  ⟨Nat.zero_le _, fun p hp => q [] (.ref p) _ hw (.new en.tps hp) ⟨[p], ⟨p, [], rfl, rfl, by simp [flatZ], upd_same, .nil⟩, fun a ha => by rw [List.mem_singleton.mp ha]; exact hp⟩⟩
theorem flatZ_snoc (zs : List (Addr × List Addr)) (r : Addr) (rs : List Addr) : flatZ (zs ++ [(r, rs)]) = flatZ zs ++ (r :: rs) := by
  unfold flatZ
  rw [List.flatMap_append]
  simp
/-- t.append(row), a list of lists of one's own goes into t -/
theorem sb_app3 {res : F → Oc} {N Bk Ct : Cont F} {i j : Nat} {e : β → PyData} {xs : List (List (List β))} {row : List (List β)} {k : List (List (List β)) → Wp F} (h : Γ[i]? = some (.sl (ls3 C.K (e3L e xs)))) (hr : Γ[j]? = some (.sl (ls2 C.K (e2L e row)))) (hij : i ≠ j)
    (hk : ∀ ys, Lands N ((Γ.set j .un).set i (.sl (ls3 C.K (e3L e ys)))) (k ys)) : SimB C res N Bk Ct (tDrop (tBM C.K "list" rAppend (tVar i) (tCons (tVar j) tNil))) Γ (appW xs (ret row) k) := fun P X hm B D ex f n b c σ H fp en => by
  obtain ⟨hlt, hP⟩ := hm
  obtain ⟨v, hv, p, zs, rfl, hf, nd, hp, hl⟩ := en.sl i _ h
  obtain ⟨r, rs, hvj, hfj, ndj, hpj, hlj, _⟩ := En.row2 (C := C) en hr
  have hlen := hl.length
  unfold e3L at hlen
  rw [List.length_map] at hlen
  refine ⟨_, hv, .inl ⟨rfl, _, .inl (.inl hp)⟩, _, hvj, ?_⟩
  have hdis : ∀ a ∈ p :: flatZ zs, a ∉ r :: rs := fun a ha hb => hij (en.dis i j a (by rw [hf]; exact ha) (by rw [hfj]; exact hb))
  have st : Stay H (upd H p (.lst (zs.map (fun z => V.ref z.1) ++ [V.ref r]))) := fun a o ea z => by
    rw [upd_ne (fun q => by rw [q, hp] at ea; cases ea; cases z)]
    exact ea
  have hpn : p ∉ flatZ zs := (List.nodup_cons.mp nd).1
  have keepR : ∀ a ∈ r :: rs, ∀ o, H a = some o → upd H p (.lst (zs.map (fun z => V.ref z.1) ++ [V.ref r])) a = some o := fun a ha o ea => by
    rw [upd_ne (show a ≠ p from fun q => hdis p List.mem_cons_self (by rw [← q]; exact ha))]
    exact ea
  have hown : (ls3 C.K (e3L e (xs ++ [row]))).own (upd H p (.lst (zs.map (fun z => V.ref z.1) ++ [V.ref r]))) (.ref p) (p :: flatZ zs ++ (r :: rs)) := by
    refine ⟨p, zs ++ [(r, rs)], rfl, by rw [flatZ_snoc]; rfl, ?_, ?_, ?_⟩
    · rw [flatZ_snoc, ← List.cons_append, List.nodup_append]
      exact ⟨nd, ndj, fun a ha b hb z => hdis a ha (z ▸ hb)⟩
    · rw [upd_same, List.map_append]
      rfl
    · unfold e3L
      rw [List.map_append]
      refine LB.snoc (keepR r List.mem_cons_self _ hpj) (hlj.keep fun a o ea z => ?_) (hl.keep fun a o ea z => ?_)
      · rcases z with z | z
        · exact keepR a (List.mem_cons_of_mem _ z) o ea
        · exact st a o ea z
      · rcases z with z | z
        · rw [upd_ne (show a ≠ p from fun q => hpn (by rw [← q]; exact z))]
          exact ea
        · exact st a o ea z
  have en1 := en.forget j
  have hS1 : (Γ.set j .un)[i]? = some (.sl (ls3 C.K (e3L e xs))) := by rw [List.getElem?_set_ne (Ne.symm hij)]; exact h
  have hf1 : WL.put fp j [] i = fp i := put_ne hij
  have inq : ∀ a ∈ p :: flatZ zs ++ (r :: rs), a ∈ fp i ∨ a ∈ fp j := fun a ha => by
    rcases List.mem_append.mp ha with ha | ha
    · exact .inl (by rw [hf]; exact ha)
    · exact .inr (by rw [hfj]; exact ha)
  refine ⟨p, _, .ref r, rfl, rfl, hp, by rw [List.length_map, hlen]; exact lc_list_room _ hlt, n _ _ (hk _ P X B σ _ _ hP (en1.regrow hS1 rfl hv (by rw [hf1, hf]; exact List.mem_cons_self) hp rfl hown (fun a ha k hk => ?_) (fun a ha => ?_) (fun a ha => ?_) fun z hz hzq => ?_))⟩
  · by_cases z : k = j
    · subst z
      rw [put_same] at hk; cases hk
    · rw [put_ne z] at hk
      rcases inq a ha with q | q
      · exact en.dis k i a hk q
      · exact absurd (en.dis k j a hk q) z
  · rcases inq a ha with q | q
    · exact en.nt i a q
    · exact en.nt j a q
  · rcases inq a ha with q | q
    · exact en.new i a _ h rfl q
    · exact en.new j a _ hr rfl q
  · rcases inq _ hzq with q | q
    · exact (en.rr z hz).2.2 i q
    · exact (en.rr z hz).2.2 j q
/-- t[u][d], read -/
theorem ev_ix3 {i : Nat} {tu td : TE} {e : β → PyData} {wu wd : Wp Int} (xs : List (List (List β))) (h : Has Γ i (ls3 C.K (e3L e xs))) (hu : EvG C Γ tu wu (fun r => RF C.K (eI r))) (hd : EvG C Γ td wd (fun r => RF C.K (eI r))) :
    EvG C Γ (tOp (rIxL C.K) (tOp (rIxL C.K) (tVar i) tu) td) (bnd wu fun u => bnd (opt (atI xs u)) fun row => bnd wd fun d => opt (atI row d)) (fun r => RL C.K (r.map e)) := fun P X hw B σ H fp en ex Q q => by
  obtain ⟨v, fq, hv, ⟨p, zs, rfl, efp, nd, hp, hl⟩, hoff⟩ := en.hold h
  refine ⟨_, hv, hu _ X hw B σ H fp en ex _ fun u y H1 h1 s1 hk => ?_⟩
  have ek := Fz.int_inv (n := u) hk
  subst ek
  obtain ⟨v', fq', hv', ⟨p', zs', rfl, efp', nd', hp', hl'⟩, hoff'⟩ := (en.step s1).hold h
  rw [hv] at hv'
  cases hv'
  obtain ⟨row, hrow, h1⟩ := h1
  unfold atI at hrow
  cases e1 : ixN xs.length u with
  | none => rw [e1] at hrow; cases hrow
  | some j =>
    rw [e1] at hrow
    have hrow : xs[j]? = some row := hrow
    obtain ⟨r, rs, g1, g2, g3⟩ := hl'.at (i := j) (dss := e2L e row) (by unfold e3L; rw [List.getElem?_map, hrow]; rfl)
    have hlen := hl'.length
    unfold e3L at hlen
    rw [List.length_map] at hlen
    refine ⟨p, _, u, .ref r, rfl, rfl, .inl (.inl hp'), atI_map (by rw [hlen]; exact e1) g1, hd _ X h1 B σ H1 fp (en.step s1) ex _ fun d y H2 h2 s2 hk2 => ?_⟩
    have ek := Fz.int_inv (n := d) hk2
    subst ek
    obtain ⟨cell, hcell, h2⟩ := h2
    have offr : B.off r := hoff' r (by rw [efp']; exact List.mem_cons_of_mem _ (mem_flatZ g1 List.mem_cons_self))
    have offs : ∀ a ∈ rs, B.off a := fun a ha => hoff' a (by rw [efp']; exact List.mem_cons_of_mem _ (mem_flatZ g1 (List.mem_cons_of_mem _ ha)))
    have g2' := s2.kp r _ g2 offr
    have g3' : LA C.K H2 rs (e2L e row) := g3.keep fun a o ea z => by
      rcases z with z | z
      · exact s2.kp a o ea (offs a z)
      · exact s2.kp a o ea (s1.ts.notstill ea z)
    unfold atI at hcell
    cases e2 : ixN row.length d with
    | none => rw [e2] at hcell; cases hcell
    | some jj =>
      rw [e2] at hcell
      have hcell : row[jj]? = some cell := hcell
      obtain ⟨a, vs, k1, k2, k3⟩ := g3'.row hcell
      have hlen2 := g3'.length
      unfold e2L at hlen2
      rw [List.length_map] at hlen2
      exact ⟨r, _, d, .ref a, rfl, rfl, .inl (.inl g2'), atI_map (by rw [hlen2]; exact e2) k1, q cell (.ref a) H2 h2 (s1.trans s2) ⟨a, vs, rfl, .inl ⟨.inl k2, offs a (List.mem_of_getElem? k1)⟩, k3⟩⟩
/-! ### a borrowed thing as an argument -/
end
end WL
/-! WL, part 22: a def that takes a thing over; a list put into a list of lists of lists. -/
namespace WL
open PySem PySem.Spec PyProof.Rows L2
/-- the promise of a def that takes things over -/
def spM (K : PySem.W.Frag) [Tbs K] {ι F : Type} (ag : ι → List Ag) (f : ι → Wp F) (res : F → Oc) : Sp := fun vs H Q _ => ∃ (x : ι) (P : F → Prop) (T : Option (Sl × V × List Addr)) (R : List (Addr × HO)) (O : List Addr) (fp : Nat → List Addr),
  (f x P (fun _ => False) ∧ tbOf K T) ∧ En ⟨H, O, T, R⟩ ((ag x).map (Ag.ety K)) (vs.map some) H fp ∧ ∀ out v H', P out → Frame ⟨H, O, T, R⟩ H' → TpSt ⟨H, O, T, R⟩ H' → OcOk K ⟨H, O, T, R⟩ H' (res out) v → Q v H'
section
variable {C : Cn} [Tbs C.K] {Γ : List Ety} {K : PySem.W.Frag} [Tbs K] {α β γ ι F G : Type} {P : Program} {w : World} {mg : Str → Option Value} {base : Heap}
theorem fn_m {x qual : Str} {st : Stmt} {f : Addr} {fd : FuncData} {N ps : List Str} {k : Nat} {ag : ι → List Ag} {fm : ι → Wp F} {res : F → Oc} (Fu : Fun K x qual st f fd) (S : FnScope N ps (defScope st)) (hlen : ∀ x, (ag x).length = ps.length)
    (hb : ∀ (cdv : Value) (A : Around) (outer : List PySem.Env) (s : Shared) (H : Hp) (E : XK), Room k (A.deeper (envOfC qual (defScope st) s.heap.objs.size f cdv)) →
      ∃ t, PSs (cxOf CX0 P w K mg base N qual (defScope st) f cdv A outer s H E).nox (defBody st) t ∧ ∀ x, SimB ⟨K, E0, fun _ => (.none, "")⟩ res (endC res) noC noC t ((ag x).map (Ag.ety K) ++ List.replicate (N.length - ps.length) .un) (fm x)) :
    FnOk P w K mg base CX0 (k + 1) f fd ps (spM K ag fm res) := by
  refine Fu.ok S (fun vs H Q E h => ?_) (fun cdv A outer s H vs Q E hr h => ?_)
  · obtain ⟨x, P, T, R, O, fp, _, en, _⟩ := h
    have := en.len
    rw [List.length_map, List.length_map] at this
    rw [this, hlen]
  · obtain ⟨t, ht, hs⟩ := hb cdv A outer s H E hr
    refine ⟨t, ht, ?_⟩
    obtain ⟨x, P, T, R, O, fp, hf, en, fin⟩ := h
    have hl := en.len
    rw [List.length_map, List.length_map] at hl
    have hs' := hs x
    rw [← hlen x, ← hl] at hs'
    refine hs' P (fun _ => False) hf.1 ⟨H, O, T, R⟩ { nx := fun _ H' => Q .non H', rt := Q } (exok_no hf.2) fin (fun σ H' h => ?_) (fun σ H' h => h.elim) (fun σ H' h => h.elim) _ _ fp ?_
    · obtain ⟨out, hp, hr, h1, h2⟩ := h
      refine fin out .non H' hp h1 h2 ?_
      rw [hr]
      exact .non
    · rw [start_eq]
      exact en.slots _
/-- return (a, f(xs, n, t)), t gone over to f -/
theorem sb_retMv {res : F → Oc} {N Bk Ct : Cont F} {i j : Nat} {ta t2 : TE} {wa : Wp α} {w2 : Wp β} {ea : α → PyData} {e2' : β → PyData} {e1 : γ → PyData} {er : G → PyData} {xs : List γ} {S : Sl} {ag : ι → List Ag} {fm : ι → Wp G} {rs : G → Oc} {E : XK} {mk : β → ι} {g : α → G → F}
    (ha : EvG C Γ ta wa (fun x => RF C.K (ea x))) (hj : Γ[j]? = some (.sl (ls C.K (xs.map e1)))) (h2 : EvG C Γ t2 w2 (fun x => RF C.K (e2' x))) (hi : Γ[i]? = some (.sl S)) (ro : S.ro = false) (hij : j ≠ i)
    (hag : ∀ y, ag (mk y) = [.l (xs.map e1), .d (e2' y), .o S]) (hrs : ∀ r, rs r = .fz (er r)) (hres : ∀ a r, res (g a r) = .fz (.tuple [ea a, er r])) :
    SimB C res N Bk Ct (tRet (tTup (tCons ta (tCons (tCall (spM C.K ag fm rs) [] E (tCons (tVar j) (tCons t2 (tCons (tVar i) tNil)))) tNil)))) Γ (bnd wa fun a => bnd w2 fun y => bnd (noX (fm (mk y))) fun r => ret (g a r)) := fun P X hm B D ex f n b c σ H fp en => by
  refine ha _ X hm B σ H fp en ex _ fun a va H1 h1 s1 r1 => ?_
  have en1 := en.step s1
  obtain ⟨p, vs, hvj, hfj, hpj, hzj⟩ := En.lst (C := C) en1 hj
  refine ⟨_, hvj, h2 _ X h1 B σ H1 fp en1 ex _ fun y vy H2 h3 s2 r2 => ?_⟩
  have en2 := en1.step s2
  obtain ⟨v3, hv3, ho3⟩ := en2.sl i S hi
  refine ⟨v3, hv3, ?_⟩
  obtain ⟨p', vs', hvj', hfj', hpj', hzj'⟩ := En.lst (C := C) en2 hj
  rw [hvj] at hvj'
  cases hvj'
  have r1' : Fz C.K H2 va (ea a) := Fz.stay (s2.stay s1.ts) r1
  have hpf : p ∈ fp j := by rw [hfj]; exact List.mem_singleton.mpr rfl
  have enc : En ⟨H2, fp i, B.T, [(p, HO.lst vs')]⟩ ((ag (mk y)).map (Ag.ety C.K)) ([V.ref p, vy, v3].map some) H2 (fun k => if k = 2 then fp i else []) := by
    rw [hag]
    refine ⟨rfl, fun k T hk => ?_, fun k T hk => ?_, fun k hk => ?_, fun k l q hq hq2 => ?_, fun k q hq => ?_, fun k q T hk hro hq => ?_, fun k K' ds hk => ?_, fun k T hk => ?_, fun r hr => ?_, fun q o e => ⟨o, e, fun _ _ => rfl, fun _ => rfl⟩, en2.tps⟩
    · match k, hk with
      | 1, hk =>
        cases hk
        exact ⟨vy, rfl, rfl, r2⟩
      | 2, hk =>
        cases hk
        exact ⟨v3, rfl, ho3⟩
    · match k, hk with
      | 0, hk => cases hk
      | 1, hk => cases hk
      | 2, hk => cases hk
    · by_cases z : k = 2
      · subst z
        exact absurd rfl (hk S)
      · exact if_neg z
    · by_cases z : k = 2
      · by_cases z' : l = 2
        · rw [z, z']
        · have hq2 : q ∈ (if l = 2 then fp i else []) := hq2
          rw [if_neg z'] at hq2; cases hq2
      · have hq : q ∈ (if k = 2 then fp i else []) := hq
        rw [if_neg z] at hq; cases hq
    · have hq : q ∈ (if k = 2 then fp i else []) := hq
      by_cases z : k = 2
      · rw [if_pos z] at hq
        exact en.nt i q hq
      · rw [if_neg z] at hq; cases hq
    · have hq : q ∈ (if k = 2 then fp i else []) := hq
      by_cases z : k = 2
      · rw [if_pos z] at hq
        exact .inr hq
      · rw [if_neg z] at hq; cases hq
    · match k, hk with
      | 0, hk =>
        cases hk
        exact ⟨p, vs', .inl List.mem_cons_self, rfl, hzj'⟩
      | 1, hk => cases hk
      | 2, hk => cases hk
    · match k, hk with
      | 0, hk => cases hk
      | 1, hk => cases hk
      | 2, hk => cases hk
    · rw [List.mem_singleton.mp hr]
      refine ⟨.inl hpj', en.nt j p hpf, fun k hq => ?_⟩
      have hq : p ∈ (if k = 2 then fp i else []) := hq
      by_cases z : k = 2
      · rw [if_pos z] at hq
        exact hij (en.dis j i p hpf hq)
      · rw [if_neg z] at hq; cases hq
  refine ⟨mk y, _, B.T, _, _, _, ⟨h3, ex.tb⟩, enc, fun out v H' hp hf ht ho => ?_⟩
  rw [hrs] at ho
  have ho : Fz C.K H' v (er out) := ho
  have st : Stay H2 H' := fun q o e z => by
    obtain ⟨o', e', _, k⟩ := hf q o e
    rw [k z] at e'
    exact e'
  refine ⟨by show (2 : Nat) ≤ _; decide, fun q hq => ?_⟩
  have hts : TpSt B H' := ht
  have hnew : ∀ q' o, H' q' = some o → upd H' q (.tup [va, v]) q' = some o := upd_keeps hq
  refine f (g a out) (.ref q) _ hp (fun q' o e => ?_) (hts.same hnew) ?_
  · obtain ⟨o1, e1, k1, k2⟩ := en2.fr q' o e
    obtain ⟨o2, e2, k3, k4⟩ := hf q' o1 e1
    refine ⟨o2, hnew q' o2 e2, fun n1 n2 => ?_, fun z => ?_⟩
    · rw [← k1 n1 n2]
      refine k3 (fun hin => ?_) n2
      rcases en.new i q' S hi ro hin with z | z
      · rw [e] at z; cases z
      · exact n1 z
    · have e5 := k2 z
      subst e5
      exact k4 z
  · rw [hres]
    exact .tup (.inl (.inl upd_same)) (.cons (r1'.stay fun q' o e z => hnew q' o (st q' o e z)) (.cons (ho.stay fun q' o e z => hnew q' o e) .nil))
/-! ### t[u][d] = xs, a list of one's own goes into t -/
theorem nd_set {rs : List Addr} (h : rs.Nodup) {r : Addr} (hr : r ∉ rs) (d : Nat) : (rs.set d r).Nodup := by
  induction rs generalizing d with
  | nil => simpa using h
  | cons a rs ih =>
    obtain ⟨h1, h2⟩ := List.nodup_cons.mp h
    cases d with
    | zero => exact List.nodup_cons.mpr ⟨fun z => hr (List.mem_cons_of_mem _ z), h2⟩
    | succ d =>
      refine List.nodup_cons.mpr ⟨fun z => ?_, ih h2 (fun z => hr (List.mem_cons_of_mem _ z)) d⟩
      rcases List.mem_or_eq_of_mem_set z with z | z
      · exact h1 z
      · exact hr (by rw [← z]; exact List.mem_cons_self)
theorem flatZ_cons (z : Addr × List Addr) (zs : List (Addr × List Addr)) : flatZ (z :: zs) = (z.1 :: z.2) ++ flatZ zs := by
  unfold flatZ
  rw [List.flatMap_cons]
theorem flatZ_set : ∀ {zs : List (Addr × List Addr)} {u d : Nat} {r : Addr} {rs : List Addr} {a : Addr}, zs[u]? = some (r, rs) → (flatZ zs).Nodup → a ∉ flatZ zs → (flatZ (zs.set u (r, rs.set d a))).Nodup ∧ ∀ q ∈ flatZ (zs.set u (r, rs.set d a)), q ∈ flatZ zs ∨ q = a
  | z :: zs, 0, d, r, rs, a, e, hn, ha => by
    cases e
    rw [List.set_cons_zero, flatZ_cons, flatZ_cons] at *
    rw [List.nodup_append] at hn
    obtain ⟨n1, n2, n3⟩ := hn
    obtain ⟨m1, m2⟩ := List.nodup_cons.mp n1
    rw [List.mem_append, not_or] at ha
    have har : a ∉ rs := fun z => ha.1 (List.mem_cons_of_mem _ z)
    have mem : ∀ q, q ∈ r :: rs.set d a → q ∈ r :: rs ∨ q = a := fun q hq => by
      rcases List.mem_cons.mp hq with z | z
      · exact .inl (by rw [z]; exact List.mem_cons_self)
      · exact (List.mem_or_eq_of_mem_set z).imp (List.mem_cons_of_mem _) id
    refine ⟨?_, fun q hq => ?_⟩
    · rw [List.nodup_append]
      refine ⟨List.nodup_cons.mpr ⟨fun z => ?_, nd_set m2 har d⟩, n2, fun x hx y hy e => ?_⟩
      · rcases List.mem_or_eq_of_mem_set z with z | z
        · exact m1 z
        · exact ha.1 (by rw [← z]; exact List.mem_cons_self)
      · rcases mem x hx with z | z
        · exact n3 x z y hy e
        · exact ha.2 (by rw [← z, e]; exact hy)
    · rcases List.mem_append.mp hq with z | z
      · exact (mem q z).imp (fun z => List.mem_append_left _ z) id
      · exact .inl (List.mem_append_right _ z)
  | z :: zs, u + 1, d, r, rs, a, e, hn, ha => by
    have e : zs[u]? = some (r, rs) := e
    rw [List.set_cons_succ, flatZ_cons, flatZ_cons] at *
    rw [List.nodup_append] at hn
    obtain ⟨n1, n2, n3⟩ := hn
    rw [List.mem_append, not_or] at ha
    obtain ⟨i1, i2⟩ := flatZ_set (d := d) e n2 ha.2
    refine ⟨?_, fun q hq => ?_⟩
    · rw [List.nodup_append]
      refine ⟨n1, i1, fun x hx y hy exy => ?_⟩
      rcases i2 y hy with z | z
      · exact n3 x hx y z exy
      · exact ha.1 (by rw [← z, ← exy]; exact hx)
    · rcases List.mem_append.mp hq with z | z
      · exact .inl (List.mem_append_left _ z)
      · exact (i2 q z).imp (fun z => List.mem_append_right _ z) id
  | [], 0, _, _, _, _, e, _, _ => by cases e
  | [], _ + 1, _, _, _, _, e, _, _ => by cases e
theorem set_id' {α : Type} : ∀ (l : List α) (i : Nat) (x : α), l[i]? = some x → l.set i x = l
  | [], _, _, h => by simp at h
  | _ :: _, 0, _, h => by
    simp at h
    rw [h]
    rfl
  | a :: l, i + 1, x, h => by
    rw [List.set_cons_succ, set_id' l i x (by simpa using h)]
theorem flatZ_dis : ∀ {zs : List (Addr × List Addr)} {i j : Nat} {z z' : Addr × List Addr}, (flatZ zs).Nodup → i ≠ j → zs[i]? = some z → zs[j]? = some z' → ∀ a ∈ z.1 :: z.2, a ∉ z'.1 :: z'.2
  | y :: zs, 0, j + 1, z, z', hn, _, e1, e2, a, ha, hb => by
    cases e1
    rw [flatZ_cons, List.nodup_append] at hn
    exact hn.2.2 a ha a (mem_flatZ (r := z'.1) (rs := z'.2) (show zs[j]? = some (z'.1, z'.2) from e2) hb) rfl
  | y :: zs, i + 1, 0, z, z', hn, _, e1, e2, a, ha, hb => by
    cases e2
    rw [flatZ_cons, List.nodup_append] at hn
    exact hn.2.2 a hb a (mem_flatZ (r := z.1) (rs := z.2) (show zs[i]? = some (z.1, z.2) from e1) ha) rfl
  | y :: zs, i + 1, j + 1, z, z', hn, hne, e1, e2, a, ha, hb => by
    rw [flatZ_cons, List.nodup_append] at hn
    exact flatZ_dis hn.2.1 (fun w => hne (by rw [w])) (show zs[i]? = some z from e1) (show zs[j]? = some z' from e2) a ha hb
  | _ :: _, 0, 0, _, _, _, hne, _, _, _, _, _ => hne rfl
  | [], 0, _, _, _, _, _, e, _, _, _, _ => by cases e
  | [], _ + 1, _, _, _, _, _, e, _, _, _, _ => by cases e
theorem LA.setR {H : Hp} {a : Addr} {vs : List V} {ds : List PyData} (h1 : H a = some (.lst vs)) (h2 : FzAll K H vs ds) : ∀ {rs : List Addr} {dss : List (List PyData)} {d : Nat}, LA K H rs dss → LA K H (rs.set d a) (dss.set d ds)
  | _, _, _, .nil => .nil
  | _, _, 0, .cons _ _ c => .cons h1 h2 c
  | _, _, _ + 1, .cons x y c => .cons x y (c.setR h1 h2)
theorem LB.setR {H : Hp} {r : Addr} {rs : List Addr} {dss : List (List PyData)} (h1 : H r = some (.lst (rs.map V.ref))) (h2 : LA K H rs dss) : ∀ {zs : List (Addr × List Addr)} {ds : List (List (List PyData))} {u : Nat}, (∀ z ∈ zs, z.1 ≠ r → H z.1 = some (.lst (z.2.map V.ref))) → (∀ (k : Nat) z dss', k ≠ u → zs[k]? = some z → ds[k]? = some dss' → H z.1 = some (.lst (z.2.map V.ref)) ∧ LA K H z.2 dss') → zs.length = ds.length → LB K H (zs.set u (r, rs)) (ds.set u dss)
  | [], [], _, _, _, _ => .nil
  | z :: zs, d :: ds, 0, _, hk, hl => by
    refine .cons h1 h2 ?_
    have : ∀ {zs : List (Addr × List Addr)} {ds : List (List (List PyData))}, (∀ (k : Nat) z dss', zs[k]? = some z → ds[k]? = some dss' → H z.1 = some (.lst (z.2.map V.ref)) ∧ LA K H z.2 dss') → zs.length = ds.length → LB K H zs ds := by
      intro zs
      induction zs with
      | nil =>
        intro ds _ hl
        cases ds with
        | nil => exact .nil
        | cons => cases hl
      | cons z zs ih =>
        intro ds hk hl
        cases ds with
        | nil => cases hl
        | cons d ds =>
          obtain ⟨a, b⟩ := hk 0 z d rfl rfl
          exact .cons a b (ih (fun k z' d' e1 e2 => hk (k + 1) z' d' e1 e2) (by simpa using hl))
    exact this (fun k z' d' e1 e2 => hk (k + 1) z' d' (by omega) e1 e2) (by simpa using hl)
  | z :: zs, d :: ds, u + 1, hz, hk, hl => by
    obtain ⟨a, b⟩ := hk 0 z d (by omega) rfl rfl
    exact .cons a b (LB.setR h1 h2 (fun z' h => hz z' (List.mem_cons_of_mem _ h)) (fun k z' d' e e1 e2 => hk (k + 1) z' d' (by omega) e1 e2) (by simpa using hl))
  | [], _ :: _, _, _, _, hl => by cases hl
  | _ :: _, [], _, _, _, hl => by cases hl
def set3W (xs : List (List (List β))) (x : List β) (wu wd : Wp Int) (k : List (List (List β)) → Wp F) : Wp F := bnd wu fun u => bnd (opt (ixN xs.length u)) fun i => bnd (opt xs[i]?) fun row => bnd wd fun d => bnd (opt (ixN row.length d)) fun j => k (xs.set i (row.set j x))
set_option maxHeartbeats 1000000 in
theorem sb_set3 {res : F → Oc} {N Bk Ct : Cont F} {i j : Nat} {tu td : TE} {e : β → PyData} {xs : List (List (List β))} {x : List β} {wu wd : Wp Int} {k : List (List (List β)) → Wp F} (h : Γ[i]? = some (.sl (ls3 C.K (e3L e xs)))) (hx : Γ[j]? = some (.sl (ls C.K (x.map e)))) (hij : i ≠ j) (hu : EvG C Γ tu wu (fun r => RF C.K (eI r))) (hd : EvG C Γ td wd (fun r => RF C.K (eI r)))
    (hk : ∀ ys, Lands N ((Γ.set j .un).set i (.sl (ls3 C.K (e3L e ys)))) (k ys)) : SimB C res N Bk Ct (tAsg (tVar j) (gSub (tOp (rIxL C.K) (tVar i) tu) td rSetL)) Γ (set3W xs x wu wd k) := fun P X hm B D ex f n b c σ H fp en => by
  obtain ⟨q, ws, hvj, hfj, hqj, hzj⟩ := En.lst (C := C) en hx
  obtain ⟨v, hv, p, zs, rfl, hf, nd, hp, hl⟩ := en.sl i _ h
  refine ⟨_, hvj, _, hv, hu _ X hm B σ H fp en ex _ fun u y H1 h1 s1 hy => ?_⟩
  have ey := Fz.int_inv (n := u) hy
  subst ey
  obtain ⟨iu, hiu, row, hrow, h1⟩ := h1
  have en1 := en.step s1
  obtain ⟨v', hv', p', zs', rfl, hf', nd', hp', hl'⟩ := en1.sl i _ h
  rw [hv] at hv'
  cases hv'
  obtain ⟨r, rs, g1, g2, g3⟩ := hl'.at (i := iu) (dss := e2L e row) (by unfold e3L; rw [List.getElem?_map, hrow]; rfl)
  have hlen := hl'.length
  unfold e3L at hlen
  rw [List.length_map] at hlen
  refine ⟨p, _, u, .ref r, rfl, rfl, .inl (.inl hp'), atI_map (by rw [hlen]; exact hiu) g1, hd _ X h1 B σ H1 fp en1 ex _ fun d y2 H2 h2 s2 hy2 => ?_⟩
  obtain ⟨jd, hjd, h2⟩ := h2
  have en2 := en1.step s2
  obtain ⟨q', ws', hvj', hfj', hqj', hzj'⟩ := En.lst (C := C) en2 hx
  rw [hvj] at hvj'
  cases hvj'
  obtain ⟨v2, hv2, p2, zs2, rfl, hf2, nd2, hp2, hl2⟩ := en2.sl i _ h
  rw [hv] at hv2
  cases hv2
  -- the rows' addresses as before: the outer list is the same object
  rw [hf'] at hf2
  have hp2' := s2.kp p _ hp' (en.nt i p (by rw [hf']; exact List.mem_cons_self))
  have hl2' : LB C.K H2 zs' (e3L e xs) := hl'.keep fun a o ea z => by
    rcases z with z | z
    · exact s2.kp a o ea (en.nt i a (by rw [hf']; exact List.mem_cons_of_mem _ z))
    · exact s2.kp a o ea (s1.ts.notstill ea z)
  obtain ⟨r2, rs2, k1, k2, k3⟩ := hl2'.at (i := iu) (dss := e2L e row) (by unfold e3L; rw [List.getElem?_map, hrow]; rfl)
  rw [g1] at k1
  cases k1
  have hlen2 := k3.length
  unfold e2L at hlen2
  rw [List.length_map] at hlen2
  have hrf : r ∈ flatZ zs' := mem_flatZ g1 List.mem_cons_self
  have hri : r ∈ fp i := by rw [hf']; exact List.mem_cons_of_mem _ hrf
  have hqj2 : q ∈ fp j := by rw [hfj]; exact List.mem_singleton.mpr rfl
  have hqz : q ∉ p :: flatZ zs' := fun z => hij (en.dis i j q (by rw [hf']; exact z) hqj2)
  have hpn : p ∉ flatZ zs' := (List.nodup_cons.mp nd').1
  have hzn : (flatZ zs').Nodup := (List.nodup_cons.mp nd').2
  have hrp : r ≠ p := fun z => hpn (z ▸ hrf)
  have hqr : q ≠ r := fun z => hqz (by rw [z]; exact List.mem_cons_of_mem _ hrf)
  obtain ⟨f1, f2⟩ := flatZ_set (d := jd) g1 hzn (fun z => hqz (List.mem_cons_of_mem _ z))
  have hnr := nd_flatZ hzn g1
  have hrrs : r ∉ rs := (List.nodup_cons.mp hnr).1
  have st : Stay H2 (upd H2 r (.lst ((rs.set jd q).map V.ref))) := fun a o ea z => by
    rw [upd_ne (show a ≠ r from fun w => by rw [w, k2] at ea; cases ea; cases z)]
    exact ea
  have keepO : ∀ a, a ≠ r → ∀ o, H2 a = some o → upd H2 r (.lst ((rs.set jd q).map V.ref)) a = some o := fun a ha o ea => by
    rw [upd_ne ha]
    exact ea
  have hown : (ls3 C.K (e3L e (xs.set iu (row.set jd x)))).own (upd H2 r (.lst ((rs.set jd q).map V.ref))) (.ref p) (p :: flatZ (zs'.set iu (r, rs.set jd q))) := by
    refine ⟨p, zs'.set iu (r, rs.set jd q), rfl, rfl, List.nodup_cons.mpr ⟨fun z => ?_, f1⟩, ?_, ?_⟩
    · rcases f2 p z with z | z
      · exact hpn z
      · exact hqz (by rw [← z]; exact List.mem_cons_self)
    · rw [keepO p (Ne.symm hrp) _ hp2', List.map_set]
      congr 2
      refine (set_id' _ _ _ ?_).symm
      rw [List.getElem?_map, g1]
      rfl
    · unfold e3L
      have e2s : e2L e (row.set jd x) = (e2L e row).set jd (x.map e) := by
        unfold e2L
        rw [List.map_set]
      have e3s : (xs.set iu (row.set jd x)).map (e2L e) = (xs.map (e2L e)).set iu ((e2L e row).set jd (x.map e)) := by rw [List.map_set, e2s]
      rw [e3s]
      refine LB.setR upd_same (LA.setR (keepO q hqr _ hqj') (hzj'.stay st) (k3.keep fun a o ea z => ?_)) (fun z hz hne => ?_) (fun kk z dss' hne e1 e2' => ?_) (by rw [List.length_map]; exact hlen)
      · rcases z with z | z
        · exact keepO a (fun w => hrrs (w ▸ z)) o ea
        · exact st a o ea z
      · obtain ⟨kk, hkk, e1⟩ := List.getElem_of_mem hz
        obtain ⟨r3, rs3, m1, m2, m3⟩ := hl2'.at (i := kk) (dss := (e3L e xs)[kk]'(by unfold e3L; rw [List.length_map]; omega)) (List.getElem?_eq_getElem _)
        rw [List.getElem?_eq_getElem hkk, e1] at m1
        cases m1
        exact keepO _ hne _ m2
      · obtain ⟨r3, rs3, m1, m2, m3⟩ := hl2'.at (i := kk) (dss := dss') e2'
        rw [e1] at m1
        cases m1
        have dj := flatZ_dis hzn hne e1 g1
        exact ⟨keepO _ (fun w => dj r3 List.mem_cons_self (by rw [show r3 = r from w]; exact List.mem_cons_self)) _ m2, m3.keep fun a o ea z => by
          rcases z with z | z
          · exact keepO a (fun w => dj a (List.mem_cons_of_mem _ z) (by rw [w]; exact List.mem_cons_self)) o ea
          · exact st a o ea z⟩
  have en3 := en2.forget j
  have hS3 : (Γ.set j .un)[i]? = some (.sl (ls3 C.K (e3L e xs))) := by rw [List.getElem?_set_ne (Ne.symm hij)]; exact h
  have hf3 : WL.put fp j [] i = fp i := put_ne hij
  have inq : ∀ a ∈ p :: flatZ (zs'.set iu (r, rs.set jd q)), a ∈ fp i ∨ a = q := fun a ha => by
    rcases List.mem_cons.mp ha with z | z
    · exact .inl (by rw [hf', z]; exact List.mem_cons_self)
    · exact (f2 a z).imp (fun w => by rw [hf']; exact List.mem_cons_of_mem _ w) id
  have hreg := en3.regrow (p := r) (o := .lst ((rs.set jd q).map V.ref)) (q := p :: flatZ (zs'.set iu (r, rs.set jd q))) hS3 rfl hv (by rw [hf3]; exact hri) k2 rfl hown (fun a ha kk hkk => ?_) (fun a ha => ?_) (fun a ha => ?_) (fun z hz hzq => ?_)
  · refine ⟨r, _, d, jd, rfl, Fz.int_inv hy2, k2, by rw [List.length_map, hlen2]; exact hjd, ?_⟩
    have em : (rs.map V.ref).set jd (.ref q) = (rs.set jd q).map V.ref := by rw [List.map_set]
    rw [em]
    exact n _ _ (hk _ P X B σ _ _ h2 hreg)
  · by_cases z : kk = j
    · subst z
      rw [put_same] at hkk; cases hkk
    · rw [put_ne z] at hkk
      rcases inq a ha with w | w
      · exact en.dis kk i a hkk w
      · exact absurd (en.dis kk j a hkk (by rw [w]; exact hqj2)) z
  · rcases inq a ha with w | w
    · exact en.nt i a w
    · rw [w]; exact en.nt j q hqj2
  · rcases inq a ha with w | w
    · exact en.new i a _ h rfl w
    · rw [w]; exact en.new j q _ hx rfl hqj2
  · rcases inq _ hzq with w | w
    · exact (en.rr z hz).2.2 i w
    · exact (en.rr z hz).2.2 j (by rw [w]; exact hqj2)
end
end WL
/-! WL, part 23: data as tuples of things. -/
namespace WL
open PySem PySem.Spec PyProof.Rows L2
section
variable {α β γ δ : Type}
def asQ4 (a : PyData → Option α) (b : PyData → Option β) (c : PyData → Option γ) (d : PyData → Option δ) : PyData → Option (α × β × γ × δ)
  | .tuple [x, y, z, t] => (a x).bind fun u => (b y).bind fun v => (c z).bind fun w => (d t).bind fun s => some (u, v, w, s)
  | _ => none
theorem as_Q4 {a : PyData → Option α} {b : PyData → Option β} {c : PyData → Option γ} {e : PyData → Option δ} {ea : α → PyData} {eb : β → PyData} {ec : γ → PyData} {ed : δ → PyData} (ha : ∀ d x, a d = some x → d = ea x) (hb : ∀ d x, b d = some x → d = eb x) (hc : ∀ d x, c d = some x → d = ec x) (hd : ∀ d x, e d = some x → d = ed x) : ∀ d x, asQ4 a b c e d = some x → d = e4 ea eb ec ed x := fun d x h => by
  unfold asQ4 at h
  split at h
  · rename_i x y z t
    cases h1 : a x with
    | none => rw [h1] at h; cases h
    | some u =>
      cases h2 : b y with
      | none => rw [h1, h2] at h; cases h
      | some v =>
        cases h3 : c z with
        | none => rw [h1, h2, h3] at h; cases h
        | some w =>
          cases h4 : e t with
          | none => rw [h1, h2, h3, h4] at h; cases h
          | some s =>
            rw [h1, h2, h3, h4] at h
            cases h
            rw [ha _ _ h1, hb _ _ h2, hc _ _ h3, hd _ _ h4]
            rfl
  · cases h
end
end WL
/-! WL, part 24: the tape of draws (a dict), the law over any tape. -/
namespace WL
open PySem PySem.Spec PyProof.Rows L2
def kAt : Key := .inr "at"
def kRow : Key := .inr "row"
/-- the tape of draws: the place, the row -/
def tape2 : Sl where
  own := fun H v fp => ∃ (p q : Addr) (cells : List Int) (a : Int), v = .ref p ∧ fp = [p, q] ∧ p ≠ q ∧ H p = some (.dK [(kAt, .int a), (kRow, .ref q)]) ∧ H q = some (.lst (cells.map V.int)) ∧ 0 ≤ a ∧ cells ≠ [] ∧ cells.length ≤ 1000 ∧ ∀ c ∈ cells, 0 ≤ c
  ro := false
  dom := fun h ha => by
    obtain ⟨p, q, cells, a, _, e, _, h1, h2, _⟩ := h
    rw [e] at ha
    rcases List.mem_cons.mp ha with rfl | ha
    · exact ⟨_, h1, rfl⟩
    · rw [List.mem_singleton.mp ha]
      exact ⟨_, h2, rfl⟩
  keep := fun h k => by
    obtain ⟨p, q, cells, a, e1, e, hne, h1, h2, r⟩ := h
    exact ⟨p, q, cells, a, e1, e, hne, k p _ h1 (.inl (by rw [e]; simp)), k q _ h2 (.inl (by rw [e]; simp)), r⟩
/-- the tape of a script -/
def spTapeS (S : Sl) (K : PySem.W.Frag) : Sp := fun vs H Q _ => ∃ (p : Addr) (ns : List Int) (z : Int), vs = [.ref p, .int z] ∧ SqL K H p (ns.map V.int) ∧ 1 ≤ z ∧ z ≤ 1000 ∧ ∀ H' a fq, (∀ x o, H x = some o → H' x = some o) → S.own H' (.ref a) fq → Q (.ref a) H'
theorem law_runS {S : Sl} {K : PySem.W.Frag} [Tbs K] {n : Nat} {t : TS} {m : Wp Bool} {Q : VK} {H : Hp} {x : Option V} {a : Addr} {fq : List Addr}
    (hs : SimB ⟨K, E0, fun _ => (.none, "")⟩ (fun r : Bool => Oc.fz (eB r)) (endC fun r : Bool => Oc.fz (eB r)) noC noC t (.un :: .tp S :: List.replicate n .un) m) (hm : m (fun b => b = true) (fun _ => False))
    (htb : tbOf K (some (S, .ref a, fq))) (ho : S.own H (.ref a) fq) (q : ∀ H', Q (.bl true) H') : t { nx := fun _ H' => Q .non H', rt := Q } (x :: some (.ref a) :: List.replicate n none) H := by
  refine hs _ _ hm ⟨H, [], some (S, .ref a, fq), []⟩ _ (exok_no htb) (fun out v H' hp hf ht hv => ?_) (fun σ H' h => ?_) (fun σ H' h => h.elim) (fun σ H' h => h.elim) _ _ (fun _ => []) ?_
  · have e : out = true := hp
    subst e
    have e := Fz.bl_inv (b := true) hv
    subst e
    exact q H'
  · obtain ⟨out, _, hr, _⟩ := h
    cases hr
  · have key : ∀ (i : Nat) (e : Ety), (Ety.un :: .tp S :: List.replicate n .un)[i]? = some e → e = .un ∨ (i = 1 ∧ e = .tp S) := fun i e h => by
      match i, h with
      | 0, h => cases h; exact .inl rfl
      | 1, h => cases h; exact .inr ⟨rfl, rfl⟩
      | i + 2, h =>
        have h : (List.replicate n Ety.un)[i]? = some e := h
        rw [List.getElem?_replicate] at h
        split at h
        · cases h; exact .inl rfl
        · cases h
    refine ⟨by simp, fun i T h => ?_, fun i T h => ?_, fun i h => rfl, fun i j a h => (by cases h), fun i a h => (by cases h), fun i a T h _ h2 => (by cases h2), fun i K' ds h => ?_, fun i T h => ?_, fun r h => (by cases h), fun a o e => ⟨o, e, fun _ _ => rfl, fun _ => rfl⟩, fun t e => ?_⟩
    · rcases key i _ h with h | ⟨_, h⟩ <;> cases h
    · rcases key i _ h with h | ⟨rfl, h⟩
      · cases h
      · cases h
        exact ⟨_, _, rfl, rfl⟩
    · rcases key i _ h with h | ⟨_, h⟩ <;> cases h
    · rcases key i _ h with h | ⟨_, h⟩ <;> cases h
    · cases e
      exact ho
/-- the row of numbers made for the tape -/
theorem nums_use {K : PySem.W.Frag} [Tbs K] (h0 : tbOf K none) {f : List Int → Int → Wp (List Int)} {H : Hp} {Q : VK} {E : XK} {p : Addr} {ns : List Int} {z : Int} (hs : SqL K H p (ns.map V.int)) (hf : f ns z (fun v => v ≠ [] ∧ v.length ≤ 1000 ∧ ∀ c ∈ v, 0 ≤ c) (fun _ => False))
    (h : ∀ v q H', v ≠ [] → v.length ≤ 1000 → (∀ c ∈ v, 0 ≤ c) → (∀ a o, H a = some o → H' a = some o) → H q = none → H' q = some (.lst (v.map V.int)) → Q (.ref q) H') :
    spN K (fun x : List Int × Int × Unit => [.l (List.map eI x.1), .d (eI x.2.1)]) (fun x => f x.1 x.2.1) (fun r : List Int => .nw (ls K (List.map eI r))) ([V.ref p, V.int z] ++ []) H Q E := by
  have hz : FzAll K H (ns.map V.int) (ns.map eI) := fz_span ns
  have rl : RL K (ns.map eI) ⟨H, [], none, []⟩ H H (.ref p) := by
    refine ⟨p, ns.map V.int, rfl, ?_, hz⟩
    rcases hs with hs | hs
    · exact .inl ⟨hs, fun t h => nomatch h⟩
    · exact .inr fun H' => .inr hs
  obtain ⟨R, en⟩ := args_en (K := K) (B := ⟨H, [], none, []⟩) (H0 := H) (H := H) (vs := [V.ref p, V.int z]) (as := [.l (ns.map eI), .d (eI z)]) (fun t h => nomatch h) (.cons rl (.cons (Fz.int z) .nil))
  refine ⟨(ns, z, ()), _, none, R, _, ⟨hf, h0⟩, en, fun out v H' hp hf ht ho => ?_⟩
  obtain ⟨fq, ⟨q, vs, rfl, efq, hq, hzq⟩, hn, _⟩ := ho
  have e := FzAll.ints (ns := out) hzq
  subst e
  refine h out q H' hp.1 hp.2.1 hp.2.2 (fun a o ea => ?_) ?_ hq
  · obtain ⟨o', e1, e2, _⟩ := hf a o ea
    rw [e2 (by simp) (fun t h => nomatch h)] at e1
    exact e1
  · rcases hn q (by rw [efq]; exact List.mem_singleton.mpr rfl) with z | z
    · exact z
    · cases z
end WL
/-! WL, part 25: comprehensions over what is read in place; written dicts of texts. -/
namespace WL
open PySem PySem.Spec PyProof.Rows L2
section
variable {C : Cn} [Tbs C.K] {Γ : List Ety} {K : PySem.W.Frag} {α β γ F : Type}
/-- what a comprehension walks -/
def ItC (C : Cn) [Tbs C.K] (Γ : List Ety) {α : Type} (wi : TI) (w : Wp α) (ds : α → List PyData) : Prop := ∀ (P : α → Prop) (X : Xn → Prop), w P X → ∀ B σ H fp, En B Γ σ H fp → Exok C B X →
  ∀ R : It → Hp → Prop, (∀ r J H' sup, P r → Stp B H H' → ItOk C.K B J H' (ds r) sup → R J H') → wi σ H R
theorem ItC.is {wi : TI} {w w' : Wp α} {ds : α → List PyData} (h : ItC C Γ wi w ds) (e : w = w') : ItC C Γ wi w' ds := e ▸ h
/-- a list that is read in place -/
theorem it_RL {te : TE} {w : Wp (List α)} {e : α → PyData} (h : EvG C Γ te w (fun r => RL C.K (r.map e))) : ItC C Γ (iList C.K te) w (fun r => r.map e) := fun P X hw B σ H fp en ex R q => by
  refine h P X hw B σ H fp en ex _ fun r v H1 hp s hr => ?_
  obtain ⟨p, vs, rfl, hs, hz⟩ := hr
  have hlen := hz.length
  have core : ∀ sup : List Addr, (∀ H2 : Hp, (∀ a o, H1 a = some o → (a ∈ sup ∨ still o = true) → H2 a = some o) → SqL C.K H2 p vs) → (∀ a ∈ sup, B.off a ∧ ∃ o, H1 a = some o) → ItOk C.K B (Itl C.K p) H1 (r.map e) sup := fun sup hk hsp => by
    refine ⟨hsp, fun i H2 st hi => ?_, fun i H2 st hi => ⟨vs, hk H2 st, le_beta hlen hi⟩⟩
    have stay : Stay H1 H2 := fun a o e z => st a o e (.inr z)
    have hs2 := hk H2 st
    have hi2 : i < vs.length := lt_beta hlen hi
    refine ⟨⟨vs, vs[i], hs2, List.getElem?_eq_getElem hi2⟩, fun x H3 hy => ?_⟩
    obtain ⟨rfl, hx⟩ := hy
    obtain ⟨d, hd, hf⟩ := (FzAll.stay stay hz).getV (hx vs hs2)
    exact ⟨fun _ _ e => e, d, hd, hf⟩
  rcases hs with ⟨h1, h2⟩ | hs
  · have hk : ∀ H2 : Hp, (∀ a o, H1 a = some o → (a ∈ [p] ∨ still o = true) → H2 a = some o) → SqL C.K H2 p vs := fun H2 st => by
      rcases h1 with h1 | ⟨o, h1⟩
      · exact .inl (.inl (st p _ h1 (.inl (by simp))))
      · exact .inl (.inr ⟨o, st p _ h1 (.inl (by simp))⟩)
    refine ⟨p, rfl, ⟨vs, .inl h1⟩, q r _ H1 [p] hp s (core [p] hk fun a h => ?_)⟩
    rw [List.mem_singleton.mp h]
    refine ⟨h2, ?_⟩
    rcases h1 with h1 | ⟨o, h1⟩
    · exact ⟨_, h1⟩
    · exact ⟨_, h1⟩
  · exact ⟨p, rfl, ⟨vs, hs H1⟩, q r _ H1 [] hp s (core [] (fun H2 _ => hs H2) fun a h => absurd h (by simp))⟩
theorem ev_lcC {wi : TI} {g : TG} {tt : TT} {te : TE} {vs : List Nat} {w : Wp (List α)} {e : α → PyData} {c : α → Wp Bool} {f : α → Wp β} {e' : β → PyData} {Γb : α → List Ety} (hi : ItC C Γ wi w (fun r => r.map e))
    (hg : ∀ x, TgG C.K (unA Γ vs) g vs (e x) (Γb x)) (ht : ∀ x, EvT C.nox (Γb x) tt (c x)) (hf : ∀ x, EvG C.nox (Γb x) te (f x) (fun r => RF C.K (e' r))) :
    EvG C Γ (tLc wi g tt te vs) (bnd w fun xs => lcG c f xs) (fun r => RN (ls C.K (r.map e'))) := fun P X hw B σ H fp en ex Q q => by
  refine hi _ X hw B σ H fp en ex _ fun xs J H1 sup hp s1 ok => ?_
  obtain ⟨hlen, hp⟩ := hp
  intro D hD
  have hD0 : H D = none := s1.back en.tps hD
  have offD : B.off D := s1.ts.new hD
  have hBD : B.H D = none := by
    cases z : B.H D with
    | none => rfl
    | some o =>
      obtain ⟨o', e', _⟩ := (en.step s1).fr D o z
      rw [hD] at e'; cases e'
  have nD : ∀ i, D ∉ fp i := fun i hm => by
    obtain ⟨S, hS⟩ := en.lt hm
    obtain ⟨v, _, ho⟩ := en.sl i S hS
    obtain ⟨o, eo, _⟩ := S.dom ho hm
    rw [hD0] at eo; cases eo
  have nsup : D ∉ sup := fun hm => by
    obtain ⟨_, o, eo⟩ := ok.sp D hm
    rw [hD] at eo; cases eo
  have hRD : ∀ r ∈ B.R, r.1 ≠ D := fun r hr z => rd_new ((en.step s1).rr r hr).1 (by rw [z]; exact hD)
  obtain ⟨fpw, enw, subw⟩ := (en.step s1).wiped vs
  -- the invariant: what is still to come answers
  refine ⟨fun i m H2 => m = xs.length - i ∧ i ≤ xs.length ∧ (∀ a o, H1 a = some o → B.off a → H2 a = some o) ∧ TpSt B H2 ∧ En B (unA Γ vs) (wipe σ vs) H2 fpw ∧ ∃ (acc : List V) (ys : List β), H2 D = some (.lst acc) ∧ acc.length ≤ i ∧ FzAll C.K H2 acc (ys.map e') ∧
      lcW c f (xs.drop i) (fun zs => P (ys ++ zs)) (fun _ => False), ⟨xs.length, by omega, Nat.zero_le _, fun a o ea _ => ?_, ?_, ?_, [], [], upd_same, Nat.le_refl _, .nil, hp⟩, ?_⟩
  · rw [upd_ne (ne_of_none ea hD)]
    exact ea
  · exact s1.ts.same (upd_keeps hD)
  · exact enw.step (.new s1.ts hD)
  rintro i m H2 ⟨rfl, hi', kp, ts2, en2, acc, ys, hacc, hal, hz, hlc⟩
  have kst : ∀ a o, H1 a = some o → (a ∈ sup ∨ still o = true) → H2 a = some o := fun a o ea z => by
    rcases z with z | z
    · exact kp a o ea (ok.sp a z).1
    · exact kp a o ea (s1.ts.notstill ea z)
  by_cases hlt : i < xs.length
  · obtain ⟨go, yld⟩ := ok.go i H2 kst (by rw [List.length_map]; exact hlt)
    refine .inr ⟨go, fun H' => ∃ m', m' < xs.length - i ∧ (m' = xs.length - (i + 1) ∧ i + 1 ≤ xs.length ∧ (∀ a o, H1 a = some o → B.off a → H' a = some o) ∧ TpSt B H' ∧ En B (unA Γ vs) (wipe σ vs) H' fpw ∧ ∃ (acc : List V) (ys : List β), H' D = some (.lst acc) ∧ acc.length ≤ i + 1 ∧ FzAll C.K H' acc (ys.map e') ∧
      lcW c f (xs.drop (i + 1)) (fun zs => P (ys ++ zs)) (fun _ => False)), fun H' h => h, fun x H3 hy => ?_⟩
    obtain ⟨kp3, d, hd, hx⟩ := yld x H3 hy
    have ed : d = e xs[i] := by
      rw [List.getElem?_map, List.getElem?_eq_getElem hlt] at hd
      exact (Option.some.inj hd).symm
    subst ed
    have s3 : Stp B H2 H3 := .same ts2 kp3
    have en3 := en2.step s3
    refine (hg xs[i]).run B (wipe σ vs) H3 fpw x en3 hx _ fun σ4 fp4 en4 hw4 sub4 => ?_
    have nD4 : ∀ i, D ∉ fp4 i := fun i hm => by
      obtain ⟨j, hj⟩ := sub4 D i hm
      exact nD j (subw D j hj)
    have hdrop : xs.drop i = xs[i] :: xs.drop (i + 1) := List.drop_eq_getElem_cons hlt
    rw [hdrop] at hlc
    refine ⟨?_, ?_⟩
    · refine hw4.trans ?_
      exact wipe_idem vs σ
    refine ht xs[i] _ (fun _ => False) hlc B σ4 H3 fp4 en4 (exok_no ex.tb) _ fun b H5 hb s5 => ?_
    have en5 := en4.step s5
    have s25 := s3.trans s5
    have kp5 : ∀ a o, H1 a = some o → B.off a → H5 a = some o := fun a o ea na => s25.kp a o (kp a o ea na) na
    cases b with
    | true =>
      refine iteT ?_
      refine hf xs[i] _ (fun _ => False) hb B σ4 H5 fp4 en5 (exok_no ex.tb) _ fun y v H6 hy6 s6 r6 => ?_
      have en6 := en5.step s6
      have s26 := s25.trans s6
      have hD6 : H6 D = some (.lst acc) := s26.kp D _ hacc offD
      have hz6 := hz.stay (s26.stay ts2)
      have enw6 : En B (unA Γ vs) (wipe σ vs) H6 fpw := en2.step s26
      have stE : Stay H6 (upd H6 D (.lst (acc ++ [v]))) := fun a o ea z => by
        have : a ≠ D := by
          rintro rfl
          rw [hD6] at ea; cases ea; cases z
        rw [upd_ne this]
        exact ea
      have eny := enw6.side (o' := .lst (acc ++ [v])) hD6 rfl (fun i hm => nD i (subw D i hm)) offD hBD hRD
      refine ⟨acc, hD6, lc_list_room _ (by omega), xs.length - (i + 1), by omega, rfl, hlt, fun a o ea na => ?_, eny.tps, eny, acc ++ [v], ys ++ [y], upd_same, ?_, ?_, ?_⟩
      · have : a ≠ D := by
          rintro rfl
          rw [hD] at ea; cases ea
        rw [upd_ne this]
        exact s6.kp a o (kp5 a o ea na) na
      · rw [List.length_append, List.length_singleton]
        omega
      · rw [List.map_append]
        exact (hz6.stay stE).append (.one (Fz.stay stE r6))
      · have : (fun zs => P (ys ++ [y] ++ zs)) = fun zs => P (ys ++ y :: zs) := by
          funext zs
          rw [List.append_assoc]
          rfl
        rw [this]
        exact hy6
    | false =>
      refine iteF ?_
      exact ⟨xs.length - (i + 1), by omega, rfl, hlt, kp5, s5.ts, en2.step s25, acc, ys, s25.kp D _ hacc offD, by omega, hz.stay (s25.stay ts2), hb⟩
  · have ei : i = xs.length := by omega
    subst ei
    rw [List.drop_length] at hlc
    refine .inl ⟨ok.stop _ H2 kst (by rw [List.length_map]; exact Nat.le_refl _), ?_⟩
    have hP : P (ys ++ []) := hlc
    rw [List.append_nil] at hP
    refine q ys (.ref D) H2 hP ⟨fun a o ea na => kp a o (s1.kp a o ea na) na, ts2⟩ ⟨[D], ⟨D, acc, rfl, rfl, hacc, hz⟩, fun a ha => ?_⟩
    rw [List.mem_singleton.mp ha]
    exact hD0
end
/-! ### written dicts of texts -/
end WL
/-! WL, part 26: str(n). -/
namespace WL
open PySem PySem.Spec PyProof.Rows L2
end WL
/-! WL, part 27: tuples sorted, turned; sorted(set(t)). -/
namespace WL
open PySem PySem.Spec PyProof.Rows L2
/-! ### t[::-1] -/
/-! ### sorted(t), a tuple of ints -/
end WL
/-! WL, part 28: a written dict of texts of the def's own. -/
namespace WL
open PySem PySem.Spec PyProof.Rows L2
def tkE (kvs : List (Str × Int)) : List (Key × V) := kvs.map fun z => (.inr z.1, .int z.2)
def tk (K : PySem.W.Frag) (kvs : List (Str × Int)) : Sl where
  own := fun H v fp => ∃ p, v = .ref p ∧ fp = [p] ∧ H p = some (.dK (tkE kvs))
  ro := false
  dom := fun h ha => by
    obtain ⟨p, _, e, hp⟩ := h
    rw [e] at ha
    rw [List.mem_singleton.mp ha]
    exact ⟨_, hp, rfl⟩
  keep := fun h k => by
    obtain ⟨p, e1, e2, hp⟩ := h
    exact ⟨p, e1, e2, k p _ hp (.inl (by rw [e2]; exact List.mem_singleton.mpr rfl))⟩
end WL
/-! WL, part 29: what is never reached; == of lists of lists. -/
namespace WL
open PySem PySem.Spec PyProof.Rows L2
end WL
/-! WL, part 30: dicts of one's own whose keys are data (nested tuples of ints and texts). -/
namespace WL
open PySem PySem.Spec PyProof.Rows L2
/-! ### data as keys -/
mutual
def nkey : PyData → NestedKey
  | .none => .none
  | .bool b => .num (if b = true then 1 else 0)
  | .int i => .num i
  | .str x => .text x
  | .tuple ds => .tup (nkeys ds)
  | .list _ => .none
  | .dict _ => .none
def nkeys : List PyData → List NestedKey
  | [] => []
  | d :: ds => nkey d :: nkeys ds
end
/-! ### the dict -/
abbrev NEnt := NestedKey × Addr × Value
def KRaw (w : World) (d : Addr) (xs : List NEnt) (h : Heap) : Prop :=
  xs.length ≤ sizeLine ∧ (d == sysModules) = false ∧ (xs.map (·.1)).Nodup ∧ ∃ o es ep, h.get? d = some o ∧ o.ExactDict ∧ o.data = .dict es ep ∧ es.toList = xs.map fun x => (⟨x.1.hash w, .ref x.2.1, x.2.2⟩ : DictEntry)
def kdO (w : World) (d : Addr) (xs : List NEnt) : HO := .ext (KRaw w d xs)
theorem kdO_still {w : World} {d : Addr} {xs : List NEnt} : still (kdO w d xs) = false := still_dict ⟨d, fun h ⟨_, _, _, o, es, ep, e, _, e2, _⟩ => ⟨o, es, ep, e, e2⟩⟩
inductive NkAll (K : PySem.W.Frag) (H : Hp) : List NEnt → List (PyData × PyData) → Prop
  | nil : NkAll K H [] []
  | cons {a : Addr} {u : Value} {v : V} {k d : PyData} {xs : List NEnt} {kvs : List (PyData × PyData)} : Fz K H (.ref a) k → (nkey k).depth ≤ 8 → RelV v u → Fz K H v d → NkAll K H xs kvs → NkAll K H ((nkey k, a, u) :: xs) ((k, d) :: kvs)
section
variable {K : PySem.W.Frag} {H H' : Hp} {xs : List NEnt} {kvs : List (PyData × PyData)}
theorem NkAll.stay (st : Stay H H') : ∀ {xs : List NEnt} {kvs : List (PyData × PyData)}, NkAll K H xs kvs → NkAll K H' xs kvs
  | _, _, .nil => .nil
  | _, _, .cons h1 h2 h3 h4 t => .cons (h1.stay st) h2 h3 (h4.stay st) (t.stay st)
theorem NkAll.length : ∀ {xs : List NEnt} {kvs : List (PyData × PyData)}, NkAll K H xs kvs → xs.length = kvs.length
  | _, _, .nil => rfl
  | _, _, .cons _ _ _ _ t => congrArg Nat.succ t.length
def valN (kvs : List (PyData × PyData)) (k : PyData) : Option PyData := (kvs.find? fun p => decide (nkey p.1 = nkey k)).map (·.2)
def putN (kvs : List (PyData × PyData)) (k v : PyData) : List (PyData × PyData) := if (kvs.any fun p => decide (nkey p.1 = nkey k)) = true then kvs.map (fun p => if nkey p.1 = nkey k then (p.1, v) else p) else kvs ++ [(k, v)]
theorem NkAll.get (k : PyData) : ∀ {xs : List NEnt} {kvs : List (PyData × PyData)}, NkAll K H xs kvs → ((atKey xs (nkey k)).isSome = (valN kvs k).isSome ∧ ∀ d, valN kvs k = some d → ∃ a u v, atKey xs (nkey k) = some (a, u) ∧ RelV v u ∧ Fz K H v d)
  | _, _, .nil => ⟨rfl, fun d e => by cases e⟩
  | _, _, @NkAll.cons _ _ a u v k' d xs kvs h1 h2 h3 h4 t => by
    obtain ⟨g1, g2⟩ := t.get k
    by_cases e : nkey k' = nkey k
    · have e1 : atKey ((nkey k', a, u) :: xs) (nkey k) = some (a, u) := by simp [atKey, List.find?_cons, e]
      have e2 : valN ((k', d) :: kvs) k = some d := by simp [valN, List.find?_cons, e]
      rw [e1, e2]
      exact ⟨rfl, fun d' q => by cases q; exact ⟨a, u, v, rfl, h3, h4⟩⟩
    · have e1 : atKey ((nkey k', a, u) :: xs) (nkey k) = atKey xs (nkey k) := by simp [atKey, List.find?_cons, e]
      have e2 : valN ((k', d) :: kvs) k = valN kvs k := by simp [valN, List.find?_cons, e]
      rw [e1, e2]
      exact ⟨g1, g2⟩
theorem NkAll.any (k : PyData) : ∀ {xs : List NEnt} {kvs : List (PyData × PyData)}, NkAll K H xs kvs → (atKey xs (nkey k)).isSome = kvs.any fun p => decide (nkey p.1 = nkey k)
  | _, _, .nil => rfl
  | _, _, @NkAll.cons _ _ a u v k' d xs kvs h1 h2 h3 h4 t => by
    by_cases e : nkey k' = nkey k
    · simp [atKey, List.find?_cons, e]
    · have e1 : atKey ((nkey k', a, u) :: xs) (nkey k) = atKey xs (nkey k) := by simp [atKey, List.find?_cons, e]
      rw [e1, t.any k, List.any_cons]
      simp [e]
theorem NkAll.over {k d : PyData} {u : Value} {v : V} (hv : RelV v u) (hd : Fz K H v d) : ∀ {xs : List NEnt} {kvs : List (PyData × PyData)}, NkAll K H xs kvs → NkAll K H (xs.map (putAt (nkey k) u)) (kvs.map fun p => if nkey p.1 = nkey k then (p.1, d) else p)
  | _, _, .nil => .nil
  | _, _, @NkAll.cons _ _ a u' v' k' d' xs kvs h1 h2 h3 h4 t => by
    rw [List.map_cons, List.map_cons]
    unfold putAt
    by_cases e : nkey k' = nkey k
    · rw [if_pos e, if_pos e]
      exact .cons h1 h2 hv hd (t.over hv hd)
    · rw [if_neg e, if_neg e]
      exact .cons h1 h2 h3 h4 (t.over hv hd)
theorem NkAll.snoc {k d : PyData} {a : Addr} {u : Value} {v : V} (hk : Fz K H (.ref a) k) (h8 : (nkey k).depth ≤ 8) (hv : RelV v u) (hd : Fz K H v d) : ∀ {xs : List NEnt} {kvs : List (PyData × PyData)}, NkAll K H xs kvs → NkAll K H (xs ++ [(nkey k, a, u)]) (kvs ++ [(k, d)])
  | _, _, .nil => .cons hk h8 hv hd .nil
  | _, _, .cons h1 h2 h3 h4 t => .cons h1 h2 h3 h4 (t.snoc hk h8 hv hd)
theorem NkAll.put {k d : PyData} {a : Addr} {u : Value} {v : V} (t : NkAll K H xs kvs) (hk : Fz K H (.ref a) k) (h8 : (nkey k).depth ≤ 8) (hv : RelV v u) (hd : Fz K H v d) : NkAll K H (storedH xs (nkey k) a u) (putN kvs k d) := by
  unfold storedH putN
  rw [t.any k]
  split
  · exact t.over hv hd
  · exact t.snoc hk h8 hv hd
end
/-! ### as a thing of a name -/
/-- a dict of its own; e: the keys, e': the values -/
def nd (K : PySem.W.Frag) (w : World) (kvs : List (PyData × PyData)) : Sl where
  own := fun H v fp => ∃ p xs, v = .ref p ∧ fp = [p] ∧ H p = some (kdO w p xs) ∧ NkAll K H xs kvs
  ro := false
  dom := fun h ha => by
    obtain ⟨p, xs, _, e, hp, _⟩ := h
    rw [e] at ha
    rw [List.mem_singleton.mp ha]
    exact ⟨_, hp, kdO_still⟩
  keep := fun h k => by
    obtain ⟨p, xs, e1, e2, hp, hz⟩ := h
    exact ⟨p, xs, e1, e2, k p _ hp (.inl (by rw [e2]; exact List.mem_singleton.mpr rfl)), hz.stay fun a o e z => k a o e (.inr z)⟩
end WL
/-! WL, part 31: sum(rows, []) of a list of lists. -/
namespace WL
open PySem PySem.Spec PyProof.Rows L2
/-! ### the reading -/
end WL
/-! WL, part 32: xs.pop(); a list or None. -/
namespace WL
open PySem PySem.Spec PyProof.Rows L2
end WL
/-! WL, part 33: tuples of a thing and a list; names for rows of a list of lists; any(t), t of tuples. -/
namespace WL
open PySem PySem.Spec PyProof.Rows L2
section
variable {C : Cn} [Tbs C.K] {Γ : List Ety} {K : PySem.W.Frag} {α β γ F : Type}
/-! ### (a thing, a list) -/
def tl (K : PySem.W.Frag) (d : PyData) (ds : List PyData) : Sl where
  own := fun H v fp => ∃ a x p vs, v = .ref a ∧ fp = [p] ∧ SqT K H a [x, .ref p] ∧ Fz K H x d ∧ H p = some (.lst vs) ∧ FzAll K H vs ds
  ro := false
  dom := fun h ha => by
    obtain ⟨_, _, p, vs, _, e, _, _, hp, _⟩ := h
    rw [e] at ha
    rw [List.mem_singleton.mp ha]
    exact ⟨_, hp, rfl⟩
  keep := fun {H H'} {v} {fp} h k => by
    obtain ⟨a, x, p, vs, e1, e2, hs, hx, hp, hz⟩ := h
    have st : Stay H H' := fun a o e z => k a o e (.inr z)
    exact ⟨a, x, p, vs, e1, e2, sqT_stay st hs, hx.stay st, k p _ hp (.inl (by rw [e2]; exact List.mem_singleton.mpr rfl)), hz.stay st⟩
/-! ### any(t) -/
/-! ### names for rows -/
/-- a list of lists, its rows' places known -/
def lp2 (K : PySem.W.Frag) (rs : List Addr) (dss : List (List PyData)) : Sl where
  own := fun H v fp => ∃ p, v = .ref p ∧ fp = p :: rs ∧ (p :: rs).Nodup ∧ H p = some (.lst (rs.map V.ref)) ∧ LA K H rs dss
  ro := false
  dom := fun h ha => by
    obtain ⟨p, e1, e2, nd, hp, hl⟩ := h
    exact (ls2 K dss).dom (v := .ref p) (fp := p :: rs) ⟨p, rs, rfl, rfl, nd, hp, hl⟩ (e2 ▸ ha)
  keep := fun {H H'} {v} {fp} h k => by
    obtain ⟨p, e1, e2, nd, hp, hl⟩ := h
    subst e1 e2
    obtain ⟨p', rs', e1, e2, nd', hp', hl'⟩ := (ls2 K dss).keep (v := .ref p) (fp := p :: rs) ⟨p, rs, rfl, rfl, nd, hp, hl⟩ k
    cases e1
    cases e2
    exact ⟨p, rfl, rfl, nd', hp', hl'⟩
theorem put_self (fp : Nat → List Addr) (i : Nat) : WL.put fp i (fp i) = fp := by
  funext j
  by_cases e : j = i
  · subst e; exact put_same _ _
  · exact put_ne e
/-- a slot's thing said otherwise -/
theorem En.chg {B : Bs} {σ : List (Option V)} {H : Hp} {fp : Nat → List Addr} (en : En B Γ σ H fp) {i : Nat} {S S' : Sl} (hS : Γ[i]? = some (.sl S)) (ro : S.ro = false) (h : ∀ v, S.own H v (fp i) → S'.own H v (fp i)) : En B (Γ.set i (.sl S')) σ H fp := by
  obtain ⟨v, hv, ho⟩ := en.sl i S hS
  have hi : i < Γ.length := (List.getElem?_eq_some_iff.mp hS).1
  have := en.put (i := i) (S := S') (v := v) (q := fp i) hi (h v ho) (fun a ha j hj => en.dis j i a hj ha) (fun a ha => en.nt i a ha) (fun _ a ha => en.new i a S hS ro ha) fun r hr => (en.rr r hr).2.2 i
  rw [set_id σ i (some v) hv, put_self] at this
  exact this
theorem En.pin {B : Bs} {σ : List (Option V)} {H : Hp} {fp : Nat → List Addr} (en : En B Γ σ H fp) {i : Nat} {p : Addr} {rs : List Addr} {dss : List (List PyData)} (hS : Γ[i]? = some (.sl (ls2 K dss))) (hf : fp i = p :: rs) : En B (Γ.set i (.sl (lp2 K rs dss))) σ H fp := en.chg hS rfl fun v h => by
  obtain ⟨p', rs', e1, e2, nd, hp, hl⟩ := h
  rw [hf] at e2
  cases e2
  exact ⟨p, e1, hf, nd, hp, hl⟩
end
end WL
/-! WL, part 34: comprehensions with three for. -/
namespace WL
open PySem PySem.Spec PyProof.Rows L2
end WL
/-! WL, part 35: comprehensions with three for, read. -/
namespace WL
open PySem PySem.Spec PyProof.Rows L2
end WL
/-! WL, part 36: three for, plainly; ranges by name; written dicts' get; written dicts of any length. -/
namespace WL
open PySem PySem.Spec PyProof.Rows L2
section
variable {C : Cn} [Tbs C.K] {Γ : List Ety} {K : PySem.W.Frag} {α β γ F : Type}
/-! ### comprehensions -/
/-- a list that grows, in nobody's hand -/
structure Dok (B : Bs) (fp : Nat → List Addr) (D : Addr) : Prop where
  nD : ∀ i, D ∉ fp i
  off : B.off D
  bh : B.H D = none
  rd : ∀ r ∈ B.R, r.1 ≠ D
theorem Dok.sub {B : Bs} {fp fp' : Nat → List Addr} {D : Addr} (d : Dok B fp D) (h : ∀ i, D ∈ fp' i → ∃ j, D ∈ fp j) : Dok B fp' D := ⟨fun i hm => (h i hm).elim fun j hj => d.nD j hj, d.off, d.bh, d.rd⟩
theorem En.kept {B : Bs} {σ : List (Option V)} {H H' : Hp} {fp : Nat → List Addr} (en : En B Γ σ H fp) {D : Addr} {acc acc' : List V} (hD : H D = some (.lst acc)) (hD' : H' D = some (.lst acc')) (kp : ∀ a o, H a = some o → a ≠ D → B.off a → H' a = some o) (ts : TpSt B H') (d : Dok B fp D) : En B Γ σ H' fp :=
  (en.side (o' := .lst acc') hD rfl d.nD d.off d.bh d.rd).step ⟨fun a o e n => by
    by_cases z : a = D
    · subst z
      rw [upd_same] at e
      cases e
      exact hD'
    · rw [upd_ne z] at e
      exact kp a o e z n, ts⟩
/-! ### ranges by name -/
end
/-! ### written dicts -/
end WL
/-! WL, part 37: defs that raise a class of one's own; their calls; try: return f(..) except C: .. -/
namespace WL
open PySem PySem.Spec PyProof.Rows L2
/-- the classes' values, written -/
def ctOf (xs : List Addr) : Nat → Value × Str := fun i => (.ref (xs.getD i (xs.headD 0)), "")
theorem ct1 {K : PySem.W.Frag} {a : Addr} {cv : Value} (h : PySem.W.exmOne K (.ref a) cv = some true) : ∀ c, PySem.W.exmOne K (ctOf [a] c).1 cv = some true
  | 0 => h
  | _ + 1 => h
/-- what the top has written of a class of one's own, without __init__ -/
structure XCls (K : PySem.W.Frag) (mg : Str → Option Value) (x : Str) (a : Addr) : Prop where
  g : mg x = some (.ref a)
  x : PySem.W.excIn K a [.type "ValueError", .type "Exception", .type "BaseException", .type "object"] "ValueError.__new__" = true
  k : PySem.W.keepIn K (.ref a) = true
  b : PySem.W.subIn K (.ref a) (.type "BaseException") = some true
  t : PySem.W.typeIn K (.ref a) = some (.type "type")
  e : PySem.W.exmOne K (.ref a) (.ref a) = some true
section
variable {P : Program} {w : World} {K : PySem.W.Frag} [Tbs K] {mg : Str → Option Value} {base : Heap} {C : Cn} [Tbs C.K] {Γ : List Ety} {α β γ ι F G : Type}
/-- a def that may raise -/
theorem fn_x {x qual : Str} {st : Stmt} {f : Addr} {fd : FuncData} {N ps : List Str} {k : Nat} {ct : Nat → Value × Str} {ag : ι → List Ag} {fm : ι → Wp F} {res : F → Oc} (Fu : Fun K x qual st f fd) (S : FnScope N ps (defScope st)) (hlen : ∀ x, (ag x).length = ps.length)
    (hb : ∀ (cdv : Value) (A : Around) (outer : List PySem.Env) (s : Shared) (H : Hp) (E : XK), Room k (A.deeper (envOfC qual (defScope st) s.heap.objs.size f cdv)) →
      ∃ t, PSs (cxOf (L2.CX P w) P w K mg base N qual (defScope st) f cdv A outer s H E) (defBody st) t ∧ ∀ x, SimB ⟨K, E, ct⟩ res (endC res) noC noC t ((ag x).map (Ag.ety K) ++ List.replicate (N.length - ps.length) .un) (fm x)) :
    FnOk P w K mg base (L2.CX P w) (k + 1) f fd ps (spX K ct ag fm res) := by
  refine Fu.okX S (fun vs H Q E h => ?_) (fun cdv A outer s H vs Q E hr h => ?_)
  · obtain ⟨x, P, X, T, R, fp, _, en, _⟩ := h
    have := en.len
    rw [List.length_map, List.length_map] at this
    rw [this, hlen]
  · obtain ⟨t, ht, hs⟩ := hb cdv A outer s H E hr
    refine ⟨t, ht, ?_⟩
    obtain ⟨x, P, X, T, R, fp, hf, en, fin, ex⟩ := h
    have hl := en.len
    rw [List.length_map, List.length_map] at hl
    have hs' := hs x
    rw [← hlen x, ← hl] at hs'
    exact run_body (C := ⟨K, E, ct⟩) hs' hf en ex fin
/-- raise -/
theorem sb_raise {res : F → Oc} {N Bk Ct : Cont F} (c : Nat) {v : Value} (hv : v = (C.ct c).1) : SimB C res N Bk Ct (fun _ _ H => C.E v none H) Γ (thr (.plain c)) := fun P X hm B D ex f n b c' σ H fp en => by
  subst hv
  exact ex.ok (.plain c) _ none H hm en.fr en.tps (.plain c)
/-- a call of a def that may raise, where nothing is raised -/
theorem ev_callX0 {ta : TA} {wa : Wp ι} {ag : ι → List Ag} {f : ι → Wp F} {res : F → Oc} {e : F → PyData} {ct : Nat → Value × Str} (ha : EvA C Γ ta wa (fun x => (ag x).map (Ag.rk C.K))) (hr : ∀ o, res o = .fz (e o)) :
    EvG C Γ (tCallS (spX C.K ct ag f res) (WE fun _ _ _ _ => False) ta) (bnd wa fun x => noX (f x)) (fun r => RF C.K (e r)) := fun P X hw B σ H fp en ex Q q => by
  refine ha _ X hw B σ H fp en ex _ fun x vs H1 h1 s1 r1 => ?_
  obtain ⟨R, en'⟩ := args_en s1.ts r1
  refine ⟨x, P, fun _ => False, B.T, R, _, h1, en', fun out v H' hp hf ht ho => ?_, ⟨ex.tb, fun xn v d H' hx => hx.elim⟩⟩
  rw [hr] at ho
  exact q out v H' hp (s1.trans (after_call hf ht)) ho
/-- a class is what except names -/
theorem exm_self {S : Addr} (h1 : PySem.W.subIn K (.ref S) (.type "BaseException") = some true) (h2 : PySem.W.isClsIn K S = true) (h3 : PySem.W.typeIn K (.ref S) = some (.type "type")) (h4 : PySem.W.subIn K (.ref S) (.ref S) = some true) :
    PySem.W.exmOne K (.ref S) (.ref S) = some true := by
  have e1 : (PySem.W.subIn K (.ref S) (.type "BaseException") == some true) = true := by rw [h1] <;> rfl
  have e2 : ((PySem.W.clsIn K S).isSome && PySem.W.typeIn K (.ref S) == some (.type "type")) = true := by
    have h2' : (PySem.W.clsIn K S).isSome = true := h2
    rw [h2', h3] <;> rfl
  show (if (PySem.W.subIn K (.ref S) (.type "BaseException") == some true) = true then (if ((PySem.W.clsIn K S).isSome && PySem.W.typeIn K (.ref S) == some (.type "type")) = true then PySem.W.subIn K (.ref S) (.ref S) else none) else none) = some true
  rw [if_pos e1, if_pos e2]
  exact h4
end
section
variable {X : Cx} {mg : Str → Option Value} {x : Str} {a : Addr}
/-- raise C('..') -/
theorem ps_raiseC {K : PySem.W.Frag} {m : Str} {j : Nat} {p p2 pos rpos : Pos} {W : WX} (hK : X.K = K) (T : XCls K X.mg x a) (hc : X.calm = true) (tk : Takes X W) (hg : Gl X x) (hdb : (x == ("__debug__" : Str)) = false := by decide) :
    PS X (.Raise (some (.Call (.Name x p) [.Constant (.str m) j p2] [] pos)) none rpos) (fun _ σ H => W (.ref a) none σ H) := by
  subst hK
  exact ps_raise hc tk (pmk_own PySem.F.excBase_ValueError T.x T.g T.k (raises_own T.b T.t) hg hdb)
end
end WL
namespace WL
open PySem PySem.Spec PyProof.Rows L2
section
variable {C : Cn} [Tbs C.K] {Γ : List Ety} {ι F : Type}
theorem ev_callX0S {ta : TA} {wa : Wp ι} {ag : ι → List Ag} {f : ι → Wp F} {res : F → Oc} {ct : Nat → Value × Str} (e : F → PyData) (ha : EvS C Γ ta wa (fun x => (ag x).map (Ag.rk C.K))) (hr : ∀ o, res o = .fz (e o)) :
    EvG C Γ (tCallS (spX C.K ct ag f res) (WE fun _ _ _ _ => False) ta) (bnd wa fun x => noX (f x)) (fun r => RF C.K (e r)) := ev_callX0 ha.ev hr
end
end WL
/-! WL, part 38: divmod; row[i] = e by a row's name. -/
namespace WL
open PySem PySem.Spec PyProof.Rows L2
end WL
/-! WL, part 39: for over a row of a lent list of lists; a row's name let go of, with the list written out. -/
namespace WL
open PySem PySem.Spec PyProof.Rows L2
end WL
/-! WL, part 40: reversed and zip of tuples; tuple(reversed(a list)); new things of defs that may raise; try that gives data. -/
namespace WL
open PySem PySem.Spec PyProof.Rows L2
end WL
/-! WL, part 41: x *= e, x //= e. -/
namespace WL
open PySem PySem.Spec PyProof.Rows L2
end WL
/-! WL, part 42: sorted(set(t)) of a tuple of pairs; < of data. -/
namespace L2
open PySem PySem.Spec PyProof.Rows
end L2
namespace WL
open PySem PySem.Spec PyProof.Rows L2
/-! ### < of data -/
/-! ### sorted(set(t)), t a tuple of pairs -/
end WL
/-! WL, part 43: an expression that is never reached. -/
namespace WL
open PySem PySem.Spec PyProof.Rows L2
end WL
/-! WL, part 44: try with a body of several returns; except C as e; isinstance of what was caught. -/
namespace WL
open PySem PySem.Spec PyProof.Rows L2
/-! ### a ground of its own -/
def FlatS (S : Sl) : Prop := ∀ H v fp, S.own H v fp → fp = []
def FlatE : Ety → Prop
  | .sl S => FlatS S
  | _ => True
def AllFlat : List Ety → Prop
  | [] => True
  | e :: Γ => FlatE e ∧ AllFlat Γ
theorem AllFlat.at : ∀ {Γ : List Ety} {i : Nat} {S : Sl}, AllFlat Γ → Γ[i]? = some (.sl S) → FlatS S
  | [], _, _, _, h => by cases h
  | e :: Γ, 0, S, ha, h => by
    have h : e = .sl S := Option.some.inj h
    subst h
    exact ha.1
  | e :: Γ, i + 1, S, ha, h => AllFlat.at (i := i) ha.2 h
/-! ### try -/
section
variable {F : Type}
/-- what was caught -/
def xcS (a : Addr) : Sl where
  own := fun _ v fp => v = .ref a ∧ fp = []
  ro := false
  dom := fun h ha => by rw [h.2] at ha; cases ha
  keep := fun h _ => h
def unN (i : Nat) (N : Cont F) : Cont F := fun P X B σ H => N P X B (σ.set i none) H
theorem pss_given {X : Cx} {ss : List Stmt} {p : Prop} {t : TS} (h : p → PSs X ss t) : PSs X ss (fun D σ H => p ∧ t D σ H) :=
  ⟨fun pins s σ H D I hh => (h hh.1).run pins s σ H D I hh.2⟩
theorem zc_of {cls : Value} {d : Option Addr} {Dc : Addr} {oe : Obj} (hg : cls = .ref Dc ∧ d = none) (hz : Zc cls d oe) : Zc (.ref Dc) none oe := by
  rw [← hg.1, ← hg.2]
  exact hz
end
theorem call_isEK {X : Cx} {K : PySem.W.Frag} {a D : Addr} {oe : Obj} {pn : List (Addr × Obj)} (hK : X.K = K) (C : ExcC K D) (hz : Zc (.ref D) none oe) (hf : ∃ vs, oe.data = .fields vs) : CallR (X.suite a ((a, oe) :: pn)) (.builtin "isinstance") (rIsE K D a) := by
  subst hK
  exact call_isE C hz hf
/-- isinstance(e, C), e what was caught -/
theorem ev_isE {C : Cn} [Tbs C.K] {Γ : List Ety} {i : Nat} {a Dc Fa : Addr} (h : Γ[i]? = some (.sl (xcS a))) (hk : PySem.W.kitOne C.K (.ref Dc) (.ref Fa) = some true) :
    EvG C Γ (tCB (rIsE C.K Dc a) (tCons (tVar i) (tCons (tC (.ref Fa)) tNil))) (ret true) (fun r => RF C.K (eB r)) := fun P X hw B σ H fp en ex Q q => by
  obtain ⟨v, hv, ho, _⟩ := en.sl i _ h
  subst ho
  refine ⟨_, hv, ?_⟩
  exact ⟨.ref Fa, .ref Fa, true, rfl, fun u hu => by cases hu; rfl, hk, q true _ H hw (.refl en.tps) (.bl true)⟩
end WL
/-! WL, part 45: ranges of two ends by name. -/
namespace WL
open PySem PySem.Spec PyProof.Rows L2
end WL
namespace WL
open PySem
theorem kit_of {K : PySem.W.Frag} {c d : Addr} (h : PySem.W.subIn K (.ref c) (.ref d) = some true) (h1 : PySem.W.isClsIn K d = true) (h2 : PySem.W.typeIn K (.ref d) = some (.type "type")) : PySem.W.kitOne K (.ref c) (.ref d) = some true := by
  have e2 : ((PySem.W.clsIn K d).isSome && PySem.W.typeIn K (.ref d) == some (.type "type")) = true := by
    have h1' : (PySem.W.clsIn K d).isSome = true := h1
    rw [h1', h2] <;> rfl
  show (if (Value.ref c == Value.ref d) = true then some true else if ((PySem.W.clsIn K d).isSome && PySem.W.typeIn K (.ref d) == some (.type "type")) = true then PySem.W.subIn K (.ref c) (.ref d) else none) = some true
  split
  · rfl
  · first
    | exact h
    | (rw [if_pos e2]; exact h)
theorem ctOf1 (a : Addr) : ∀ c, (ctOf [a] c).1 = .ref a
  | 0 => rfl
  | _ + 1 => rfl
end WL
namespace WL
open PySem
end WL
namespace WL
open PySem PySem.Spec PyProof.Rows L2
def tTryA (K : PySem.W.Frag) (cv : Value) (i : Nat) (Dc : Addr) (us : Addr → TS) (tb : WX → TS) : TS := fun D σ H => tb (wAs K cv i (fun a cls d D σ H => (cls = .ref Dc ∧ d = none) ∧ us a D σ H) (fun _ _ _ _ => False) D) D σ H
section
variable {X : Cx} {K : PySem.W.Frag} {x n : Str} {c : Value} {i : Nat} {body suite : List Stmt} {b₀ : Stmt} {np pos pos' : Pos} {tb : WX → TS}
theorem ps_tryA {us : Addr → TS} {Dc : Addr} (hK : X.K = K) (hs : X.stack = X.env :: X.outer) (hf : X.env.frame = some X.env.locals) (hN : X.N.Nodup) (hi : X.N[i]? = some n) (hln : X.env.kindOf n = some .local) (hc : Names X x c)
    (hb : ∀ (W : WX) (pn : List (Addr × Obj)) (xe : Value → Shared → Prop), Takes (X.tr pn xe) W → PSs (X.tr pn xe) body (tb W))
    (hsu : ∀ (a : Addr) (oe : Obj) (pn : List (Addr × Obj)), Zc (.ref Dc) none oe → (∃ vs, oe.data = .fields vs) → PSs (X.suite a ((a, oe) :: pn)) (b₀ :: suite) (us a)) :
    PS X (.Try body [.ExceptHandler (some (.Name x np)) (some n) (b₀ :: suite) pos'] [] [] pos) (tTryA K c i Dc us tb) := by
  subst hK
  exact ps_try_as hs hf hN hi hln hc takes0 (fun W pn xe tk _ => hb W pn xe tk) (fun a oe cls d pn hz hf => pss_given fun hg => hsu a oe pn (zc_of hg hz) hf)
end
end WL
namespace WL
open PySem PySem.Spec PyProof.Rows L2
def WInv (tb : WX → TS) : Prop := ∀ W W' D σ H, WE W σ = WE W' σ → tb W D σ H = tb W' D σ H
theorem WInv.eq {tb : WX → TS} (h : WInv tb) : ∀ W D σ H, tb W D σ H = tb (fun cls d _ H' => W cls d σ H') D σ H := fun W D σ H => h W _ D σ H rfl
end WL
/-! WL, part 46: the tape of the boxes; sorted(set(xs)) of a list of ints; t.index(k). -/
namespace L2
open PySem PySem.Spec PyProof.Rows
end L2
namespace WL
open PySem PySem.Spec PyProof.Rows L2
/-! ### the tape of the boxes: a list of the cells, the number, the seed, the nodes -/
end WL
set_option maxHeartbeats 2000000
/-! GX1: any, all over a generator expression whose element does what it likes: the machine's part. -/
namespace L2
open PySem PySem.Spec PyProof.Rows GenW
/-- one step of a generator expression: what it does from St (m + 1); hit: the answer that ends it all -/
structure GxT (P : Program) (w : World) (A : Around) (elt tg : Expr) (it : Value) (cenv : Env) (a : Addr) (g : Nat) (hit : Bool) (St : Nat → Shared → Prop) (Hit End : Shared → Prop) : Prop where
  no : ∀ s, ¬ St 0 s
  calm : ∀ m s s', St m s → s'.heap = s.heap → s'.os = s.os → AllBare s'.gens → St m s'
  calmH : ∀ s s', Hit s → s'.heap = s.heap → s'.os = s.os → AllBare s'.gens → Hit s'
  calmE : ∀ s s', End s → (∀ b o, s.heap.get? b = some o → s'.heap.get? b = some o) → s'.os = s.os → AllBare s'.gens → End s'
  bareE : ∀ s, End s → AllBare s.gens
  turn : ∀ m s, St (m + 1) s → wpAny (model P w) (A.deeper cenv) (pyNext it) (fun r s1 => match r with
    | none => End s1
    | some v => wpAny (model P w) (A.deeper cenv) (letOwnedTupleGo tg it v) (fun _ s2 => wpAny (model P w) (A.deeper cenv) (assign tg cenv v) (fun _ s3 => wpAny (model P w) (A.deeper cenv) (eval elt cenv) (fun y s4 =>
        ∃ b, y = .bool b ∧ AllBare s4.gens ∧ s4.heap.NoLimit ∧ s4.heap.IsGen a g ∧ (if b = hit then Hit s4 else St m s4)) (fun _ _ => False) s3) (fun _ _ => False) s2) (fun _ _ => False) s1) (fun _ _ => False) s
end L2
set_option maxHeartbeats 2000000
/-! GX2: the context of a generator expression's frame. -/
namespace L2
open PySem PySem.Spec PyProof.Rows GenW
theorem Inv.same {X : Cx} {pins : List (Addr × Obj)} {σ : St} {H : Hp} {s s' : Shared} (I : Inv X pins σ H s) (h : s'.heap = s.heap) (ho : s'.os = s.os) (hb : AllBare s'.gens) : Inv X pins σ H s' := by
  obtain ⟨h', g', d', t', o'⟩ := s'
  cases h
  cases ho
  exact ⟨I.ok, I.os, hb, I.base, I.loc, I.cell, I.free, I.freeC, I.pin, I.hok, I.len⟩
end L2
set_option maxHeartbeats 2000000
/-! GX3: any(e for t in xs), all(..): the rules. -/
namespace L2
open PySem PySem.Spec PyProof.Rows GenW
end L2
namespace GxR
open PySem PySem.Spec PyProof.Rows L2 GenW
end GxR
namespace GxR
open PySem PySem.Spec PyProof.Rows L2 GenW
end GxR
/-! WL, part 47: any, all over generator expressions; defs whose code object is known; the tape and the tables of the code objects. -/
namespace WL
open PySem PySem.Spec PyProof.Rows L2 GxR
/-! ### defs whose code object is known -/
/-! ### the law: the tables are there -/
end WL
/-! WL, part 48: dicts int -> data: lent, locked, walked, copied, made by a comprehension; del; a tuple of two dicts. -/
namespace WL
open PySem PySem.Spec PyProof.Rows L2
section
variable {C : Cn} [Tbs C.K] {Γ : List Ety} {K : PySem.W.Frag} {α β γ F : Type}
theorem DGet.rd {H : Hp} {a : Addr} {kvs : List (Key × V)} {k : Key} (e : Rd H a (.dK kvs)) : DGet H a (kV k) (valV kvs k) := .inl ⟨kvs, k, e, rfl, rfl⟩
/-! ### lent -/
/-! ### dict(d) -/
/-! ### sorted(d), d lent -/
/-! ### locked -/
/-! ### del d[k] -/
def dropI (kvs : List (Int × α)) (k : Int) : List (Int × α) := kvs.filter fun p => decide (p.1 ≠ k)
theorem DkAll.drop {H : Hp} (k : Int) : ∀ {a : List (Key × V)} {b : List (Int × PyData)}, DkAll K H a b → DkAll K H (dropK a (.inl k)) (dropI b k)
  | _, _, .nil => .nil
  | _, _, .cons (k := j) (v := v) (d := d) (a := a) (b := b) h t => by
    have ih := t.drop k
    unfold dropK dropI at *
    by_cases e : j = k
    · rw [List.filter_cons_of_neg (by simp [e]), List.filter_cons_of_neg (by simp [e])]
      exact ih
    · rw [List.filter_cons_of_pos (by simp [e]), List.filter_cons_of_pos (by simp [e])]
      exact .cons h ih
/-! ### two dicts in a tuple -/
/-! ### d = other if other else d -/
end
end WL
/-! WL, part 49: a dict comprehension, int keys. -/
namespace L2
open PySem PySem.Spec PyProof.Rows
end L2
namespace WL
open PySem PySem.Spec PyProof.Rows L2
end WL
namespace WL
open PySem PySem.Spec PyProof.Rows L2 GxR
end WL
set_option maxHeartbeats 2000000
/-! GX4: any, all over a generator expression with two for. -/
namespace L2
open PySem PySem.Spec PyProof.Rows GenW
abbrev tstG (ifs : List Expr) (env : Env) : Sem Bool := forIn ifs true fun c r => if r = true then do let ok ← isTrue c env (eval c env); pure (ForInStep.yield ok) else pure (ForInStep.yield r)
/-- a generator expression with two for: what it does -/
structure GxT2 (P : Program) (w : World) (A : Around) (elt tg tg1 iter1 : Expr) (ifs ifs1 : List Expr) (it : Value) (cenv : Env) (a : Addr) (g : Nat) (hit : Bool) (St : Nat → Shared → Prop) (St1 : Value → Nat → Shared → Prop) (Hit End : Shared → Prop) : Prop where
  no : ∀ s, ¬ St 0 s
  no1 : ∀ i s, ¬ St1 i 0 s
  calm : ∀ m s s', St m s → s'.heap = s.heap → s'.os = s.os → AllBare s'.gens → St m s'
  calm1 : ∀ i m s s', St1 i m s → s'.heap = s.heap → s'.os = s.os → AllBare s'.gens → St1 i m s'
  calmH : ∀ s s', Hit s → s'.heap = s.heap → s'.os = s.os → AllBare s'.gens → Hit s'
  calmE : ∀ s s', End s → (∀ b o, s.heap.get? b = some o → s'.heap.get? b = some o) → s'.os = s.os → AllBare s'.gens → End s'
  bareE : ∀ s, End s → AllBare s.gens
  self1 : ∀ (A' : Around) (i : Value) (m : Nat) (s : Shared) (Q : Value → Shared → Prop) (E : Value → Shared → Prop), St1 i m s → Q i s → wpAny (model P w) A' (pyIter i) Q E s
  turn : ∀ m s, St (m + 1) s → wpAny (model P w) (A.deeper cenv) (pyNext it) (fun r s1 => match r with
    | none => End s1
    | some v => wpAny (model P w) (A.deeper cenv) (letOwnedTupleGo tg it v) (fun _ s2 => wpAny (model P w) (A.deeper cenv) (assign tg cenv v) (fun _ s3 => wpAny (model P w) (A.deeper cenv) (tstG ifs cenv) (fun ok s4 =>
        if ok = true then wpAny (model P w) (A.deeper cenv) (eval iter1 cenv) (fun x s5 => wpAny (model P w) (A.deeper cenv) (pyIter x) (fun i s6 => ∃ m', m' ≤ m ∧ St1 i m' s6) (fun _ _ => False) s5) (fun _ _ => False) s4
        else St m s4) (fun _ _ => False) s3) (fun _ _ => False) s2) (fun _ _ => False) s1) (fun _ _ => False) s
  turn1 : ∀ i m s, St1 i (m + 1) s → wpAny (model P w) (A.deeper cenv) (pyNext i) (fun r s1 => match r with
    | none => ∃ m', m' ≤ m ∧ St m' s1
    | some v => wpAny (model P w) (A.deeper cenv) (letOwnedTupleGo tg1 i v) (fun _ s2 => wpAny (model P w) (A.deeper cenv) (assign tg1 cenv v) (fun _ s3 => wpAny (model P w) (A.deeper cenv) (tstG ifs1 cenv) (fun ok s4 =>
        if ok = true then wpAny (model P w) (A.deeper cenv) (eval elt cenv) (fun y s5 => ∃ b, y = .bool b ∧ AllBare s5.gens ∧ s5.heap.NoLimit ∧ s5.heap.IsGen a g ∧ (if b = hit then Hit s5 else St1 i m s5)) (fun _ _ => False) s4
        else St1 i m s4) (fun _ _ => False) s3) (fun _ _ => False) s2) (fun _ _ => False) s1) (fun _ _ => False) s
section
variable {P : Program} {w : World} {A : Around} {elt tg tg1 iter iter1 : Expr} {ifs ifs1 : List Expr} {scope : Scope} {pos : Pos} {it : Value} {cenv : Env} {a : Addr} {g : Nat} {hit : Bool} {St : Nat → Shared → Prop} {St1 : Value → Nat → Shared → Prop} {Hit End : Shared → Prop}
/-- what any, all themselves ask of it -/
theorem GxT2.out (T : GxT2 P w A elt tg tg1 iter1 ifs ifs1 it cenv a g hit St St1 Hit End) : GxT P w A elt tg it cenv a g hit (fun _ _ => False) Hit End :=
  ⟨fun _ h => h, fun _ _ _ h => h.elim, T.calmH, T.calmE, T.bareE, fun _ _ h => h.elim⟩
end
/-! ### read over plain heaps -/
end L2
namespace L2
open PySem PySem.Spec PyProof.Rows GenW
end L2
namespace GxR
open PySem PySem.Spec PyProof.Rows L2 GenW
end GxR
/-! WL, part 50: any, all over a generator expression with two for and if. -/
namespace WL
open PySem PySem.Spec PyProof.Rows L2 GxR
end WL
/-! WL, part 51: a second name for a list, until the first turn of a loop is over. -/
namespace WL
open PySem PySem.Spec PyProof.Rows L2
end WL
/-! WL, part 52: len(set(t)), t a tuple of ints. -/
namespace WL
open PySem PySem.Spec PyProof.Rows L2
end WL
/-! GX, part 5: a dict comprehension with two for. -/
namespace L2
open PySem PySem.Spec PyProof.Rows
end L2
/-! GX, part 6: a dict comprehension with two for, as a value. -/
namespace L2
open PySem PySem.Spec PyProof.Rows
end L2
/-! WL, part 53: dict comprehensions with two for; sorted of a new dict, of a tuple of data. -/
namespace WL
open PySem PySem.Spec PyProof.Rows L2
end WL
/-! WL, part 54: sorted of a tuple of data. -/
namespace L2
open PySem PySem.Spec PyProof.Rows
end L2
namespace PySem.W
open PySem PySem.Calls PyProof.Rows
end PySem.W
namespace WL
open PySem PySem.Spec PyProof.Rows L2
end WL
/-! WL, part 55: a, b = x, y by names; a list moved into a list of lists. -/
namespace WL
open PySem PySem.Spec PyProof.Rows L2
end WL
/-! WL, part 56: a list of one's own goes into a list of lists. -/
namespace WL
open PySem PySem.Spec PyProof.Rows L2
end WL
set_option maxHeartbeats 2000000
/-! GX7: a generator expression within a generator expression: its code object is made at run time, and known. -/
namespace L2
open PySem PySem.Spec PyProof.Rows GenW
/-- a code object that was made at run time, its table at P -/
def CodeE (c P : Addr) : HO := .ext fun h => PySem.W.CodeHd h c P
/-- the table of such a one: whatever it holds -/
def TabE (P : Addr) : HO := .ext fun h => ∃ ps : Array Value, h.get? P = some { cls := .none, data := .fields ps } ∧ TriplesOk ps.toList
end L2
namespace GxR
open PySem PySem.Spec PyProof.Rows L2 GenW
/-- neither the module's names nor the builtins' -/
def OffM (mg : Str → Option Value) (P : Addr) : Prop := mainGlobals ≠ P ∧ ∀ bm, mg "__builtins__" = some (.ref bm) → bm ≠ P
end GxR
set_option maxHeartbeats 2000000
/-! GX8: any, all over a generator expression whose code object stays known: a generator expression may stand within. -/
namespace GxR
open PySem PySem.Spec PyProof.Rows L2 GenW
end GxR
namespace GxR
open PySem PySem.Spec PyProof.Rows L2 GenW
end GxR
/-! WL, part 57: generator expressions within generator expressions; tables whose code objects are known. -/
namespace WL
open PySem PySem.Spec PyProof.Rows L2 GxR
/-! ### what is said of the code objects stands for ever -/
/-! ### the tape, its tables, those with known code objects among them -/
section
variable {C : Cn} [Tbs C.K] {Γ : List Ety} {α β : Type}
/-- the code object at c is known -/
def CodeAt (mg : Str → Option Value) (c : Addr) (H : Hp) : Prop := ∃ P', H c = some (CodeE c P') ∧ H P' = some (TabE P') ∧ OffM mg P' ∧ c ≠ P'
def EvGC (mg : Str → Option Value) (c : Addr) (C : Cn) [Tbs C.K] (Γ : List Ety) (t : TE) (w : Wp α) (R : α → Rk) : Prop := ∀ (P : α → Prop) (X : Xn → Prop), w P X → ∀ B σ H fp, CodeAt mg c H → En B Γ σ H fp → Exok C B X →
  ∀ Q : VK, (∀ r v H', P r → Stp B H H' → R r B H H' v → Q v H') → t σ H Q
theorem EvGC.is {mg : Str → Option Value} {c : Addr} {t : TE} {w w' : Wp α} {R : α → Rk} (h : EvGC mg c C Γ t w R) (e : w = w') : EvGC mg c C Γ t w' R := e ▸ h
end
/-! ### the law: the tables are there, and empty -/
end WL
set_option maxHeartbeats 2000000
/-! GX9: any, all whose element is any, all; any, all in a def whose code objects are known. -/
namespace GxR
open PySem PySem.Spec PyProof.Rows L2 GenW
end GxR
/-! WL, part 58: a tuple once or more times. -/
namespace L2
open PySem PySem.Spec PyProof.Rows
end L2
namespace WL
open PySem PySem.Spec PyProof.Rows L2
end WL
/-! WL, part 59: instances: fields are read, methods are called. -/
namespace WL
open PySem PySem.Spec PyProof.Rows L2
/-- an instance whose fields are told; fp: itself and what its fields own -/
structure InsOwn (Ci : Addr) (fs : List (Str × Sl)) (H : Hp) (p : Addr) (kvs : List (Str × V)) (fp : List Addr) : Prop where
  at_ : ∃ dx, H p = some (.ins Ci dx kvs)
  me : p ∈ fp
  fld : ∀ f S, (f, S) ∈ fs → ∃ w fq, kvs.lookup f = some w ∧ S.own H w fq ∧ ∀ a ∈ fq, a ∈ fp ∧ a ≠ p
  cov : ∀ a ∈ fp, a = p ∨ ∃ f S w fq, (f, S) ∈ fs ∧ kvs.lookup f = some w ∧ S.own H w fq ∧ a ∈ fq ∧ ∀ b ∈ fq, b ∈ fp ∧ b ≠ p
  no : ∀ f, (∀ S, (f, S) ∉ fs) → kvs.lookup f = none
  len : kvs.length ≤ fs.length
theorem InsOwn.dom {Ci : Addr} {fs : List (Str × Sl)} {H : Hp} {p : Addr} {kvs : List (Str × V)} {fp : List Addr} {a : Addr} (h : InsOwn Ci fs H p kvs fp) (ha : a ∈ fp) : ∃ o, H a = some o ∧ still o = false := by
  rcases h.cov a ha with e | ⟨f, S, w, fq, _, _, ho, hq, _⟩
  · obtain ⟨dx, h2⟩ := h.at_
    rw [e]
    exact ⟨_, h2, rfl⟩
  · exact S.dom ho hq
theorem InsOwn.keep {Ci : Addr} {fs : List (Str × Sl)} {H H' : Hp} {p : Addr} {kvs : List (Str × V)} {fp : List Addr} (h : InsOwn Ci fs H p kvs fp) (k : ∀ a o, H a = some o → (a ∈ fp ∨ still o = true) → H' a = some o) : InsOwn Ci fs H' p kvs fp := by
  have kp : ∀ {S : Sl} {w : V} {fq : List Addr}, S.own H w fq → (∀ b ∈ fq, b ∈ fp ∧ b ≠ p) → S.own H' w fq := fun {S w fq} ho hs => S.keep ho fun a o e z => k a o e (z.imp (fun z => (hs a z).1) id)
  refine ⟨?_, h.me, fun f S hf => ?_, fun a ha => ?_, h.no, h.len⟩
  · obtain ⟨dx, h2⟩ := h.at_
    exact ⟨dx, k p _ h2 (.inl h.me)⟩
  · obtain ⟨w, fq, l, ho, hs⟩ := h.fld f S hf
    exact ⟨w, fq, l, kp ho hs, hs⟩
  · rcases h.cov a ha with e | ⟨f, S, w, fq, hf, l, ho, hq, hs⟩
    · exact .inl e
    · exact .inr ⟨f, S, w, fq, hf, l, kp ho hs, hq, hs⟩
/-- the instance at a -/
def insA (Ci a : Addr) (fs : List (Str × Sl)) : Sl where
  own := fun H v fp => v = .ref a ∧ ∃ kvs, InsOwn Ci fs H a kvs fp
  ro := false
  dom := fun ⟨_, _, h⟩ ha => h.dom ha
  keep := fun ⟨e, kvs, h⟩ k => ⟨e, kvs, h.keep k⟩
end WL
/-! WL, part 60: instances are made. -/
namespace WL
open PySem PySem.Spec PyProof.Rows L2
/-- the heap behind the making: the instance has no field yet -/
def mkH (H : Hp) (Ci a dx : Addr) : Hp := upd (upd H dx (.own a)) a (.ins Ci dx [])
section
variable {H : Hp} {Ci a dx : Addr}
theorem mk_keeps (ha : H a = none) (hd : H dx = none) (hne : dx ≠ a) : ∀ b o, H b = some o → mkH H Ci a dx b = some o := fun b o e => by
  unfold mkH
  rw [upd_ne (ne_of_none e ha), upd_ne (ne_of_none e hd)]
  exact e
theorem mk_at : mkH H Ci a dx a = some (.ins Ci dx []) := upd_same
theorem En.self {T : Option (Sl × V × List Addr)} {R : List (Addr × HO)} {Γ : List Ety} {σ : List (Option V)} (en : En ⟨H, [], T, R⟩ Γ σ H (fun _ => [])) (ha : H a = none) (hd : H dx = none) (hne : dx ≠ a) :
    En ⟨mkH H Ci a dx, [a], T, R⟩ (.sl (insA Ci a []) :: Γ) (some (.ref a) :: σ) (mkH H Ci a dx) (fun i => if i = 0 then [a] else []) := by
  have s : Stp ⟨H, [], T, R⟩ H (mkH H Ci a dx) := Stp.same en.tps (mk_keeps ha hd hne)
  have en2 := en.step s
  refine ⟨by rw [List.length_cons, List.length_cons, en.len], fun i S hi => ?_, fun i S hi => ?_, fun i hi => ?_, fun i j b h1 h2 => ?_, fun i b h => ?_, fun i b S hi _ h => ?_, fun i K' ds hi => ?_, fun i S hi => ?_, fun r hr => ?_, fun b o e => ⟨o, e, fun _ _ => rfl, fun _ => rfl⟩, s.ts⟩
  · cases i with
    | zero =>
      cases hi
      exact ⟨_, rfl, rfl, [], ⟨dx, mk_at⟩, List.mem_singleton.mpr rfl, fun f S h => (nomatch h), fun b hb => .inl (List.mem_singleton.mp hb), fun f _ => rfl, Nat.le_refl _⟩
    | succ i =>
      obtain ⟨v, h1, h2⟩ := en2.sl i S hi
      exact ⟨v, h1, h2⟩
  · cases i with
    | zero => cases hi
    | succ i => exact en2.tp i S hi
  · cases i with
    | zero => exact absurd rfl (hi _)
    | succ i => rfl
  · cases i with
    | zero => cases j with
      | zero => rfl
      | succ j => cases h2
    | succ i => cases h1
  · cases i with
    | zero =>
      have e : b = a := List.mem_singleton.mp h
      rw [e]
      exact TpSt.new en.tps ha
    | succ i => cases h
  · cases i with
    | zero => exact .inr (by simpa using h)
    | succ i => cases h
  · cases i with
    | zero => cases hi
    | succ i => exact en2.rd i K' ds hi
  · cases i with
    | zero => cases hi
    | succ i => exact en2.rb i S hi
  · obtain ⟨h1, h2, h3⟩ := en2.rr r hr
    refine ⟨h1, h2, fun i => ?_⟩
    cases i with
    | zero =>
      intro z
      have e : r.1 = a := List.mem_singleton.mp z
      have h0 := (en.rr r hr).1
      rw [e] at h0
      rcases h0 with h0 | ⟨o, h0⟩ <;> rw [ha] at h0 <;> cases h0
    | succ i => exact fun z => (nomatch z)
end
end WL
/-! WL, part 61: self.f = value; __init__. -/
namespace WL
open PySem PySem.Spec PyProof.Rows L2
end WL
/-! WL, part 62: an instance that holds another's thing. -/
namespace WL
open PySem PySem.Spec PyProof.Rows L2
end WL
/-! WL, part 63: sum of a tuple of ints. -/
namespace L2
open PySem PySem.Spec PyProof.Rows PySem.W PySem.Calls PyProof.V
end L2
namespace WL
open PySem PySem.Spec PyProof.Rows L2
end WL
/-! WL, part 64: short forms for instances; lists in if-expressions; the last row of a cascade. -/
namespace WL
open PySem PySem.Spec PyProof.Rows L2
end WL
/-! WL, part 65: for over reversed(xs), enumerate(xs), xs a name whose list the body leaves as it is. -/
namespace WL
open PySem PySem.Spec PyProof.Rows L2
end WL
set_option maxHeartbeats 1000000
/-! WL, part 67: an exception class of one's own over ValueError, whose __init__ says super().__init__(f'..') and keeps a number. -/
namespace WL
open PySem PySem.Spec PyProof.Rows L2
/-- what super() asks of the program's text -/
structure PSup (P : Program) (file : Str) : Prop where
  file : ((P.main.file : Str) == file) = true
  top : (P.main.scope.names.lookup ("super" : Str)).isSome = false
/-- a def of a class that closes over __class__ -/
structure FunS (K : PySem.W.Frag) (x qual : Str) (st : Stmt) (f : Addr) (fd : FuncData) (C cc cda : Addr) (file : Str) : Prop where
  ex : ∃ (oc : Value) (od : Option Addr) (kV doc pm : Value) (an : Option Addr) (ct : Value) (osl : Array (Option Value)),
    fd = PySem.W.fnX x qual (defArgs st) (defBody st) (defScope st) [("__class__", cc)] .none kV doc pm an (.ref cda) ct ∧ K.lookup f = some ⟨oc, od, .func fd, osl⟩ ∧ PySem.W.codeIn K (.ref cda) qual = true
  code : ∃ (ccl : Value) (cdd : Option Addr) (vs : Array Value) (ccs : Array (Option Value)) (tf : Tok), K.lookup cda = some ⟨ccl, cdd, .fields vs, ccs⟩ ∧ vs[2]? = some (.str file tf)
  cell : ∃ (cl : Value) (cld : Option Addr) (csl : Array (Option Value)), K.lookup cc = some ⟨cl, cld, .cell (some (.ref C)), csl⟩
theorem FunS.binds {K : PySem.W.Frag} {x qual : Str} {st : Stmt} {f : Addr} {fd : FuncData} {ps : List Str} {C cc cda : Addr} {file : Str} (F : FunS K x qual st f fd C cc cda file)
    (h : ∀ (kV doc pm : Value) (an : Option Addr) (cdv ct : Value) (us : List Value), us.length = ps.length → bindArgs (PySem.W.fnX x qual (defArgs st) (defBody st) (defScope st) [("__class__", cc)] .none kV doc pm an cdv ct) ⟨us, []⟩ = pure (ps.zip us)) : Binds K fd ps [] := by
  obtain ⟨oc, od, kV, doc, pm, an, ct, osl, rfl, lk, hcd⟩ := F.ex
  exact .all (h kV doc pm an _ ct)
/-- the class -/
structure SupC (K : PySem.W.Frag) (C : Addr) : Prop where
  o : OexC K C
  sup : PySem.W.ks_superIn K C C "__init__" = some (some (.builtin "ValueError.__init__"))
  any : PySem.W.nsIn K cStatics "thirdparty.any" = some none
  ve : PySem.W.subIn K (.ref C) (.type "ValueError") = some true
  self : PySem.W.mroIn K C (.ref C) = some true
theorem callWith_mw {M : Model} {A : Around} {E : Value → Shared → Prop} {s : Shared} {i : String} {u x : Addr} {pos : Pos} {env : Env} {e : Expr} {rest : List Expr} {Q : Value → Shared → Prop}
    (h : wpAny M A (spliced (backTo pos (starEach (e :: rest) env))) (fun vs s₁ => PySem.W.KxsAt i u x s₁.heap ∧ wpAny M A (call (.ref u) vs) Q E s₁) E s)
    (he : starEach (e :: rest) env = (false, eval e env) :: starEach rest env := by rfl) (hplain : (backTo pos (starEach rest env)).any (·.1) = false := by rfl) :
    wpAny M A (callWith pos (.ref u) [] (backTo pos (starEach (e :: rest) env)) []) Q E s := by
  rw [he] at h ⊢
  refine PySem.W.kxs_callWith (i := i) (x := x) (by show (false || (backTo pos (starEach rest env)).any (·.1)) = false; rw [hplain]; rfl) ?_
  exact PySem.Calls.evalArgs_plain h
theorem boot_super : bootBuiltins ("super" : Str) = some (.type "super") := by first | boot_by_name | rfl | kernel_rfl
section
variable {X : Cx} {pins : List (Addr × Obj)} {σ : L2.St} {H : Hp} {s : Shared} {a C u : Addr}
/-- the bound __init__ is called -/
theorem mw_ok {us : List Value} {Q : Value → Shared → Prop} {E : Value → Shared → Prop} {A : Around} (T : OexC X.K C) (I : Inv X pins σ H s) (e : H a = some (exo a C none)) (hu : PySem.W.KxsAt "ValueError.__init__" u a s.heap) (hl : us.length ≤ sizeLine) (h : ∀ s', Inv X pins σ H s' → Q .none s') :
    wpAny (model X.prog X.w) A (call (.ref u) us) Q E s := by
  obtain ⟨nm, q, N, bs, bm, sn, sub, ab, col, dd, k0, k1, k2, k3, k5, hC, hbm⟩ := T.cls
  obtain ⟨t1, ho⟩ := exo_at I.hok e
  have hC' := I.kIn _ _ hC
  obtain ⟨hp, g, d, t, os⟩ := s
  refine wpAny_call (codeAny_of_tree ?_)
  show wpAny _ A.in1 (callAny (.ref u) ⟨us, []⟩) _ _ _
  simp only [callAny]
  refine wpAny_bind (wpAny_load hu ?_)
  simp only [PySem.W.kxs_mw, show (Value.type "method-wrapper" == Value.type "method" || Value.type "method-wrapper" == Value.type "builtin_function_or_method" || Value.type "method-wrapper" == Value.type "method-wrapper") = true by decide, if_true]
  refine PySem.W.KFB.if_so (by decide) ?_
  refine wpAny_bind (PySem.W.check_bound_init F.excBase_ValueError.toExcCallFacts hC' ho rfl ?_)
  refine wpAny_bind (wpAny_pure (wpAny_pure ?_))
  refine ⟨plainId_quiet F.excBase_ValueError.init.plain _, codeAny_builtin F.excBase_ValueError.initEntry ?_⟩
  refine PySem.W.exc_init_tree (cls := .ref C) (t0 := t1) (dv := none) (c2 := .none) (c3 := .none) (b4 := .bool false) ho hl fun h' k hx _ => ?_
  have J := I.write (t' := t) (x := a) (e := a) (o := exo a C none) (by rw [e]; exact True.intro) (.inl rfl) k ⟨_, hx⟩ (exo_ok hx)
  have eu : upd H a (exo a C none) = H := by
    funext b
    by_cases hb : b = a
    · rw [hb, upd_same, e]
    · rw [upd_ne hb]
  rw [eu] at J
  exact h _ J
/-- super().__init__(e) -/
theorem sup_stmt {body : List Stmt} {f cc cda : Addr} {fd : FuncData} {file self : Str} {ar : Arg} {e : Expr} {te : TE} {p0 p1 p2 p3 p4 : Pos} {Q : Hp → Prop} {ob : Obj} {pl : Sem Bool} (hP : PSup X.prog file) (SC : SupC X.K C) (I : Inv X [] σ H s)
    (hks : X.env.kindOf "super" = some .globalImplicit) (hkc : X.env.kindOf "__class__" = some .free) (hkl : X.env.kindOf self = some .local) (hcl : X.env.cells.lookup ("__class__" : Str) = some cc) (hfu : X.env.func = some f) (hco : X.env.code = .ref cda)
    (hf : X.K.lookup f = some ob) (hfd : ob.data = .func fd) (hp : (fd.params.posonlyargs ++ fd.params.args).head? = some ar) (har : ar.arg = self) (hcode : ∃ (ccl : Value) (cdd : Option Addr) (vs : Array Value) (ccs : Array (Option Value)) (tf : Tok), X.K.lookup cda = some ⟨ccl, cdd, .fields vs, ccs⟩ ∧ vs[2]? = some (.str file tf))
    (hcell : ∃ (cl : Value) (cld : Option Addr) (csl : Array (Option Value)), X.K.lookup cc = some ⟨cl, cld, .cell (some (.ref C)), csl⟩) (hm : X.mg "super" = none) (hN : X.N[0]? = some self) (hσ : σ[0]? = some (some (.ref a))) (ha : H a = some (exo a C none))
    (he : PE X e te) (hq : te σ H fun _ H1 => H1 a = some (exo a C none) ∧ Q H1) (hsw : swapsWith (.Call (.Attribute (.Call (.Name "super" p0) [] [] p1) "__init__" p2) [e] [] p3) none p4.line X.env = pure false := by rfl)
    (htm : ∀ {Q1 Q2 : VK}, te σ H Q1 → (∀ v H', Q1 v H' → Q2 v H') → te σ H Q2)
    (hev : eval (.Call (.Attribute (.Call (.Name "super" p0) [] [] p1) "__init__" p2) [e] [] p3) X.env = (do
      let ov ← attributeBase (.Call (.Name "super" p0) [] [] p1) "__init__" X.env (eval (.Call (.Name "super" p0) [] [] p1) X.env)
      standAt p2.atName
      let (f, first) ← holding [ov] (getMethod ov "__init__" pl)
      callWith p3 f first (backTo p3 (starEach [e] X.env)) []) := by rfl) (hst : starEach [e] X.env = (false, eval e X.env) :: starEach [] X.env := by rfl) :
    _root_.PySem.wpAt (model X.prog X.w) X.A (.func body X.env) (exec (.Expr (.Call (.Attribute (.Call (.Name "super" p0) [] [] p1) "__init__" p2) [e] [] p3) p4) X.env) (fun fl s' => fl = .next ∧ ∃ H1, Inv X [] σ H1 s' ∧ Q H1) X.xe s := by
  obtain ⟨ccl, cdd, vs, ccs, tf, hcd, hvs⟩ := hcode
  obtain ⟨cl, cld, csl, hcc⟩ := hcell
  obtain ⟨nm, q, N, bs, bm, sn, sub, ab, col, dd, k0, k1, k2, k3, k5, hC, hbm⟩ := SC.o.cls
  have KX := I.kIn
  refine PySem.ks_wpAt_Expr_any ?_ I.quiet hsw
  refine PySem.ks_wpAt_MethodCall ?_ hev
  refine PySem.ks_wpAt_super_base hks hkc (by decide) hfu (KX _ _ hf) hfd hp hco (KX _ _ hcd) rfl hvs hP.file hP.top ?_
  obtain ⟨mb, h1, h2⟩ := I.mod.blt
  refine PySem.W.ks_loadName_global I.ok.kind hks (Calls.loadGlobal_builtin (by rw [I.ok.glob]; exact I.mod.glob.keeps I.bk) hm (by rw [I.ok.blt]; exact h1.keeps I.bk) ((h2 "super" (by decide)).trans boot_super) ⟨rfl, ?_⟩)
  refine wpAny_loadName_free I.ok.kind hkc hcl ⟨_, KX _ _ hcc, rfl⟩ ?_
  obtain ⟨m, hns, hv⟩ := I.loc
  obtain ⟨uu, ru, lk⟩ := hv 0 self (.ref a) hN hσ (.inl hkl)
  obtain rfl : uu = Value.ref a := ru
  have hm' : m self = some (.ref a) := by
    rcases lk with ⟨_, z⟩ | ⟨z, _⟩
    · exact z
    · rcases z with z | z <;> (rw [hkl] at z; cases z)
  rw [har]
  refine wpAny_loadName_local I.ok.kind hkl hns hm' ?_
  obtain ⟨t1, ho⟩ := exo_at I.hok ha
  have hKC := KX _ _ hC
  have IA : PySem.W.InstAt s.heap a _ C none := ⟨ho, rfl, rfl, trivial⟩
  obtain ⟨hh, g, d, t, os⟩ := s
  refine PySem.ks_wpAny_isType_cls hKC rfl ⟨rfl, ?_⟩
  refine PySem.ks_wpAny_call_super hKC rfl ho rfl (fun c z => by cases z) (PySem.W.looks_mroIn KX SC.self) (fun h' hso k => ?_)
  have I2 : Inv X [] σ H ⟨h', g, d, t, os⟩ := I.kept (t' := t) k
  have KX2 := I2.kIn
  have hcl2 : PySem.W.clsIn X.K C = some { name := nm, bases := bs, mro := .ref C :: bm, ns := N, qualname := q, hasDict := true, slotNames := sn, subclasses := sub, abstract := ab, collection := col, hasDel := false } := by unfold PySem.W.clsIn; rw [hC] <;> rfl
  have hsup := SC.sup
  unfold PySem.W.ks_superIn at hsup
  rw [hcl2] at hsup
  have hsup : PySem.W.alongIn X.K "__init__" (((Value.ref C :: bm).dropWhile (· != .ref C)).drop 1) = some (some (.builtin "ValueError.__init__")) := hsup
  have hI : PySem.W.Looks (model X.prog X.w) h' (isInstance (.ref a) (.type "ValueError")) true := (PySem.W.InstAt.type (⟨k _ _ ho, rfl, rfl, trivial⟩ : PySem.W.InstAt h' a _ C none)).andThen (PySem.W.looks_subIn KX2 SC.ve)
  refine PySem.W.kxs_getMethod PySem.W.kxs_ValueError hso (PySem.W.looks_opaque KX2 SC.any) (l₀ := .ref C :: bm) (l := ((Value.ref C :: bm).dropWhile (· != .ref C)).drop 1) ?_ rfl KX2 hsup hI (PySem.W.ks_ne KX IA hcl2) (by decide) ?_
  · exact fun A Q E s k q => wpAny_bind ((PySem.W.looks_clsIn KX2 hcl2) A _ E s k (wpAny_pure q))
  have kp : ∀ b o, h'.get? b = some o → (h'.push (PySem.W.kxs_mw "ValueError.__init__" a)).get? b = some o := fun b o z => Heap.get?_push_of_some _ z
  have I3 : Inv X [] σ H ⟨h'.push (PySem.W.kxs_mw "ValueError.__init__" a), g, d, t + 1, os⟩ := I2.kept (t' := t + 1) kp
  have hfp := I2.fpOk (H' := H) (Nat.le_refl h'.objs.size) (I2.hok.fresh (Nat.le_refl _))
  have I4 : Inv X [(h'.objs.size, PySem.W.kxs_mw "ValueError.__init__" a)] σ H ⟨h'.push (PySem.W.kxs_mw "ValueError.__init__" a), g, d, t + 1, os⟩ := I3.pins_of fun p hp => by
    have z := List.mem_singleton.mp hp
    subst z
    exact ⟨Heap.get?_push_at rfl rfl, I2.hok.fresh (Nat.le_refl _), Ne.symm (Nat.ne_of_lt I2.lt), I2.nofs (Nat.le_refl _), fun v z => by cases z⟩
  refine callWith_mw (i := "ValueError.__init__") (x := a) (thn ((pa_cons he pa_nil hst).run p3 _ _ σ H (fun vs H1 => vs.length ≤ 1000 ∧ H1 a = some (exo a C none) ∧ Q H1) I4 ?_) fun us s4 hh4 => ?_) hst
  · have tm : ∀ {Q1 Q2 : VK}, te σ H Q1 → (∀ v H', Q1 v H' → Q2 v H') → te σ H Q2 := htm
    exact tm hq fun v H' z => ⟨by show 1 ≤ 1000; decide, z⟩
  obtain ⟨vs, H1, I5, r5, hl5, ha5, q5⟩ := hh4
  have hpin := I5.pin (h'.objs.size, PySem.W.kxs_mw "ValueError.__init__" a) (List.mem_append_right _ (List.mem_singleton.mpr rfl))
  have I6 : Inv X [] σ H1 s4 := I5.pins_of fun p hp => by cases hp
  exact ⟨hpin.1, mw_ok SC.o I6 ha5 hpin.1 (by rw [← r5.length, sizeLine_eq]; omega) fun s' J => ⟨rfl, H1, J, q5⟩⟩
end
/-! ### the def -/
/-- C.__init__(self, number), self the exception that is being made -/
def spNum (C : Addr) (fld : Str) : Sp := fun vs H Q _ => ∃ (a : Addr) (n : Int), vs = [.ref a, .int n] ∧ n.natAbs < 10 ^ 9 ∧ H a = some (exo a C none) ∧ ∀ dx, H dx = none → dx ≠ a → Q .non (upd (upd H dx (exd dx [(fld, .int n)])) a (exo a C (some dx)))
section
variable {P : Program} {w : World} {K : PySem.W.Frag} {mg : Str → Option Value} {base : Heap}
/-- f'..{number}..' -/
def tMsg (c1 c2 : Str) : TE := fun σ H Q => tJs [tC (.str c1), tFmt (tVar 1), tC (.str c2)] Str.empty σ H fun out H1 => Q (.str out) H1
theorem tjs_msg {c1 c2 : Str} {n : Int} {σ : L2.St} {H : Hp} {Q : VK} (h1 : c1.length ≤ 1000) (h2 : c2.length ≤ 1000) (hn : n.natAbs < 10 ^ 9) (hσ : σ[1]? = some (some (.int n))) (h : ∀ y, Q (.str y) H) : tMsg c1 c2 σ H Q := by
  have hl : (Str.ofString (toString n)).length ≤ 10 := by
    rw [PySem.ofString_length]
    exact int_text_length_le10 (k := 9) (by decide) hn
  have hlog : n.natAbs.log2 < 1920 := by
    rcases Nat.eq_zero_or_pos n.natAbs with z | z
    · rw [z]; decide
    · exact (Nat.log2_lt (by omega)).mpr (Nat.lt_trans hn (Nat.lt_of_lt_of_le (by decide : 10 ^ 9 < 2 ^ 30) (Nat.pow_le_pow_right (by decide) (by decide))))
  have e0 : (Str.empty : Str).length = 0 := rfl
  refine ⟨c1, rfl, ?_, .int n, hσ, .inr ⟨n, rfl, hlog, _, rfl, ?_, c2, rfl, ?_, h _⟩⟩
  · rw [sizeLine_eq, Str.length_append]; omega
  · rw [sizeLine_eq, Str.length_append, Str.length_append]; omega
  · rw [sizeLine_eq, Str.length_append, Str.length_append, Str.length_append]; omega
theorem tjs_mono {c1 c2 : Str} {σ : L2.St} {H : Hp} {Q1 Q2 : VK} (h : tMsg c1 c2 σ H Q1) (k : ∀ v H', Q1 v H' → Q2 v H') : tMsg c1 c2 σ H Q2 := by
  obtain ⟨y, e, l, v, hv, q⟩ := h
  refine ⟨y, e, l, v, hv, ?_⟩
  rcases q with ⟨y2, e2, l2, y3, e3, l3, y4, e4, l4, q⟩ | ⟨i, e2, l2, y3, e3, l3, y4, e4, l4, q⟩
  · exact .inl ⟨y2, e2, l2, y3, e3, l3, y4, e4, l4, k _ _ q⟩
  · exact .inr ⟨i, e2, l2, y3, e3, l3, y4, e4, l4, k _ _ q⟩
theorem fn_sup {x qual self num fld c1 c2 : Str} {st : Stmt} {f : Addr} {fd : FuncData} {C cc cda : Addr} {file : Str} {k : Nat} {p0 p1 p2 p3 p4 p5 p6 p7 p8 p9 p10 p11 p12 p13 : Pos} {j1 j2 : Nat} {ar : Arg} (Fu : FunS K x qual st f fd C cc cda file) (hP : PSup P file) (SC : SupC K C) (S : NdefX.NScope [self, num, "__class__"] [self, num] ["__class__"] (defScope st))
    (hfld : PySem.W.findIn K (.ref C) fld = some none) (hm : mg "super" = none) (hks : (defScope st).names.lookup ("super" : Str) = some .globalImplicit) (hp : ((defArgs st).posonlyargs ++ (defArgs st).args).head? = some ar) (har : ar.arg = self) (h1 : c1.length ≤ 1000) (h2 : c2.length ≤ 1000) (hd1 : (num == ("__debug__" : Str)) = false) (hd2 : (num == ("__classdict__" : Str)) = false) (hd3 : (self == ("__debug__" : Str)) = false) (hd4 : (self == ("__classdict__" : Str)) = false)
    (hbody : defBody st = [.Expr (.Call (.Attribute (.Call (.Name "super" p0) [] [] p1) "__init__" p2) [.JoinedStr [.Constant (.str c1) j1 p5, .FormattedValue (.Name num p6) (-1) none p7, .Constant (.str c2) j2 p8] p9] [] p3) p4, .Assign [.Attribute (.Name self p10) fld p11] (.Name num p12) p13])
    (hev : ∀ env : Env, ∃ pl : Sem Bool, eval (.Call (.Attribute (.Call (.Name "super" p0) [] [] p1) "__init__" p2) [.JoinedStr [.Constant (.str c1) j1 p5, .FormattedValue (.Name num p6) (-1) none p7, .Constant (.str c2) j2 p8] p9] [] p3) env = (do
      let ov ← attributeBase (.Call (.Name "super" p0) [] [] p1) "__init__" env (eval (.Call (.Name "super" p0) [] [] p1) env)
      standAt p2.atName
      let (f, first) ← holding [ov] (getMethod ov "__init__" pl)
      callWith p3 f first (backTo p3 (starEach [.JoinedStr [.Constant (.str c1) j1 p5, .FormattedValue (.Name num p6) (-1) none p7, .Constant (.str c2) j2 p8] p9] env)) [])) :
    FnOk P w K mg base CX0 (k + 1) f fd [self, num] (spNum C fld) := by
  refine ⟨fun vs H Q E h => by obtain ⟨a, n, rfl, _⟩ := h; rfl, fun A outer s H args us vs Q E hr e0 hb r hsp => ?_⟩
  obtain ⟨oc, od, kV, doc, pm, an, ct, osl, rfl, lk, hcd⟩ := Fu.ex
  obtain ⟨a, n, rfl, hn, ha, q⟩ := hsp
  obtain ⟨cl, cld, csl, hcc⟩ := Fu.cell
  have KX : K.In s.heap := e0.mod.kin.keeps fun b o e => (e0.bs b o e).1
  have lim : s.heap.NoLimit := e0.mod.nolimit.keeps fun b o e => (e0.bs b o e).1
  let F : NdefX.NF := ⟨x, qual, defArgs st, defBody st, defScope st, [("__class__", cc)], cda⟩
  have lkc : ∀ {y : Str} {c : Addr}, ([(("__class__" : Str), cc)] : List (Str × Addr)).lookup y = some c → y = "__class__" ∧ c = cc := fun {y c} z => by
    by_cases e : y = ("__class__" : Str)
    · subst e
      have z' : (if (("__class__" : Str) == "__class__") = true then some cc else none) = some c := by simpa [List.lookup] using z
      rw [if_pos (by decide)] at z'
      exact ⟨rfl, (Option.some.inj z').symm⟩
    · exfalso
      have e' : (y == ("__class__" : Str)) = false := by simpa using e
      simp [List.lookup, e'] at z
  have hccH : H cc = none ∧ s.heap.get? cc = some ⟨cl, cld, .cell (some (.ref C)), csl⟩ := by
    have z := KX _ _ hcc
    have b := e0.mod.kin _ _ hcc
    exact ⟨(e0.bs _ _ b).2, z⟩
  have CA : NdefX.CellsAt F.cl ["__class__"] [none] s.heap H := ⟨rfl, fun y c z => by
      obtain ⟨_, rfl⟩ := lkc z
      exact ⟨hccH.1, _, _, hccH.2, rfl⟩, fun y z c h1 h2 => (lkc h1).1.trans (lkc h2).1.symm, fun i y hy => by
      match i, hy with
      | 0, hy =>
        cases hy
        exact ⟨cc, by simp [F, List.lookup], fun v hv => by cases hv⟩⟩
  refine PySem.ks_codeAny_call_defAt (fd := PySem.W.fnX x qual (defArgs st) (defBody st) (defScope st) [("__class__", cc)] .none kV doc pm an (.ref cda) ct) (body := defBody st) (binds := [self, num].zip us) hr.depth (KX _ _ lk) rfl lim (PySem.W.codeRec_of KX hcd) rfl hb S.nocell (fun ⟨y, _⟩ hy => S.par y (List.of_mem_zip hy).1) (fun h₁ hns kp => ?_) S.co S.gen S.kind
  have I : Inv (NdefX.ncx CX0 P w K mg base [self, num, "__class__"] F f A outer s H E) [] (NdefX.startF [self, num, "__class__"] [.ref a, .int n] [none]) H { s with heap := h₁, toks := s.toks + ([self, num].zip us).length } := NdefX.inv_startN S hr.hd e0 rfl r CA hns kp
  show _root_.PySem.wpAt (model P w) (A.deeper (NdefX.envF F f s.heap.objs.size)) (.func (defBody st) (NdefX.envF F f s.heap.objs.size)) (execs (defBody st) (NdefX.envF F f s.heap.objs.size)) _ _ _
  have hself : (defScope st).names.lookup self = some .local := S.par self (by simp)
  have hnum : (defScope st).names.lookup num = some .local := S.par num (by simp)
  let e : Expr := .JoinedStr [.Constant (.str c1) j1 p5, .FormattedValue (.Name num p6) (-1) none p7, .Constant (.str c2) j2 p8] p9
  have he : PE (NdefX.ncx CX0 P w K mg base [self, num, "__class__"] F f A outer s H E) e (tMsg c1 c2) := pe_joined (.cons pe_str (.cons (pe_fmt (pe_var (i := 1) rfl (.inl hnum) hd1 hd2)) (.cons pe_str .nil)))
  have hte : tMsg c1 c2 (NdefX.startF [self, num, "__class__"] [.ref a, .int n] [none]) H fun _ H1 => H1 a = some (exo a C none) ∧ H1 = H := tjs_msg h1 h2 hn rfl fun y => ⟨ha, rfl⟩
  obtain ⟨pl, hev⟩ := hev (NdefX.ncx CX0 P w K mg base [self, num, "__class__"] F f A outer s H E).env
  have hq := sup_stmt (body := defBody st) (e := e) (te := tMsg c1 c2) (Q := fun H1 => H1 = H) (p0 := p0) (p1 := p1) (p2 := p2) (p3 := p3) (p4 := p4) hP SC I hks (S.frk "__class__" (by simp)) hself (cc := cc) (by show List.lookup _ [(_, cc)] = _; simp [List.lookup]) rfl rfl lk rfl hp har Fu.code Fu.cell hm rfl rfl ha he hte (by rfl) tjs_mono hev (by rfl)
  rw [hbody]
  rw [hbody] at hq
  refine PySem.ks_wpAt_execs_cons (PySem.ks_wpAt_mono hq (fun fl s1 h1 => ?_) fun e s' z => z)
  obtain ⟨rfl, H1, I1, rfl⟩ := h1
  refine _root_.PySem.wpAt_of_wpAny ?_
  have hrest : PSs (NdefX.ncx CX0 P w K mg base [self, num, "__class__"] F f A outer s H1 E) [.Assign [.Attribute (.Name self p10) fld p11] (.Name num p12) p13] (tOst K fld (tVar 0) (tVar 1)) := pss_one (ps_ost (pe_var (i := 0) rfl (.inl hself) hd3 hd4) (pe_var (i := 1) rfl (.inl hnum) hd1 hd2))
  refine wpAny_mono (hrest.run [] s1 _ H1 { nx := fun _ H' => Q .non H', rt := Q } I1 ⟨.int n, rfl, .ref a, rfl, a, C, rfl, SC.o, hfld, .inl ⟨ha, q⟩⟩) (fun fl s' hs => ?_) fun e s' hs => hs
  have fin : ∀ {σ' : L2.St} {H' : Hp} {v : V} {u : Value}, Inv (NdefX.ncx CX0 P w K mg base [self, num, "__class__"] F f A outer s H1 E) [] σ' H' s' → L2.RelV v u → Q v H' → CE outer P w H1 s Q u s' :=
    fun {σ' H' v u} J rv q => ⟨v, H', J.os, J.bare, J.base, J.hok, rv, q⟩
  cases fl with
  | ret u =>
    obtain ⟨v, σ', H', J, rv, q⟩ := hs
    exact fin J rv q
  | next =>
    obtain ⟨σ', H', J, q⟩ := hs
    exact fin (v := V.non) (u := Value.none) J rfl q
  | brk =>
    obtain ⟨_, _, _, q⟩ := hs
    exact False.elim q
  | cont =>
    obtain ⟨_, _, _, q⟩ := hs
    exact False.elim q
end
end WL
set_option maxHeartbeats 1000000
/-! WL, part 68: raise C(number); try: f(..) .. except C as e: e.number, isinstance(e, D). -/
namespace WL
open PySem PySem.Spec PyProof.Rows L2
section
variable {F : Type} {C : Cn} [Tbs C.K] {Γ : List Ety} {res : F → Oc} {N Bk Ct : Cont F}
/-! ### raise C(e) -/
def raiN (c : Nat) (w : Wp Int) : Wp F := bnd w fun n => grd (n.natAbs < 10 ^ 9) (thr (.num c n))
theorem sb_raiseN {Ca : Addr} {fld : Str} (c : Nat) (hv : (C.ct c).1 = .ref Ca) (hf : (C.ct c).2 = fld) {te : TE} {w : Wp Int} (h : EvG C Γ te w (fun n => RF C.K (eI n))) :
    SimB C res N Bk Ct (fun _ σ H => tMkO Ca (spNum Ca fld) [] (tCons te tNil) σ H fun cls d H' => C.E cls d H') Γ (raiN c w) := fun P X hm B D ex f n b c' σ H fp en =>
  h _ X hm B σ H fp en ex _ fun i v H1 hp s hr => by
    have e1 := Fz.int_inv (n := i) hr
    subst e1
    refine ⟨by show 1 ≤ 1000; decide, fun a ha => ⟨a, i, rfl, hp.1, upd_same, fun dx hd hne => ?_⟩⟩
    have hd1 : H1 dx = none := by rw [upd_ne hne] at hd; exact hd
    refine ⟨rfl, dx, [(fld, .int i)], upd_same, by rw [upd_ne hne, upd_same], hd1, ?_⟩
    have e2 : upd (del (upd (upd (upd H1 a (exo a Ca none)) dx (exd dx [(fld, .int i)])) a (exo a Ca (some dx))) a) dx (.xd [(fld, .int i)]) = upd H1 dx (.xd [(fld, .int i)]) := by
      funext b
      by_cases hb : b = dx
      · rw [hb, upd_same, upd_same]
      · rw [upd_ne hb, upd_ne hb]
        by_cases hb2 : b = a
        · rw [hb2, del_same, ha]
        · rw [del_ne hb2, upd_ne hb2, upd_ne hb, upd_ne hb2]
    rw [e2]
    have s2 : Stp B H (upd H1 dx (.xd [(fld, .int i)])) := s.trans (.new s.ts hd1)
    have := ex.ok (.num c i) (C.ct c).1 (some dx) _ hp.2 (en.step s2).fr s2.ts (.num c i dx (by rw [upd_same, hf]))
    rw [hv] at this
    exact this
theorem ps_raiseN {X : Cx} {K : PySem.W.Frag} {W : WX} {x fld : Str} {Ca fI : Addr} {k : Nat} {fd : FuncData} {ps : List Str} {e : Expr} {te : TE} {p pos rpos : Pos} (hK : X.K = K) (T : OexC K Ca) (iC : PySem.W.findIn K (.ref Ca) "__init__" = some (some (.ref fI))) (tI : PySem.W.typeIn K (.ref fI) = some (.type "function"))
    (F1 : FnOk X.prog X.w X.K X.mg X.base CX0 k fI fd ps (spNum Ca fld)) (hr : Room (k + 1) X.A) (hb : Binds X.K fd ps []) (hg : Gl X x) (hm : X.mg x = some (.ref Ca)) (hc : X.calm = true) (tk : Takes X W) (he : PE X e te)
    (hdb : (x == ("__debug__" : Str)) = false := by decide) (hst : starEach [e] X.env = (false, eval e X.env) :: starEach [] X.env := by rfl) (hpl : (backTo pos (starEach [] X.env)).any (·.1) = false := by rfl) :
    PS X (.Raise (some (.Call (.Name x p) [e] [] pos)) none rpos) (fun _ σ H => tMkO Ca (spNum Ca fld) [] (tCons te tNil) σ H fun cls d H' => W cls d σ H') := by
  subst hK
  exact ps_raise hc tk (pmk_oex T iC tI F1 hr hb .nil pass0 hg hm (pa_cons he pa_nil hst) hdb hst hpl)
/-! ### what was caught, with its number -/
def xnS (a d : Addr) (f : Str) (n : Int) : Sl where
  own := fun H v fp => v = .ref a ∧ fp = [] ∧ H d = some (.xd [(f, .int n)])
  ro := false
  dom := fun h ha => by rw [h.2.1] at ha; cases ha
  keep := fun h k => ⟨h.1, h.2.1, k _ _ h.2.2 (.inr rfl)⟩
def tTryN (K : PySem.W.Frag) (cv : Value) (i : Nat) (Dc : Addr) (us : Addr → Addr → TS) (tb : WX → TS) : TS := fun D σ H => tb (wAs K cv i (fun a cls d D σ H => ∃ dd, (cls = .ref Dc ∧ d = some dd) ∧ us a dd D σ H) (fun _ _ _ _ => False) D) D σ H
theorem ps_tryN {X : Cx} {K : PySem.W.Frag} {x n : Str} {c : Value} {i : Nat} {body suite : List Stmt} {b₀ : Stmt} {np pos pos' : Pos} {tb : WX → TS} {us : Addr → Addr → TS} {Dc : Addr} (hK : X.K = K) (hs : X.stack = X.env :: X.outer) (hf : X.env.frame = some X.env.locals) (hN : X.N.Nodup) (hi : X.N[i]? = some n) (hln : X.env.kindOf n = some .local) (hc : Names X x c)
    (hb : ∀ (W : WX) (pn : List (Addr × Obj)) (xe : Value → Shared → Prop), Takes (X.tr pn xe) W → PSs (X.tr pn xe) body (tb W))
    (hsu : ∀ (a : Addr) (oe : Obj) (dd : Addr) (pn : List (Addr × Obj)), Zc (.ref Dc) (some dd) oe → (∃ vs, oe.data = .fields vs) → PSs (X.suite a ((a, oe) :: pn)) (b₀ :: suite) (us a dd)) :
    PS X (.Try body [.ExceptHandler (some (.Name x np)) (some n) (b₀ :: suite) pos'] [] [] pos) (tTryN K c i Dc us tb) := by
  subst hK
  refine ps_try_as hs hf hN hi hln hc takes0 (fun W pn xe tk _ => hb W pn xe tk) (fun a oe cls d pn hz hf => ⟨fun pins s σ H D I hh => ?_⟩)
  obtain ⟨dd, ⟨rfl, rfl⟩, h⟩ := hh
  exact (hsu a oe dd pn hz hf).run pins s σ H D I h
/-- try: f(..); .. except C as e: .. -/
def tryC {ι G : Type} (wa : Wp ι) (f : ι → Wp G) (mr mh : Wp F) : Wp F := fun P X => wa (fun x => f x (fun _ => mr P X) (fun xn => match xn with
  | .plain _ => mh P X
  | .num _ _ => False)) X
def tryN {ι G : Type} (wa : Wp ι) (f : ι → Wp G) (mr : Wp F) (mh : Int → Wp F) : Wp F := fun P X => wa (fun x => f x (fun _ => mr P X) (fun xn => match xn with
  | .plain _ => False
  | .num _ n => mh n P X)) X
variable {ι G : Type} {cv : Value} {Dc : Addr} {i : Nat} {ta : TA} {wa : Wp ι} {ct : Nat → Value × Str} {ag : ι → List Ag} {f : ι → Wp G} {rs : G → Oc} {tr : TS}
theorem sb_tryC {us : Addr → TS} {mr mh : Wp F} (hi : i < Γ.length) (hcls : ∀ c, PySem.W.exmOne C.K (ct c).1 cv = some true) (hcl2 : ∀ c, (ct c).1 = .ref Dc) (ha : EvA C Γ ta wa (fun x => (ag x).map (Ag.rk C.K)))
    (hb : SimB C res N Bk Ct tr Γ mr) (hs : ∀ a, SimB C res (unN i N) (unN i Bk) (unN i Ct) (us a) (Γ.set i (.sl (xcS a))) mh) :
    SimB C res N Bk Ct (tTryA C.K cv i Dc us (fun W => tSeq (tDrop (tCallS (spX C.K ct ag f rs) (WE W) ta)) tr)) Γ (tryC wa f mr mh) := fun P X hm B D ex fin n b c σ H fp en => by
  refine ha _ X hm B σ H fp en ex _ fun x vs H1 h1 s1 r1 => ?_
  obtain ⟨R, en'⟩ := args_en s1.ts r1
  have en1 := en.step s1
  refine ⟨x, _, _, B.T, R, _, h1, en', fun out v H' hp hf ht ho => ?_, ⟨ex.tb, fun xn v d H' hx hf ht hi' => ?_⟩⟩
  · have s2 : Stp B H1 H' := after_call hf ht
    exact hb P X hp B D ex fin n b c σ H' fp (en1.step s2)
  · have s2 : Stp B H1 H' := after_call hf ht
    cases hi' with
    | plain c' =>
      refine ⟨true, hcls c', fun _ a _ => ⟨⟨hcl2 c', rfl⟩, ?_⟩, fun z => by cases z⟩
      exact hs a P X hx B { nx := fun σ' H' => D.nx (σ'.set i none) H', rt := D.rt, bk := fun σ' H' => D.bk (σ'.set i none) H', ct := fun σ' H' => D.ct (σ'.set i none) H' } ex fin (fun σ' H' h => n (σ'.set i none) H' h) (fun σ' H' h => b (σ'.set i none) H' h) (fun σ' H' h => c (σ'.set i none) H' h) (σ.set i (some (.ref a))) H' _ ((en1.step s2).put (S := xcS a) (v := .ref a) (q := []) hi ⟨rfl, rfl⟩ (fun _ z => absurd z (by simp)) (fun _ z => absurd z (by simp)) (fun _ _ z => absurd z (by simp)) fun _ _ z => absurd z (by simp))
    | num _ _ _ _ => exact hx.elim
theorem sb_tryN {us : Addr → Addr → TS} {mr : Wp F} {mh : Int → Wp F} {fld : Str} (hi : i < Γ.length) (hcls : ∀ c, PySem.W.exmOne C.K (ct c).1 cv = some true) (hcl2 : ∀ c, ct c = (.ref Dc, fld)) (ha : EvA C Γ ta wa (fun x => (ag x).map (Ag.rk C.K)))
    (hb : SimB C res N Bk Ct tr Γ mr) (hs : ∀ a d n, SimB C res (unN i N) (unN i Bk) (unN i Ct) (us a d) (Γ.set i (.sl (xnS a d fld n))) (mh n)) :
    SimB C res N Bk Ct (tTryN C.K cv i Dc us (fun W => tSeq (tDrop (tCallS (spX C.K ct ag f rs) (WE W) ta)) tr)) Γ (tryN wa f mr mh) := fun P X hm B D ex fin n b c σ H fp en => by
  refine ha _ X hm B σ H fp en ex _ fun x vs H1 h1 s1 r1 => ?_
  obtain ⟨R, en'⟩ := args_en s1.ts r1
  have en1 := en.step s1
  refine ⟨x, _, _, B.T, R, _, h1, en', fun out v H' hp hf ht ho => ?_, ⟨ex.tb, fun xn v d H' hx hf ht hi' => ?_⟩⟩
  · have s2 : Stp B H1 H' := after_call hf ht
    exact hb P X hp B D ex fin n b c σ H' fp (en1.step s2)
  · have s2 : Stp B H1 H' := after_call hf ht
    cases hi' with
    | plain c' => exact hx.elim
    | num c' nn d' hd =>
      refine ⟨true, hcls c', fun _ a _ => ⟨d', ⟨congrArg Prod.fst (hcl2 c'), rfl⟩, ?_⟩, fun z => by cases z⟩
      have hd' : H' d' = some (.xd [(fld, .int nn)]) := by
        have e := hcl2 c'
        have e2 : (ct c').2 = fld := congrArg Prod.snd e
        rw [← e2]
        exact hd
      exact hs a d' nn P X hx B { nx := fun σ' H' => D.nx (σ'.set i none) H', rt := D.rt, bk := fun σ' H' => D.bk (σ'.set i none) H', ct := fun σ' H' => D.ct (σ'.set i none) H' } ex fin (fun σ' H' h => n (σ'.set i none) H' h) (fun σ' H' h => b (σ'.set i none) H' h) (fun σ' H' h => c (σ'.set i none) H' h) (σ.set i (some (.ref a))) H' _ ((en1.step s2).put (S := xnS a d' fld nn) (v := .ref a) (q := []) hi ⟨rfl, rfl, hd'⟩ (fun _ z => absurd z (by simp)) (fun _ z => absurd z (by simp)) (fun _ _ z => absurd z (by simp)) fun _ _ z => absurd z (by simp))
/-- the suite's end: the name goes -/
theorem En.unset {B : Bs} {Γ : List Ety} {σ : List (Option V)} {H : Hp} {fp : Nat → List Addr} {i : Nat} {S : Sl} (en : En B (Γ.set i (.sl S)) σ H fp) (hi : Γ[i]? = some .un) : ∃ fp', En B Γ (σ.set i none) H fp' := by
  have hlt : i < Γ.length := (List.getElem?_eq_some_iff.mp hi).1
  have hne : ∀ {j : Nat} {e : Ety}, Γ[j]? = some e → e ≠ .un → j ≠ i := fun {j e} h ne z => by
    rw [z, hi] at h
    exact ne (Option.some.inj h).symm
  have hg : ∀ {j : Nat} {e : Ety}, Γ[j]? = some e → e ≠ .un → (Γ.set i (.sl S))[j]? = some e := fun {j e} h ne => by
    rw [List.getElem?_set_ne (hne h ne).symm]
    exact h
  have hσ : ∀ {j : Nat} {v : Option V}, j ≠ i → σ[j]? = some v → (σ.set i none)[j]? = some v := fun {j v} h e => by
    rw [List.getElem?_set_ne h.symm]
    exact e
  refine ⟨fun j => if j = i then [] else fp j, ⟨?_, fun j S' h => ?_, fun j S' h => ?_, fun j h => ?_, fun j k a hj hk => ?_, fun j a hj => ?_, fun j a S' h hr ha => ?_, fun j K' ds h => ?_, fun j S' h => ?_, fun r hr => ?_, en.fr, en.tps⟩⟩
  · rw [List.length_set]
    have := en.len
    rw [List.length_set] at this
    exact this
  · obtain ⟨v, hv, ho⟩ := en.sl j S' (hg h nofun)
    have n := hne h nofun
    exact ⟨v, hσ n hv, by show S'.own H v (if j = i then [] else fp j); rw [if_neg n]; exact ho⟩
  · obtain ⟨v, fq, ht, hv⟩ := en.tp j S' (hg h nofun)
    exact ⟨v, fq, ht, hσ (hne h nofun) hv⟩
  · show (if j = i then [] else fp j) = []
    by_cases hj : j = i
    · rw [if_pos hj]
    · rw [if_neg hj]
      exact en.off j fun S' hS => h S' (by rw [List.getElem?_set_ne (Ne.symm hj)] at hS; exact hS)
  · have hj : a ∈ (if j = i then [] else fp j) := hj
    have hk : a ∈ (if k = i then [] else fp k) := hk
    by_cases z : j = i
    · rw [if_pos z] at hj; cases hj
    · rw [if_neg z] at hj
      by_cases z2 : k = i
      · rw [if_pos z2] at hk; cases hk
      · rw [if_neg z2] at hk
        exact en.dis j k a hj hk
  · have hj : a ∈ (if j = i then [] else fp j) := hj
    by_cases z : j = i
    · rw [if_pos z] at hj; cases hj
    · rw [if_neg z] at hj
      exact en.nt j a hj
  · have n := hne h nofun
    have ha : a ∈ (if j = i then [] else fp j) := ha
    rw [if_neg n] at ha
    exact en.new j a S' (hg h nofun) hr ha
  · obtain ⟨r, us, h1, h2, h3⟩ := en.rd j K' ds (hg h nofun)
    exact ⟨r, us, h1, hσ (hne h nofun) h2, h3⟩
  · obtain ⟨v, fq, h1, h2, h3⟩ := en.rb j S' (hg h nofun)
    exact ⟨v, fq, hσ (hne h nofun) h1, h2, h3⟩
  · obtain ⟨h1, h2, h3⟩ := en.rr r hr
    refine ⟨h1, h2, fun j hj => ?_⟩
    have hj : r.1 ∈ (if j = i then [] else fp j) := hj
    by_cases z : j = i
    · rw [if_pos z] at hj; cases hj
    · rw [if_neg z] at hj
      exact h3 j hj
theorem la_unN {S : Sl} {m : Wp F} (hi : Γ[i]? = some .un) (h : Lands N Γ m) : Lands (unN i N) (Γ.set i (.sl S)) m := fun P X B σ H fp hm en => by
  obtain ⟨fp', en'⟩ := en.unset hi
  exact h P X B _ H fp' hm en'
/-- e.number -/
theorem ev_num {a d : Addr} {fld : Str} {n : Int} (h : Γ[i]? = some (.sl (xnS a d fld n))) : EvG C Γ (tXf a (.ref Dc) (some d) Dc fld (tVar i)) (ret n) (fun r => RF C.K (eI r)) := fun P X hw B σ H fp en ex Q q => by
  obtain ⟨v, hv, ho, _, hd⟩ := en.sl i _ h
  subst ho
  exact ⟨_, hv, rfl, rfl, d, _, .int n, rfl, hd, by simp [List.lookup], q n _ H hw (.refl en.tps) (.int n)⟩
theorem pe_xfK {X : Cx} {K : PySem.W.Frag} {a C : Addr} {oe : Obj} {cls : Value} {d : Option Addr} {pn : List (Addr × Obj)} {e : Expr} {te : TE} {pos : Pos} {n : Str} (hK : X.K = K) (T : XfC K C) (hno : PySem.W.findIn K (.ref C) n = some none)
    (hz : Zc cls d oe) (hf : ∃ vs, oe.data = .fields vs) (he : PE (X.suite a ((a, oe) :: pn)) e te) (hb : attributeBase e n X.env (eval e X.env) = eval e X.env := by rfl) :
    PE (X.suite a ((a, oe) :: pn)) (.Attribute e n pos) (tXf a cls d C n te) := by
  subst hK
  exact pe_xf T hno hz hf he hb
/-- isinstance(e, C), e with its dict -/
def rIsNum (K : PySem.W.Frag) (D a dd : Addr) : List V → Hp → VK → Prop := fun xs H Q => ∃ (c : V) (cv : Value) (b : Bool) (fs : List (Str × V)), xs = [.ref a, c] ∧ (∀ u, RelV c u → u = cv) ∧ PySem.W.kitOne K (.ref D) cv = some b ∧ H dd = some (.xd fs) ∧ Q (.bl b) H
theorem call_isN {X : Cx} {K : PySem.W.Frag} {a D dd : Addr} {oe : Obj} {pn : List (Addr × Obj)} (hK : X.K = K) (C : ExcC K D) (hz : Zc (.ref D) (some dd) oe) (hf : ∃ vs, oe.data = .fields vs) : CallR (X.suite a ((a, oe) :: pn)) (.builtin "isinstance") (rIsNum K D a dd) := by
  subst hK
  intro pins s σ H xs us Q I r h
  obtain ⟨c, cv, b, fs, rfl, hcv, e, hdd, q⟩ := h
  cases r with
  | cons rx rr =>
    cases rr with
    | cons rt rr =>
      cases rr
      cases rx
      have ec := hcv _ rt
      subst ec
      obtain ⟨hget, _⟩ := I.pin (a, oe) (List.mem_append.mpr (.inl List.mem_cons_self))
      obtain ⟨vs, hv⟩ := hf
      have hx : ObjOk X.prog X.w H s.heap dd (.xd fs) := I.hok dd _ hdd
      obtain ⟨mA, hns, _⟩ := hx
      obtain ⟨od, _, _, hod, _⟩ := hns
      have J : PySem.W.InstAt s.heap a oe D (some od) := ⟨hget, hz.1, by unfold PySem.W.notCls; rw [hv] <;> rfl, by rw [hz.2]; exact hod⟩
      have hcl : (PySem.W.clsIn X.K D).isSome = true := by
        obtain ⟨cd, hc, _⟩ := PySem.W.any_some C.hd
        rw [hc]
        rfl
      exact PySem.W.kia_one (PySem.W.kitx_exc hcl C.hg C.hk C.hs C.ha C.hn C.ht C.hm) I.kIn J e (fun z => nomatch z) fun tk => ⟨.bl b, H, I.kept (t' := tk) fun _ _ z => z, rfl, q⟩
theorem ev_isN {a d Fa : Addr} {fld : Str} {n : Int} (h : Γ[i]? = some (.sl (xnS a d fld n))) (hk : PySem.W.kitOne C.K (.ref Dc) (.ref Fa) = some true) :
    EvG C Γ (tCB (rIsNum C.K Dc a d) (tCons (tVar i) (tCons (tC (.ref Fa)) tNil))) (ret true) (fun r => RF C.K (eB r)) := fun P X hw B σ H fp en ex Q q => by
  obtain ⟨v, hv, ho, _, hd⟩ := en.sl i _ h
  subst ho
  refine ⟨_, hv, ?_⟩
  exact ⟨.ref Fa, .ref Fa, true, _, rfl, fun u hu => by cases hu; rfl, hk, hd, q true _ H hw (.refl en.tps) (.bl true)⟩
end
end WL
namespace WL
open PySem PySem.Spec PyProof.Rows L2
def ctNum (a : Addr) (f : Str) : Nat → Value × Str := fun _ => (.ref a, f)
theorem ctN1 {K : PySem.W.Frag} {a : Addr} {f : Str} {cv : Value} (h : PySem.W.exmOne K (.ref a) cv = some true) : ∀ c, PySem.W.exmOne K (ctNum a f c).1 cv = some true := fun _ => h
end WL
namespace WL
open PySem PySem.Spec PyProof.Rows L2
/-- a class of exceptions with its own __init__, over ValueError, as a test -/
def oexB (K : PySem.W.Frag) (C : Addr) : Bool := match K.lookup C with
  | some ⟨.type "type", _, .cls cd, sl⟩ => (match cd.mro, sl.toList with
    | .ref C' :: bm, [_, _, _, _, some (.builtin n), _] => C' == C && n == "ValueError.__new__" && !cd.hasDel && cd.hasDict && PySem.HandSPX.refsVE bm
    | _, _ => false)
  | _ => false
theorem oexB_ok {K : PySem.W.Frag} {C : Addr} (q : oexB K C = true) : ∃ nm q N bs bm sn sub ab col dd k0 k1 k2 k3 k5, K.lookup C = some (excClassObj nm q C N bs bm true sn sub ab col dd k0 k1 k2 k3 k5 "ValueError.__new__") ∧ PySem.HandSPX.refsVE bm = true := by
  unfold oexB at q
  split at q
  · rename_i dd cd sl ho
    split at q
    · rename_i C' bm k0 k1 k2 k3 n k5 hm hs
      simp only [Bool.and_eq_true, beq_iff_eq, Bool.not_eq_true'] at q
      obtain ⟨⟨⟨⟨rfl, rfl⟩, hdel⟩, hd⟩, ht⟩ := q
      obtain ⟨nm, bs, mro, ns, qn, hdc, sn, sb, ab, col, del⟩ := cd
      dsimp only at hm hdel hd
      subst hm hdel hd
      have hs' : sl = #[k0, k1, k2, k3, some (.builtin "ValueError.__new__"), k5] := by
        apply Array.toList_inj.mp
        rw [hs]
      subst hs'
      exact ⟨_, _, _, _, bm, _, _, _, _, _, _, _, _, _, _, ho, ht⟩
    · cases q
  · cases q
end WL
namespace Cf
open PySem L2 WL
/-- two lists of one length, item by item -/
inductive All2 {α β : Type} (R : α → β → Prop) : List α → List β → Prop
  | nil : All2 R [] []
  | cons {x : α} {y : β} {a : List α} {b : List β} : R x y → All2 R a b → All2 R (x :: a) (y :: b)
def l_take (n : Int) : Wp Int := grd (0 < n ∧ n < 1073741824) (anyW fun d => 0 ≤ d ∧ d < n)
/-- a table's cell, a table with another cell, how many options it has -/
def cell (t : List (List (List Int))) (i j : Nat) : List Int := (t.getD i []).getD j []
def setC (t : List (List (List Int))) (i j : Nat) (e : List Int) : List (List (List Int)) := t.set i ((t.getD i []).set j e)
def sizeT (t : List (List (List Int))) : Nat := (t.map fun r => (r.map List.length).sum).sum
def tgt (chs : List (Int × Int × Int)) (c : Int) : Int := (chs.getD c.toNat (0, 0, 0)).2.1
structure Shp (n : Nat) (t : List (List (List Int))) : Prop where
  len : t.length = n
  row : ∀ r ∈ t, r.length = n
/-- c may stay at its place for goal j -/
def OkC (chs : List (Int × Int × Int)) (t : List (List (List Int))) (j : Nat) (c : Int) : Prop := tgt chs c = j ∨ cell t (tgt chs c).toNat j ≠ []
def Live (n : Nat) (chs : List (Int × Int × Int)) (t : List (List (List Int))) : Prop := ∀ i j, i < n → j < n → ∀ c ∈ cell t i j, OkC chs t j c
def SubT (n : Nat) (s t : List (List (List Int))) : Prop := ∀ i j, i < n → j < n → ∀ c ∈ cell s i j, c ∈ cell t i j
/-- t is the greatest part of tab without dead ends -/
structure ThMax (chs : List (Int × Int × Int)) (t tab : List (List (List Int))) : Prop where
  shp : Shp tab.length t
  sub : ∀ i j, i < tab.length → j < tab.length → (cell t i j).Sublist (cell tab i j)
  live : Live tab.length chs t
  max : ∀ s, SubT tab.length s tab → Live tab.length chs s → SubT tab.length s t
end Cf
namespace Cf
open PySem L2 WL
def p_options (fabric : ((Int × (List (Int × Int × Int))) × (List (List (List Int))))) (c : Int) (d : Int) : Wp (List Int) :=
  bnd (ret fabric) fun u1 =>
  bnd (bnd (bnd (opt (atI (u1.1).2 c)) fun x2 => ret x2.2.1) fun x3 => opt (atI (u1.2) x3)) fun x4 => opt (atI x4 d)
def l_options (fabric_here : ((Int × (List (Int × Int × Int))) × (List (List (List Int))))) (c : Int) (d : Int) : Wp (List Int) :=
  bnd (bnd (bnd (opt (atI fabric_here.1.2 c)) fun x1 => ret x1.2.1) fun x2 => opt (atI fabric_here.2 x2)) fun x3 => opt (atI x3 d)
end Cf
namespace Cf
open PySem L2 WL
def l_mix2 (first : Int) (second : Int) : Wp Int :=
  bnd (ret (Int.fmod (((first * (48271 : Int)) + (second * (69621 : Int))) + (12345 : Int)) (2147483647 : Int))) fun value_1 =>
  ret (Int.fmod (((value_1 * (40692 : Int)) + (second * (7919 : Int))) + (1 : Int)) (2147483399 : Int))
def l_numbers (script : (List Int)) (count : Int) : Wp (List Int) :=
  bnd (ret ([] : List Int)) fun found_1 =>
  bnd (ret ((script.length : Int) + (1 : Int))) fun total_2 =>
  bnd (ret (cutA script none (some (63 : Int)))) fun l33 => forK (fun x3 (s4 : (Int × (List Int))) kc5 kb6 =>
  bnd (ret (if x3 < 0 then -x3 else x3)) fun number_7 =>
  bnd (noX (l_mix2 s4.1 (Int.fmod number_7 (2147483647 : Int)))) fun total_8 =>
  bnd (ret (decide ((1000000000000000000 : Int) ≤ number_7))) fun b9 => sel b9
  (bnd (grd (Rng (60 : Int)) (ret (span 0 ((60 : Int)).toNat))) fun l17 => forK (fun x10 (s11 : ((List Int) × Int)) kc12 kb13 =>
  bnd (ret (decide ((0 : Int) < s11.2))) fun b14 => sel b14
  (appW s11.1 (ret (Int.fmod s11.2 (1000 : Int))) fun s15 =>
  bnd (ret (Int.fdiv s11.2 (1000 : Int))) fun number_16 =>
  kc12 (s15, number_16))
  (kc12 (s11.1, s11.2))) (fun s11 : ((List Int) × Int) =>
  kc5 (total_8, s11.1)) l17 (s4.2, number_7))
  (bnd (grd (Rng (6 : Int)) (ret (span 0 ((6 : Int)).toNat))) fun l24 => forK (fun x18 (s19 : ((List Int))) kc20 kb21 =>
  appW s19 (bnd (noX (l_mix2 number_7 (x18 + (1 : Int)))) fun x23 => ret (Int.fmod x23 (1000 : Int))) fun s22 =>
  kc20 s22) (fun s19 : ((List Int)) =>
  kc5 (total_8, s19)) l24 s4.2)) (fun s4 : (Int × (List Int)) =>
  bnd (grd (Rng count) (ret (span 0 (count).toNat))) fun l32 => forK (fun x25 (s26 : (Int × (List Int))) kc27 kb28 =>
  bnd (ret (decide ((s26.2.length : Int) < count))) fun b29 => sel b29
  (bnd (noX (l_mix2 s26.1 (x25 + (3 : Int)))) fun total_30 =>
  appW s26.2 (ret (Int.fmod total_30 (1000 : Int))) fun s31 =>
  kc27 (total_30, s31))
  (kc27 (s26.1, s26.2))) (fun s26 : (Int × (List Int)) =>
  ret (cutA s26.2 none (some count))) l32 (s4.1, s4.2)) l33 (total_2, found_1)
def l_thinned2 (channels : (List (Int × Int × Int))) (n : Int) (table : (List (List (List Int)))) : Wp (List (List (List Int))) :=
  bnd (ret true) fun gone_1 =>
  whileW (fun s2 : (Bool × (List (List (List Int)))) => ret s2.1) (fun (s2 : (Bool × (List (List (List Int))))) kc3 kb4 =>
  bnd (ret false) fun gone_5 =>
  bnd (grd (Rng n) (ret (span 0 (n).toNat))) fun l31 => forK (fun x6 (s7 : ((List (List (List Int))) × Bool)) kc8 kb9 =>
  bnd (grd (Rng n) (ret (span 0 (n).toNat))) fun l30 => forK (fun x10 (s11 : ((List (List (List Int))) × Bool)) kc12 kb13 =>
  bnd (bnd (bnd (opt (atI s11.1 x6)) fun r14 => opt (atI r14 x10)) fun l23 => lcG (fun c15 => (bnd (bnd (bnd (opt (atI channels c15)) fun x16 => ret x16.2.1) fun x17 => ret (decide (x17 = x10))) fun x22 => sel x22 (ret true) (bnd (bnd (bnd (opt (atI channels c15)) fun x18 => ret x18.2.1) fun x20 => bnd (opt (atI s11.1 x20)) fun r19 => opt (atI r19 x10)) fun x21 => eqLN (List.map eI x21) (List.map eI ([] : List Int))))) (fun c15 => (ret c15)) l23) fun kept_24 =>
  bnd (bnd (bnd (opt (atI s11.1 x6)) fun r25 => opt (atI r25 x10)) fun x26 => eqLN (List.map eI kept_24) (List.map eI x26)) fun b27 => sel b27
  (set3W s11.1 kept_24 (ret x6) (ret x10) fun s28 =>
  bnd (ret true) fun gone_29 =>
  kc12 (s28, gone_29))
  (kc12 (s11.1, s11.2))) (fun s11 : ((List (List (List Int))) × Bool) =>
  kc8 (s11.1, s11.2)) l30 (s7.1, s7.2)) (fun s7 : ((List (List (List Int))) × Bool) =>
  kc3 (s7.2, s7.1)) l31 (s2.2, gone_5)) (fun s2 : (Bool × (List (List (List Int)))) =>
  bnd (ret s2.2) fun l35 => lcG (fun c32 => (ret true)) (fun c32 => (bnd (ret c32) fun l34 => lcG (fun c33 => (ret true)) (fun c33 => (ret c33)) l34)) l35) (gone_1, table)
def l_fabric2 (most : Int) (room : Int) : Wp ((Int × (List (Int × Int × Int))) × (List (List (List Int)))) :=
  bnd (bnd (noX (l_take (4 : Int))) fun x1 => ret ((2 : Int) + x1)) fun n_2 =>
  bnd (ret ([] : List (Int × Int × Int))) fun channels_3 =>
  bnd (bnd (bnd (noX (l_take ((most - n_2) + (1 : Int)))) fun x4 => ret (n_2 + x4)) fun x5 => grd (Rng x5) (ret (span 0 (x5).toNat))) fun l45 => forK (fun x6 (s7 : ((List (Int × Int × Int)))) kc8 kb9 =>
  bnd (sel (decide (x6 < n_2)) (ret x6) (noX (l_take n_2))) fun source_10 =>
  bnd (bnd (bnd (noX (l_take (n_2 - (1 : Int)))) fun x11 => ret ((source_10 + (1 : Int)) + x11)) fun x12 => grd (n_2 ≠ 0) (ret (Int.fmod x12 n_2))) fun target_13 =>
  appW s7 (bnd (bnd (noX (l_take room)) fun x15 => ret ((1 : Int) + x15)) fun x16 => ret (source_10, target_13, x16)) fun s14 =>
  kc8 s14) (fun s7 : ((List (Int × Int × Int))) =>
  bnd (ret ([] : (List (List (List Int))))) fun table_17 =>
  bnd (bnd (noX (l_take (3 : Int))) fun x18 => ret ((1 : Int) + x18)) fun density_19 =>
  bnd (grd (Rng n_2) (ret (span 0 (n_2).toNat))) fun l44 => forK (fun x20 (s21 : ((List (List (List Int))))) kc22 kb23 =>
  bnd (ret ([] : (List (List Int)))) fun row_24 =>
  bnd (grd (Rng n_2) (ret (span 0 (n_2).toNat))) fun l40 => forK (fun x25 (s26 : ((List (List Int)))) kc27 kb28 =>
  bnd (bnd (grd (Rng (s7.length : Int)) (ret (span 0 ((s7.length : Int)).toNat))) fun l33 => lcG (fun c29 => (bnd (bnd (bnd (opt (atI s7 c29)) fun x30 => ret x30.1) fun x31 => ret (decide (x31 = x20))) fun x32 => sel x32 (ret (!decide (x20 = x25))) (ret false))) (fun c29 => (ret c29)) l33) fun own_34 =>
  appW s26 (bnd (ret own_34) fun l38 => lcG (fun c36 => (bnd (noX (l_take (4 : Int))) fun x37 => ret (decide (x37 ≤ density_19)))) (fun c36 => (ret c36)) l38) fun s35 =>
  kc27 s35) (fun s26 : ((List (List Int))) =>
  appW s21 (ret s26) fun s39 =>
  kc22 s39) l40 row_24) (fun s21 : ((List (List (List Int)))) =>
  bnd (ret (n_2, s7)) fun x41 => bnd (ret n_2) fun y42 => bnd (noX (l_thinned2 s7 y42 s21)) fun r43 => ret (x41, r43)) l44 table_17) l45 channels_3
def l_home (fabric_here : ((Int × (List (Int × Int × Int))) × (List (List (List Int))))) (c : Int) (d : Int) : Wp Bool :=
  bnd (bnd (opt (atI fabric_here.1.2 c)) fun x1 => ret x1.2.1) fun x2 => ret (decide (x2 = d))
def l_allowed (fabric_here : ((Int × (List (Int × Int × Int))) × (List (List (List Int))))) (state_here : (Int × (List (List (Int × Int))))) (step : PyData) : Wp Bool :=
  bnd (ret fabric_here.1) fun u1 =>
  bnd (ret state_here.2) fun queues_2 =>
  bnd (bnd (bnd (opt (asT step)) fun x3 => opt (atI x3 (0 : Int))) fun x4 => eqW (eD x4) (eS ("put" : Str))) fun b5 => sel b5
  (bnd (opt ((asQ4 asS asI asI asI) step)) fun u6 =>
  bnd (sel (decide ((u1.1) ≤ (u6.2.1))) (ret true) (sel (decide ((u1.1) ≤ (u6.2.2.1))) (ret true) (ret (decide (((u1.2).length : Int) ≤ (u6.2.2.2)))))) fun b7 => sel b7
  (ret false)
  (bnd (bnd (bnd (opt (atI fabric_here.2 (u6.2.1))) fun x8 => opt (atI x8 (u6.2.2.1))) fun x9 => ret (decide ((u6.2.2.2) ∈ x9))) fun x14 => sel x14 (bnd (bnd (opt (atI queues_2 (u6.2.2.2))) fun x10 => ret (x10.length : Int)) fun x12 => bnd (bnd (opt (atI (u1.2) (u6.2.2.2))) fun x11 => ret x11.2.2) fun x13 => ret (decide (x12 < x13))) (ret false)))
  (bnd (bnd (bnd (opt (asT step)) fun x15 => opt (atI x15 (1 : Int))) fun x16 => opt (asI x16)) fun c_17 =>
  bnd (sel (decide (((u1.2).length : Int) ≤ c_17)) (ret true) (bnd (opt (atI queues_2 c_17)) fun x18 => eqW ((eT (e2 eI eI)) x18) ((eT (e2 eI eI)) ([] : (List (Int × Int)))))) fun b19 => sel b19
  (ret false)
  (bnd (bnd (bnd (opt (atI queues_2 c_17)) fun x20 => opt (atI x20 (0 : Int))) fun x21 => ret x21.2) fun d_22 =>
  bnd (bnd (bnd (opt (asT step)) fun x23 => opt (atI x23 (0 : Int))) fun x24 => eqW (eD x24) (eS ("out" : Str))) fun b25 => sel b25
  (noX (l_home fabric_here c_17 d_22))
  (bnd (bnd (bnd (opt (asT step)) fun x26 => opt (atI x26 (2 : Int))) fun x27 => opt (asI x27)) fun c2_28 =>
  bnd (bnd (noX (l_options fabric_here c_17 d_22)) fun x29 => ret (decide (c2_28 ∈ x29))) fun x34 => sel x34 (bnd (bnd (opt (atI queues_2 c2_28)) fun x30 => ret (x30.length : Int)) fun x32 => bnd (bnd (opt (atI (u1.2) c2_28)) fun x31 => ret x31.2.2) fun x33 => ret (decide (x32 < x33))) (ret false))))
def l_behind (state_here : (Int × (List (List (Int × Int))))) (step : PyData) : Wp (Int × (List (List (Int × Int)))) :=
  bnd (ret state_here) fun u1 =>
  bnd (bnd (ret (u1.2)) fun l3 => lcG (fun c2 => (ret true)) (fun c2 => (ret c2)) l3) fun rows_4 =>
  letK (fun s8 : ((List (List (Int × Int))) × Int) =>
  bnd (bnd (ret s8.1) fun l30 => lcG (fun c29 => (ret true)) (fun c29 => (ret c29)) l30) fun x31 => ret (s8.2, x31)) fun k9 =>
  bnd (bnd (bnd (opt (asT step)) fun x5 => opt (atI x5 (0 : Int))) fun x6 => eqW (eD x6) (eS ("put" : Str))) fun b7 => sel b7
  (app2W rows_4 (bnd (bnd (opt (asT step)) fun x10 => opt (atI x10 (3 : Int))) fun x11 => opt (asI x11)) (bnd (bnd (bnd (opt (asT step)) fun x13 => opt (atI x13 (2 : Int))) fun x14 => opt (asI x14)) fun x15 => ret ((u1.1), x15)) fun s12 =>
  bnd (ret ((u1.1) + (1 : Int))) fun count_16 =>
  k9 (s12, count_16))
  (pop2W rows_4 (bnd (bnd (opt (asT step)) fun x19 => opt (atI x19 (1 : Int))) fun x20 => opt (asI x20)) (ret (0 : Int)) fun p21 s22 =>
  bnd (bnd (bnd (opt (asT step)) fun x23 => opt (atI x23 (0 : Int))) fun x24 => eqW (eD x24) (eS ("go" : Str))) fun b25 => sel b25
  (app2W s22 (bnd (bnd (opt (asT step)) fun x26 => opt (atI x26 (2 : Int))) fun x27 => opt (asI x27)) (ret p21) fun s28 =>
  k9 (s28, (u1.1)))
  (k9 (s22, (u1.1))))
def l_steps (fabric_here : ((Int × (List (Int × Int × Int))) × (List (List (List Int))))) (state_here : (Int × (List (List (Int × Int))))) : Wp (List PyData) :=
  bnd (ret fabric_here.1) fun u1 =>
  bnd (ret ([] : List PyData)) fun found_2 =>
  bnd (grd (Rng (u1.1)) (ret (span 0 ((u1.1)).toNat))) fun l33 => forK (fun x3 (s4 : ((List PyData))) kc5 kb6 =>
  bnd (grd (Rng (u1.1)) (ret (span 0 ((u1.1)).toNat))) fun l16 => forK (fun x7 (s8 : ((List PyData))) kc9 kb10 =>
  bnd (bnd (bnd (bnd (opt (atI fabric_here.2 x3)) fun x11 => opt (atI x11 x7)) fun l13 => lcG (fun c12 => (ret true)) (fun c12 => (ret ((e4 eS eI eI eI) (("put" : Str), x3, x7, c12)))) l13) fun x14 => grd (s8.length + x14.length ≤ 16777216) (ret (s8 ++ x14))) fun found_15 =>
  kc9 found_15) (fun s8 : ((List PyData)) =>
  kc5 s8) l16 s4) (fun s4 : ((List PyData)) =>
  bnd (ret ((u1.2).length : Int)) fun many_17 =>
  bnd (grd (Rng many_17) (ret (span 0 (many_17).toNat))) fun l32 => forK (fun x18 (s19 : ((List PyData))) kc20 kb21 =>
  bnd (bnd (bnd (grd (Rng many_17) (ret (span 0 (many_17).toNat))) fun l23 => lcG (fun c22 => (ret true)) (fun c22 => (ret ((e3 eS eI eI) (("go" : Str), x18, c22)))) l23) fun x24 => grd (s19.length + x24.length ≤ 16777216) (ret (s19 ++ x24))) fun found_25 =>
  kc20 found_25) (fun s19 : ((List PyData)) =>
  bnd (bnd (bnd (grd (Rng many_17) (ret (span 0 (many_17).toNat))) fun l27 => lcG (fun c26 => (ret true)) (fun c26 => (ret ((e2 eS eI) (("out" : Str), c26)))) l27) fun x28 => grd (s19.length + x28.length ≤ 16777216) (ret (s19 ++ x28))) fun found_29 =>
  bnd (ret found_29) fun l31 => lcG (fun c30 => (noX (l_allowed fabric_here state_here c30))) (fun c30 => (ret c30)) l31) l32 s4) l33 found_2
end Cf
namespace Cf
open PySem L2 WL
def p_is_home (fabric : ((Int × (List (Int × Int × Int))) × (List (List (List Int))))) (c : Int) (d : Int) : Wp Bool :=
  bnd (bnd (opt (atI fabric.1.2 c)) fun x1 => ret x1.2.1) fun x2 => ret (decide (x2 = d))
def p_first_of (state : (Int × (List (List (Int × Int))))) (c : Int) : Wp (Option (Int × Int)) :=
  bnd (bnd (bnd (opt (atI state.2 c)) fun x1 => ret (x1.length : Int)) fun x2 => ret (decide ((0 : Int) < x2))) fun b4 => sel b4 (bnd (bnd (opt (atI state.2 c)) fun x3 => opt (atI x3 (0 : Int))) fun y => ret (some y)) (ret (none : (Option (Int × Int))))
def p_is_full (fabric : ((Int × (List (Int × Int × Int))) × (List (List (List Int))))) (state : (Int × (List (List (Int × Int))))) (c : Int) : Wp Bool :=
  bnd (bnd (opt (atI state.2 c)) fun x1 => ret (x1.length : Int)) fun x3 => bnd (bnd (opt (atI fabric.1.2 c)) fun x2 => ret x2.2.2) fun x4 => ret (decide (x3 = x4))
def p_next_options (fabric : ((Int × (List (Int × Int × Int))) × (List (List (List Int))))) (state : (Int × (List (List (Int × Int))))) (c : Int) : Wp (List Int) :=
  bnd (noX (p_first_of state c)) fun packet_1 =>
  sel (Option.isNone packet_1) (ret ([] : (List Int))) (bnd (bnd (opt packet_1) fun x2 => ret x2.2) fun x3 => noX (p_options fabric c x3))
def p_is_possible (fabric : ((Int × (List (Int × Int × Int))) × (List (List (List Int))))) (state : (Int × (List (List (Int × Int))))) (step : PyData) : Wp Bool :=
  bnd (ret fabric.1.1) fun nodes_1 =>
  bnd (ret (state.2.length : Int)) fun count_2 =>
  bnd (bnd (bnd (opt (asT step)) fun x3 => opt (atI x3 (0 : Int))) fun x4 => eqW (eD x4) (eS ("put" : Str))) fun b5 => sel b5
  (bnd (opt ((asQ4 asS asI asI asI) step)) fun u6 =>
  sel (decide ((u6.2.1) < nodes_1)) (sel (decide ((u6.2.2.1) < nodes_1)) (sel (decide ((u6.2.2.2) < count_2)) (bnd (bnd (bnd (opt (atI fabric.2 (u6.2.1))) fun x7 => opt (atI x7 (u6.2.2.1))) fun x8 => ret (decide ((u6.2.2.2) ∈ x8))) fun x10 => sel x10 (bnd (noX (p_is_full fabric state (u6.2.2.2))) fun x9 => ret (!x9)) (ret false)) (ret false)) (ret false)) (ret false))
  (bnd (bnd (bnd (bnd (opt (asT step)) fun x11 => opt (atI x11 (1 : Int))) fun x12 => opt (asI x12)) fun x13 => ret (decide (count_2 ≤ x13))) fun b14 => sel b14
  (ret false)
  (bnd (bnd (bnd (opt (asT step)) fun x15 => opt (atI x15 (0 : Int))) fun x16 => eqW (eD x16) (eS ("out" : Str))) fun b17 => sel b17
  (bnd (bnd (bnd (bnd (opt (asT step)) fun x18 => opt (atI x18 (1 : Int))) fun x19 => opt (asI x19)) fun x20 => noX (p_first_of state x20)) fun packet_21 =>
  sel (Option.isSome packet_21) (bnd (bnd (bnd (opt (asT step)) fun x22 => opt (atI x22 (1 : Int))) fun x23 => opt (asI x23)) fun x25 => bnd (bnd (opt packet_21) fun x24 => ret x24.2) fun x26 => noX (p_is_home fabric x25 x26)) (ret false))
  (bnd (bnd (bnd (opt (asT step)) fun x27 => opt (atI x27 (2 : Int))) fun x31 => bnd (bnd (bnd (bnd (opt (asT step)) fun x28 => opt (atI x28 (1 : Int))) fun x29 => opt (asI x29)) fun x30 => noX (p_next_options fabric state x30)) fun x32 => inD (eD x31) (List.map eI x32)) fun x37 => sel x37 (bnd (bnd (bnd (bnd (opt (asT step)) fun x33 => opt (atI x33 (2 : Int))) fun x34 => opt (asI x34)) fun x35 => noX (p_is_full fabric state x35)) fun x36 => ret (!x36)) (ret false))))
def p_changed (queues : (List (List (Int × Int)))) (c : Int) (queue : (List (Int × Int))) : Wp (List (List (Int × Int))) :=
  bnd (grd ((cutA queues none (some c)).length + [queue].length ≤ 16777216) (ret ((cutA queues none (some c)) ++ [queue]))) fun x1 => grd (x1.length + (cutA queues (some (c + (1 : Int))) none).length ≤ 16777216) (ret (x1 ++ (cutA queues (some (c + (1 : Int))) none)))
def p_moved (state : (Int × (List (List (Int × Int))))) (step : PyData) : Wp (Int × (List (List (Int × Int)))) :=
  bnd (ret state) fun u1 =>
  bnd (bnd (bnd (opt (asT step)) fun x2 => opt (atI x2 (0 : Int))) fun x3 => eqW (eD x3) (eS ("put" : Str))) fun b4 => sel b4
  (bnd (opt ((asQ4 asS asI asI asI) step)) fun u5 =>
  bnd (bnd (bnd (opt (atI (u1.2) (u5.2.2.2))) fun x6 => grd (x6.length + [((u1.1), (u5.2.2.1))].length ≤ 16777216) (ret (x6 ++ [((u1.1), (u5.2.2.1))]))) fun x7 => noX (p_changed (u1.2) (u5.2.2.2) x7)) fun x8 => ret (((u1.1) + (1 : Int)), x8))
  (bnd (bnd (bnd (bnd (bnd (opt (asT step)) fun x9 => opt (atI x9 (1 : Int))) fun x10 => opt (asI x10)) fun x11 => opt (atI (u1.2) x11)) fun x12 => opt (atI x12 (0 : Int))) fun packet_13 =>
  bnd (bnd (bnd (bnd (opt (asT step)) fun x14 => opt (atI x14 (1 : Int))) fun x15 => opt (asI x15)) fun x20 => bnd (bnd (bnd (bnd (bnd (opt (asT step)) fun x16 => opt (atI x16 (1 : Int))) fun x17 => opt (asI x17)) fun x18 => opt (atI (u1.2) x18)) fun x19 => ret (cutA x19 (some (1 : Int)) none)) fun x21 => noX (p_changed (u1.2) x20 x21)) fun queues_22 =>
  letK (fun s26 : ((List (List (Int × Int)))) =>
  ret ((u1.1), s26)) fun k27 =>
  bnd (bnd (bnd (opt (asT step)) fun x23 => opt (atI x23 (0 : Int))) fun x24 => eqW (eD x24) (eS ("go" : Str))) fun b25 => sel b25
  (bnd (bnd (bnd (bnd (opt (asT step)) fun x28 => opt (atI x28 (2 : Int))) fun x29 => opt (asI x29)) fun x34 => bnd (bnd (bnd (bnd (bnd (opt (asT step)) fun x30 => opt (atI x30 (2 : Int))) fun x31 => opt (asI x31)) fun x32 => opt (atI queues_22 x32)) fun x33 => grd (x33.length + [packet_13].length ≤ 16777216) (ret (x33 ++ [packet_13]))) fun x35 => noX (p_changed queues_22 x34 x35)) fun queues_36 =>
  k27 queues_36)
  (k27 queues_22))
end Cf
namespace Cf
open PySem L2 WL
def p_empty_state (fabric : ((Int × (List (Int × Int × Int))) × (List (List (List Int))))) : Wp (Int × (List (List (Int × Int)))) :=
  bnd (grd ([([] : (List (Int × Int)))] ≠ [] ∧ 2 ≤ (fabric.1.2.length : Int) ∧ (fabric.1.2.length : Int) ≤ 1000 ∧ [([] : (List (Int × Int)))].length ≤ 1000) (ret (repL [([] : (List (Int × Int)))] (fabric.1.2.length : Int)))) fun x1 => ret ((0 : Int), x1)
def p_packets_in (state : (Int × (List (List (Int × Int))))) : Wp (List (List Int)) :=
  bnd (bnd (grd (Rng (state.2.length : Int)) (ret (span 0 ((state.2.length : Int)).toNat))) fun l3 => lc2G (fun c1 => (ret true)) (fun c1 => (opt (atI state.2 c1))) (fun c1 c2 => (ret true)) (fun c1 c2 => (grd ([c2.1, c2.2].length + [c1].length ≤ 16777216) (ret ([c2.1, c2.2] ++ [c1])))) l3) fun x4 => sortW (eT eI) x4
end Cf
namespace Cf
open PySem L2 WL
def p_possible_steps (fabric : ((Int × (List (Int × Int × Int))) × (List (List (List Int))))) (state : (Int × (List (List (Int × Int))))) : Wp (List PyData) :=
  bnd (ret fabric.2) fun table_1 =>
  bnd (ret ([] : List PyData)) fun steps_2 =>
  bnd (grd (Rng (table_1.length : Int)) (ret (span 0 ((table_1.length : Int)).toNat))) fun l32 => forK (fun x3 (s4 : ((List PyData))) kc5 kb6 =>
  bnd (grd (Rng (table_1.length : Int)) (ret (span 0 ((table_1.length : Int)).toNat))) fun l16 => forK (fun x7 (s8 : ((List PyData))) kc9 kb10 =>
  bnd (bnd (bnd (bnd (opt (atI table_1 x3)) fun x11 => opt (atI x11 x7)) fun l13 => lcG (fun c12 => (ret true)) (fun c12 => (ret ((e4 eS eI eI eI) (("put" : Str), x3, x7, c12)))) l13) fun x14 => grd (s8.length + x14.length ≤ 16777216) (ret (s8 ++ x14))) fun steps_15 =>
  kc9 steps_15) (fun s8 : ((List PyData)) =>
  kc5 s8) l16 s4) (fun s4 : ((List PyData)) =>
  bnd (grd (Rng (state.2.length : Int)) (ret (span 0 ((state.2.length : Int)).toNat))) fun l31 => forK (fun x17 (s18 : ((List PyData))) kc19 kb20 =>
  bnd (bnd (bnd (noX (p_next_options fabric state x17)) fun l22 => lcG (fun c21 => (ret true)) (fun c21 => (ret ((e3 eS eI eI) (("go" : Str), x17, c21)))) l22) fun x23 => grd (s18.length + x23.length ≤ 16777216) (ret (s18 ++ x23))) fun steps_24 =>
  kc19 steps_24) (fun s18 : ((List PyData)) =>
  bnd (bnd (bnd (grd (Rng (state.2.length : Int)) (ret (span 0 ((state.2.length : Int)).toNat))) fun l26 => lcG (fun c25 => (ret true)) (fun c25 => (ret ((e2 eS eI) (("out" : Str), c25)))) l26) fun x27 => grd (s18.length + x27.length ≤ 16777216) (ret (s18 ++ x27))) fun steps_28 =>
  bnd (ret steps_28) fun l30 => lcG (fun c29 => (noX (p_is_possible fabric state c29))) (fun c29 => (ret c29)) l30) l31 s4) l32 steps_2
def p_afterX (fabric : ((Int × (List (Int × Int × Int))) × (List (List (List Int))))) (state : (Int × (List (List (Int × Int))))) (step : PyData) : Wp (Int × (List (List (Int × Int)))) :=
  bnd (bnd (noX (p_is_possible fabric state step)) fun x1 => ret (!x1)) fun b2 => sel b2
  (thr (.plain 0))
  (noX (p_moved state step))
def p_playX (fabric : ((Int × (List (Int × Int × Int))) × (List (List (List Int))))) (state : (Int × (List (List (Int × Int))))) (script : (List PyData)) : Wp (Int × (List (List (Int × Int)))) :=
  bnd (grd (Rng (script.length : Int)) (ret (span 0 ((script.length : Int)).toNat))) fun l10 => forK (fun x1 (s2 : ((Int × (List (List (Int × Int)))))) kc3 kb4 =>
  bnd (bnd (bnd (opt (atI script x1)) fun x5 => noX (p_is_possible fabric s2 x5)) fun x6 => ret (!x6)) fun b7 => sel b7
  (raiN 0 (ret x1))
  (bnd (bnd (opt (atI script x1)) fun x8 => noX (p_moved s2 x8)) fun state_9 =>
  kc3 state_9)) (fun s2 : ((Int × (List (List (Int × Int))))) =>
  ret s2) l10 state
def l_any_step (fabric_here : ((Int × (List (Int × Int × Int))) × (List (List (List Int))))) : Wp PyData :=
  bnd (ret (fabric_here.1.1 + (2 : Int))) fun n_1 =>
  bnd (ret ((fabric_here.1.2.length : Int) + (2 : Int))) fun many_2 =>
  bnd (noX (l_take (3 : Int))) fun kind_3 =>
  bnd (ret (decide (kind_3 = (0 : Int)))) fun b4 => sel b4
  (bnd (bnd (noX (l_take n_1)) fun x5 => bnd (noX (l_take n_1)) fun x6 => bnd (noX (l_take many_2)) fun x7 => ret (("put" : Str), x5, x6, x7)) fun y => ret ((e4 eS eI eI eI) y))
  (bnd (ret (decide (kind_3 = (1 : Int)))) fun b8 => sel b8
  (bnd (bnd (noX (l_take many_2)) fun x9 => bnd (noX (l_take many_2)) fun x10 => ret (("go" : Str), x9, x10)) fun y => ret ((e3 eS eI eI) y))
  (bnd (bnd (noX (l_take many_2)) fun x11 => ret (("out" : Str), x11)) fun y => ret ((e2 eS eI) y)))
def l_refused (fabric_here : ((Int × (List (Int × Int × Int))) × (List (List (List Int))))) (state_here : (Int × (List (List (Int × Int))))) (step : PyData) : Wp Bool :=
  tryC (ret (fabric_here, state_here, step, ())) (fun x => p_afterX x.1 x.2.1 x.2.2.1) (ret false) (ret true)
def l_seen (fabric_here : ((Int × (List (Int × Int × Int))) × (List (List (List Int))))) (state_here : (Int × (List (List (Int × Int))))) : Wp Bool :=
  bnd (ret state_here.2) fun queues_1 =>
  bnd (ret ([] : List (List Int))) fun rows_2 =>
  bnd (grd (Rng (queues_1.length : Int)) (ret (span 0 ((queues_1.length : Int)).toNat))) fun l26 => forK (fun x3 (s4 : ((List (List Int)))) kc5 kb6 =>
  bnd (bnd (noX (p_first_of state_here x3)) fun x10 => bnd (bnd (bnd (opt (atI queues_1 x3)) fun x7 => eqWN ((eT (e2 eI eI)) x7) ((eT (e2 eI eI)) ([] : (List (Int × Int))))) fun b9 => sel b9 (bnd (bnd (opt (atI queues_1 x3)) fun x8 => opt (atI x8 (0 : Int))) fun y => ret (some y)) (ret (none : (Option (Int × Int))))) fun x11 => eqWN ((eO (e2 eI eI)) x10) ((eO (e2 eI eI)) x11)) fun b12 => sel b12
  (ret false)
  (bnd (bnd (noX (p_is_full fabric_here state_here x3)) fun x17 => bnd (bnd (bnd (opt (atI queues_1 x3)) fun x13 => ret (x13.length : Int)) fun x15 => bnd (bnd (opt (atI fabric_here.1.2 x3)) fun x14 => ret x14.2.2) fun x16 => ret (decide (x15 = x16))) fun x18 => ret (!decide (x17 = x18))) fun b19 => sel b19
  (ret false)
  (bnd (bnd (bnd (opt (atI queues_1 x3)) fun l21 => lcG (fun c20 => (ret true)) (fun c20 => (grd ([c20.1, c20.2].length + [x3].length ≤ 16777216) (ret ([c20.1, c20.2] ++ [x3])))) l21) fun x22 => grd (s4.length + x22.length ≤ 16777216) (ret (s4 ++ x22))) fun rows_23 =>
  kc5 rows_23))) (fun s4 : ((List (List Int))) =>
  bnd (noX (p_packets_in state_here)) fun x24 => bnd (sortW (eT eI) s4) fun x25 => eqL (List.map (eT eI) x24) (List.map (eT eI) x25)) l26 rows_2
def law30 : Wp Bool :=
  bnd (noX (l_fabric2 (9 : Int) (3 : Int))) fun fabric_here_1 =>
  bnd (bnd (grd ([([] : (List (Int × Int)))] ≠ [] ∧ 2 ≤ (fabric_here_1.1.2.length : Int) ∧ (fabric_here_1.1.2.length : Int) ≤ 1000 ∧ [([] : (List (Int × Int)))].length ≤ 1000) (ret (repL [([] : (List (Int × Int)))] (fabric_here_1.1.2.length : Int)))) fun x2 => ret ((0 : Int), x2)) fun state_here_3 =>
  bnd (bnd (noX (p_empty_state fabric_here_1)) fun x4 => eqWN ((e2 eI (eT (eT (e2 eI eI)))) x4) ((e2 eI (eT (eT (e2 eI eI)))) state_here_3)) fun b5 => sel b5
  (ret false)
  (bnd (ret ([] : List PyData)) fun played_6 =>
  bnd (bnd (noX (l_take (41 : Int))) fun x7 => grd (Rng x7) (ret (span 0 (x7).toNat))) fun l42 => forK (fun x8 (s9 : ((List PyData) × (Int × (List (List (Int × Int)))))) kc10 kb11 =>
  bnd (noX (l_steps fabric_here_1 s9.2)) fun steps_here_12 =>
  bnd (bnd (bnd (noX (p_possible_steps fabric_here_1 s9.2)) fun x13 => eqLN (List.map eD x13) (List.map eD steps_here_12)) fun x15 => sel x15 (ret true) (bnd (noX (l_seen fabric_here_1 s9.2)) fun x14 => ret (!x14))) fun b16 => sel b16
  (ret false)
  (bnd (noX (l_any_step fabric_here_1)) fun step_17 =>
  letK (fun s21 : (PyData) =>
  bnd (noX (l_allowed fabric_here_1 s9.2 s21)) fun due_25 =>
  bnd (bnd (noX (p_is_possible fabric_here_1 s9.2 s21)) fun x26 => ret (!decide (x26 = due_25))) fun b27 => sel b27
  (ret false)
  (bnd (ret (!due_25)) fun b28 => sel b28
  (bnd (bnd (noX (l_refused fabric_here_1 s9.2 s21)) fun x29 => ret (!x29)) fun b30 => sel b30
  (ret false)
  (tryN (bnd (noX (p_empty_state fabric_here_1)) fun x31 => bnd (grd (s9.1.length + [s21, ((e2 eS eI) (("out" : Str), (0 : Int)))].length ≤ 16777216) (ret (s9.1 ++ [s21, ((e2 eS eI) (("out" : Str), (0 : Int)))]))) fun x32 => ret (fabric_here_1, x31, x32, ())) (fun x => p_playX x.1 x.2.1 x.2.2.1) (ret false) (fun xn33 =>
  bnd (sel (!decide (xn33 = (s9.1.length : Int))) (ret true) (ret (!true))) fun b34 => sel b34
  (ret false)
  (kc10 (s9.1, s9.2)))))
  (appW s9.1 (ret s21) fun s35 =>
  bnd (bnd (noX (p_afterX fabric_here_1 s9.2 s21)) fun x36 => bnd (noX (l_behind s9.2 s21)) fun x37 => eqWN ((e2 eI (eT (eT (e2 eI eI)))) x36) ((e2 eI (eT (eT (e2 eI eI)))) x37)) fun b38 => sel b38
  (ret false)
  (bnd (noX (l_behind s9.2 s21)) fun state_here_39 =>
  kc10 (s35, state_here_39))))) fun k22 =>
  bnd (bnd (eqLN (List.map eD steps_here_12) (List.map eD ([] : List PyData))) fun x19 => sel x19 (bnd (noX (l_take (3 : Int))) fun x18 => ret (decide ((0 : Int) < x18))) (ret false)) fun b20 => sel b20
  (bnd (bnd (noX (l_take (steps_here_12.length : Int))) fun x23 => opt (atI steps_here_12 x23)) fun step_24 =>
  k22 step_24)
  (k22 step_17))) (fun s9 : ((List PyData) × (Int × (List (List (Int × Int))))) =>
  bnd (bnd (noX (p_empty_state fabric_here_1)) fun x40 => noX (p_playX fabric_here_1 x40 s9.1)) fun x41 => eqW ((e2 eI (eT (eT (e2 eI eI)))) x41) ((e2 eI (eT (eT (e2 eI eI)))) s9.2)) l42 (played_6, state_here_3))
end Cf
namespace Cf
open PySem PySem.Spec PyProof.Rows L2 WL
def topS (i : Nat) : Stmt := PySem.Challenge.pw_calmfabric_k30_steps.main.body.getD i (.Pass ⟨0, 0, 0, 0⟩)
instance tbsAll (K : PySem.W.Frag) : Tbs K := ⟨fun _ => True⟩
abbrev s_p_options : Stmt := topS 5
abbrev s_p_is_home : Stmt := topS 6
abbrev s_p_empty_state : Stmt := topS 8
abbrev s_p_first_of : Stmt := topS 9
abbrev s_p_is_full : Stmt := topS 10
abbrev s_p_packets_in : Stmt := topS 11
abbrev s_p_next_options : Stmt := topS 12
abbrev s_p_is_possible : Stmt := topS 13
abbrev s_p_possible_steps : Stmt := topS 14
abbrev s_p_changed : Stmt := topS 15
abbrev s_p_moved : Stmt := topS 16
abbrev s_p_afterX : Stmt := topS 17
abbrev s_p_playX : Stmt := topS 18
abbrev s_l_mix2 : Stmt := topS 20
abbrev s_l_numbers : Stmt := topS 21
abbrev s_l_draws : Stmt := topS 22
abbrev s_l_take : Stmt := topS 23
abbrev s_l_thinned2 : Stmt := topS 24
abbrev s_l_fabric2 : Stmt := topS 25
abbrev s_l_home : Stmt := topS 26
abbrev s_l_options : Stmt := topS 27
abbrev s_l_allowed : Stmt := topS 28
abbrev s_l_behind : Stmt := topS 29
abbrev s_l_steps : Stmt := topS 30
abbrev s_l_any_step : Stmt := topS 32
abbrev s_l_refused : Stmt := topS 33
abbrev s_l_seen : Stmt := topS 34
abbrev s_law30 : Stmt := topS 35
abbrev nn_p_options : List Str := ["fabric", "c", "d", "network", "table"]
theorem sc_p_options : FnScope ["fabric", "c", "d", "network", "table"] ["fabric", "c", "d"] (defScope s_p_options) := ⟨rfl, rfl, rfl, by decide +kernel, rfl, by decide +kernel, by decide +kernel⟩
abbrev nn_p_is_home : List Str := ["fabric", "c", "d"]
theorem sc_p_is_home : FnScope ["fabric", "c", "d"] ["fabric", "c", "d"] (defScope s_p_is_home) := ⟨rfl, rfl, rfl, by decide +kernel, rfl, by decide +kernel, by decide +kernel⟩
abbrev nn_p_empty_state : List Str := ["fabric"]
theorem sc_p_empty_state : FnScope ["fabric"] ["fabric"] (defScope s_p_empty_state) := ⟨rfl, rfl, rfl, by decide +kernel, rfl, by decide +kernel, by decide +kernel⟩
abbrev nn_p_first_of : List Str := ["state", "c"]
theorem sc_p_first_of : FnScope ["state", "c"] ["state", "c"] (defScope s_p_first_of) := ⟨rfl, rfl, rfl, by decide +kernel, rfl, by decide +kernel, by decide +kernel⟩
abbrev nn_p_is_full : List Str := ["fabric", "state", "c"]
theorem sc_p_is_full : FnScope ["fabric", "state", "c"] ["fabric", "state", "c"] (defScope s_p_is_full) := ⟨rfl, rfl, rfl, by decide +kernel, rfl, by decide +kernel, by decide +kernel⟩
abbrev nn_p_packets_in : List Str := ["state", "c", "packet"]
theorem sc_p_packets_in : FnScope ["state", "c", "packet"] ["state"] (defScope s_p_packets_in) := ⟨rfl, rfl, rfl, by decide +kernel, rfl, by decide +kernel, by decide +kernel⟩
abbrev nn_p_next_options : List Str := ["fabric", "state", "c", "packet"]
theorem sc_p_next_options : FnScope ["fabric", "state", "c", "packet"] ["fabric", "state", "c"] (defScope s_p_next_options) := ⟨rfl, rfl, rfl, by decide +kernel, rfl, by decide +kernel, by decide +kernel⟩
abbrev nn_p_is_possible : List Str := ["fabric", "state", "step", "nodes", "count", "word", "u", "d", "c", "packet"]
theorem sc_p_is_possible : FnScope ["fabric", "state", "step", "nodes", "count", "word", "u", "d", "c", "packet"] ["fabric", "state", "step"] (defScope s_p_is_possible) := ⟨rfl, rfl, rfl, by decide +kernel, rfl, by decide +kernel, by decide +kernel⟩
abbrev nn_p_possible_steps : List Str := ["fabric", "state", "table", "steps", "u", "d", "c", "c2", "step"]
theorem sc_p_possible_steps : FnScope ["fabric", "state", "table", "steps", "u", "d", "c", "c2", "step"] ["fabric", "state"] (defScope s_p_possible_steps) := ⟨rfl, rfl, rfl, by decide +kernel, rfl, by decide +kernel, by decide +kernel⟩
abbrev nn_p_changed : List Str := ["queues", "c", "queue"]
theorem sc_p_changed : FnScope ["queues", "c", "queue"] ["queues", "c", "queue"] (defScope s_p_changed) := ⟨rfl, rfl, rfl, by decide +kernel, rfl, by decide +kernel, by decide +kernel⟩
abbrev nn_p_moved : List Str := ["state", "step", "count", "queues", "word", "u", "d", "c", "packet"]
theorem sc_p_moved : FnScope ["state", "step", "count", "queues", "word", "u", "d", "c", "packet"] ["state", "step"] (defScope s_p_moved) := ⟨rfl, rfl, rfl, by decide +kernel, rfl, by decide +kernel, by decide +kernel⟩
abbrev nn_p_afterX : List Str := ["fabric", "state", "step"]
theorem sc_p_afterX : FnScope ["fabric", "state", "step"] ["fabric", "state", "step"] (defScope s_p_afterX) := ⟨rfl, rfl, rfl, by decide +kernel, rfl, by decide +kernel, by decide +kernel⟩
abbrev nn_p_playX : List Str := ["fabric", "state", "script", "k"]
theorem sc_p_playX : FnScope ["fabric", "state", "script", "k"] ["fabric", "state", "script"] (defScope s_p_playX) := ⟨rfl, rfl, rfl, by decide +kernel, rfl, by decide +kernel, by decide +kernel⟩
abbrev nn_l_mix2 : List Str := ["_law_first", "_law_second", "_law_value"]
theorem sc_l_mix2 : FnScope ["_law_first", "_law_second", "_law_value"] ["_law_first", "_law_second"] (defScope s_l_mix2) := ⟨rfl, rfl, rfl, by decide +kernel, rfl, by decide +kernel, by decide +kernel⟩
abbrev nn_l_numbers : List Str := ["_law_script", "_law_count", "_law_found", "_law_total", "_law_cell", "_law_number", "_law_k"]
theorem sc_l_numbers : FnScope ["_law_script", "_law_count", "_law_found", "_law_total", "_law_cell", "_law_number", "_law_k"] ["_law_script", "_law_count"] (defScope s_l_numbers) := ⟨rfl, rfl, rfl, by decide +kernel, rfl, by decide +kernel, by decide +kernel⟩
theorem sc_l_draws : FnScope ["_law_script", "_law_count"] ["_law_script", "_law_count"] (defScope s_l_draws) := ⟨rfl, rfl, rfl, by decide +kernel, rfl, by decide +kernel, by decide +kernel⟩
theorem sc_l_take : FnScope ["_law_draws_here", "_law_bound", "_law_row", "_law_at", "_law_value"] ["_law_draws_here", "_law_bound"] (defScope s_l_take) := ⟨rfl, rfl, rfl, by decide +kernel, rfl, by decide +kernel, by decide +kernel⟩
abbrev nn_l_thinned2 : List Str := ["_law_channels", "_law_n", "_law_table", "_law_rows", "_law_gone", "_law_u", "_law_d", "_law_kept", "_law_c", "_law_row", "_law_options_here"]
theorem sc_l_thinned2 : FnScope ["_law_channels", "_law_n", "_law_table", "_law_rows", "_law_gone", "_law_u", "_law_d", "_law_kept", "_law_c", "_law_row", "_law_options_here"] ["_law_channels", "_law_n", "_law_table"] (defScope s_l_thinned2) := ⟨rfl, rfl, rfl, by decide +kernel, rfl, by decide +kernel, by decide +kernel⟩
abbrev nn_l_fabric2 : List Str := ["_law_draws_here", "_law_most", "_law_room", "_law_n", "_law_channels", "_law_k", "_law_source", "_law_target", "_law_table", "_law_density", "_law_u", "_law_row", "_law_d", "_law_own", "_law_c"]
theorem sc_l_fabric2 : FnScope ["_law_draws_here", "_law_most", "_law_room", "_law_n", "_law_channels", "_law_k", "_law_source", "_law_target", "_law_table", "_law_density", "_law_u", "_law_row", "_law_d", "_law_own", "_law_c"] ["_law_draws_here", "_law_most", "_law_room"] (defScope s_l_fabric2) := ⟨rfl, rfl, rfl, by decide +kernel, rfl, by decide +kernel, by decide +kernel⟩
abbrev nn_l_home : List Str := ["_law_fabric_here", "_law_c", "_law_d"]
theorem sc_l_home : FnScope ["_law_fabric_here", "_law_c", "_law_d"] ["_law_fabric_here", "_law_c", "_law_d"] (defScope s_l_home) := ⟨rfl, rfl, rfl, by decide +kernel, rfl, by decide +kernel, by decide +kernel⟩
abbrev nn_l_options : List Str := ["_law_fabric_here", "_law_c", "_law_d"]
theorem sc_l_options : FnScope ["_law_fabric_here", "_law_c", "_law_d"] ["_law_fabric_here", "_law_c", "_law_d"] (defScope s_l_options) := ⟨rfl, rfl, rfl, by decide +kernel, rfl, by decide +kernel, by decide +kernel⟩
abbrev nn_l_allowed : List Str := ["_law_fabric_here", "_law_state_here", "_law_step", "_law_n", "_law_channels", "_law_queues", "_law_word", "_law_u", "_law_d", "_law_c", "_law_c2"]
theorem sc_l_allowed : FnScope ["_law_fabric_here", "_law_state_here", "_law_step", "_law_n", "_law_channels", "_law_queues", "_law_word", "_law_u", "_law_d", "_law_c", "_law_c2"] ["_law_fabric_here", "_law_state_here", "_law_step"] (defScope s_l_allowed) := ⟨rfl, rfl, rfl, by decide +kernel, rfl, by decide +kernel, by decide +kernel⟩
abbrev nn_l_behind : List Str := ["_law_state_here", "_law_step", "_law_count", "_law_queues", "_law_rows", "_law_packet", "_law_queue", "_law_row"]
theorem sc_l_behind : FnScope ["_law_state_here", "_law_step", "_law_count", "_law_queues", "_law_rows", "_law_packet", "_law_queue", "_law_row"] ["_law_state_here", "_law_step"] (defScope s_l_behind) := ⟨rfl, rfl, rfl, by decide +kernel, rfl, by decide +kernel, by decide +kernel⟩
abbrev nn_l_steps : List Str := ["_law_fabric_here", "_law_state_here", "_law_n", "_law_channels", "_law_found", "_law_u", "_law_d", "_law_c", "_law_many", "_law_c2", "_law_step"]
theorem sc_l_steps : FnScope ["_law_fabric_here", "_law_state_here", "_law_n", "_law_channels", "_law_found", "_law_u", "_law_d", "_law_c", "_law_many", "_law_c2", "_law_step"] ["_law_fabric_here", "_law_state_here"] (defScope s_l_steps) := ⟨rfl, rfl, rfl, by decide +kernel, rfl, by decide +kernel, by decide +kernel⟩
abbrev nn_l_any_step : List Str := ["_law_draws_here", "_law_fabric_here", "_law_n", "_law_many", "_law_kind"]
theorem sc_l_any_step : FnScope ["_law_draws_here", "_law_fabric_here", "_law_n", "_law_many", "_law_kind"] ["_law_draws_here", "_law_fabric_here"] (defScope s_l_any_step) := ⟨rfl, rfl, rfl, by decide +kernel, rfl, by decide +kernel, by decide +kernel⟩
abbrev nn_l_refused : List Str := ["_law_fabric_here", "_law_state_here", "_law_step", "e"]
theorem sc_l_refused : FnScope ["_law_fabric_here", "_law_state_here", "_law_step", "e"] ["_law_fabric_here", "_law_state_here", "_law_step"] (defScope s_l_refused) := ⟨rfl, rfl, rfl, by decide +kernel, rfl, by decide +kernel, by decide +kernel⟩
abbrev nn_l_seen : List Str := ["_law_fabric_here", "_law_state_here", "_law_queues", "_law_rows", "_law_c", "_law_packet"]
theorem sc_l_seen : FnScope ["_law_fabric_here", "_law_state_here", "_law_queues", "_law_rows", "_law_c", "_law_packet"] ["_law_fabric_here", "_law_state_here"] (defScope s_l_seen) := ⟨rfl, rfl, rfl, by decide +kernel, rfl, by decide +kernel, by decide +kernel⟩
theorem sc_law30 : FnScope ["_law_script", "_law_draws_here", "_law_fabric_here", "_law_state_here", "_law_played", "_law_k", "_law_steps_here", "_law_step", "_law_due", "e"] ["_law_script"] (defScope s_law30) := ⟨rfl, rfl, rfl, by decide +kernel, rfl, by decide +kernel, by decide +kernel⟩
/-! what the top has written -/
abbrev s_x_NotPossible : Stmt := inClass (topS 2) 0
set_option maxHeartbeats 0 in
structure Tx (P : Program) (K : PySem.W.Frag) (mg : Str → Option Value) where
  f_p_options : Addr
  d_p_options : FuncData
  F_p_options : Fun K "options" "options" s_p_options f_p_options d_p_options
  b_p_options : Binds K d_p_options ["fabric", "c", "d"] []
  g_p_options : mg "options" = some (.ref f_p_options)
  f_p_is_home : Addr
  d_p_is_home : FuncData
  F_p_is_home : Fun K "is_home" "is_home" s_p_is_home f_p_is_home d_p_is_home
  b_p_is_home : Binds K d_p_is_home ["fabric", "c", "d"] []
  g_p_is_home : mg "is_home" = some (.ref f_p_is_home)
  f_p_empty_state : Addr
  d_p_empty_state : FuncData
  F_p_empty_state : Fun K "empty_state" "empty_state" s_p_empty_state f_p_empty_state d_p_empty_state
  b_p_empty_state : Binds K d_p_empty_state ["fabric"] []
  g_p_empty_state : mg "empty_state" = some (.ref f_p_empty_state)
  f_p_first_of : Addr
  d_p_first_of : FuncData
  F_p_first_of : Fun K "first_of" "first_of" s_p_first_of f_p_first_of d_p_first_of
  b_p_first_of : Binds K d_p_first_of ["state", "c"] []
  g_p_first_of : mg "first_of" = some (.ref f_p_first_of)
  f_p_is_full : Addr
  d_p_is_full : FuncData
  F_p_is_full : Fun K "is_full" "is_full" s_p_is_full f_p_is_full d_p_is_full
  b_p_is_full : Binds K d_p_is_full ["fabric", "state", "c"] []
  g_p_is_full : mg "is_full" = some (.ref f_p_is_full)
  f_p_packets_in : Addr
  d_p_packets_in : FuncData
  F_p_packets_in : Fun K "packets_in" "packets_in" s_p_packets_in f_p_packets_in d_p_packets_in
  b_p_packets_in : Binds K d_p_packets_in ["state"] []
  g_p_packets_in : mg "packets_in" = some (.ref f_p_packets_in)
  f_p_next_options : Addr
  d_p_next_options : FuncData
  F_p_next_options : Fun K "next_options" "next_options" s_p_next_options f_p_next_options d_p_next_options
  b_p_next_options : Binds K d_p_next_options ["fabric", "state", "c"] []
  g_p_next_options : mg "next_options" = some (.ref f_p_next_options)
  f_p_is_possible : Addr
  d_p_is_possible : FuncData
  F_p_is_possible : Fun K "is_possible" "is_possible" s_p_is_possible f_p_is_possible d_p_is_possible
  b_p_is_possible : Binds K d_p_is_possible ["fabric", "state", "step"] []
  g_p_is_possible : mg "is_possible" = some (.ref f_p_is_possible)
  f_p_possible_steps : Addr
  d_p_possible_steps : FuncData
  F_p_possible_steps : Fun K "possible_steps" "possible_steps" s_p_possible_steps f_p_possible_steps d_p_possible_steps
  b_p_possible_steps : Binds K d_p_possible_steps ["fabric", "state"] []
  g_p_possible_steps : mg "possible_steps" = some (.ref f_p_possible_steps)
  f_p_changed : Addr
  d_p_changed : FuncData
  F_p_changed : Fun K "changed" "changed" s_p_changed f_p_changed d_p_changed
  b_p_changed : Binds K d_p_changed ["queues", "c", "queue"] []
  g_p_changed : mg "changed" = some (.ref f_p_changed)
  f_p_moved : Addr
  d_p_moved : FuncData
  F_p_moved : Fun K "moved" "moved" s_p_moved f_p_moved d_p_moved
  b_p_moved : Binds K d_p_moved ["state", "step"] []
  g_p_moved : mg "moved" = some (.ref f_p_moved)
  f_p_afterX : Addr
  d_p_afterX : FuncData
  F_p_afterX : Fun K "after" "after" s_p_afterX f_p_afterX d_p_afterX
  b_p_afterX : Binds K d_p_afterX ["fabric", "state", "step"] []
  g_p_afterX : mg "after" = some (.ref f_p_afterX)
  f_p_playX : Addr
  d_p_playX : FuncData
  F_p_playX : Fun K "play" "play" s_p_playX f_p_playX d_p_playX
  b_p_playX : Binds K d_p_playX ["fabric", "state", "script"] []
  g_p_playX : mg "play" = some (.ref f_p_playX)
  f_l_mix2 : Addr
  d_l_mix2 : FuncData
  F_l_mix2 : Fun K "_law_mix" "_law_mix" s_l_mix2 f_l_mix2 d_l_mix2
  b_l_mix2 : Binds K d_l_mix2 ["_law_first", "_law_second"] []
  g_l_mix2 : mg "_law_mix" = some (.ref f_l_mix2)
  f_l_numbers : Addr
  d_l_numbers : FuncData
  F_l_numbers : Fun K "_law_numbers" "_law_numbers" s_l_numbers f_l_numbers d_l_numbers
  b_l_numbers : Binds K d_l_numbers ["_law_script", "_law_count"] []
  g_l_numbers : mg "_law_numbers" = some (.ref f_l_numbers)
  f_l_draws : Addr
  d_l_draws : FuncData
  F_l_draws : Fun K "_law_draws" "_law_draws" s_l_draws f_l_draws d_l_draws
  b_l_draws : Binds K d_l_draws ["_law_script", "_law_count"] []
  g_l_draws : mg "_law_draws" = some (.ref f_l_draws)
  f_l_take : Addr
  d_l_take : FuncData
  F_l_take : Fun K "_law_take" "_law_take" s_l_take f_l_take d_l_take
  b_l_take : Binds K d_l_take ["_law_draws_here", "_law_bound"] []
  g_l_take : mg "_law_take" = some (.ref f_l_take)
  f_l_thinned2 : Addr
  d_l_thinned2 : FuncData
  F_l_thinned2 : Fun K "_law_thinned" "_law_thinned" s_l_thinned2 f_l_thinned2 d_l_thinned2
  b_l_thinned2 : Binds K d_l_thinned2 ["_law_channels", "_law_n", "_law_table"] []
  g_l_thinned2 : mg "_law_thinned" = some (.ref f_l_thinned2)
  f_l_fabric2 : Addr
  d_l_fabric2 : FuncData
  F_l_fabric2 : Fun K "_law_fabric" "_law_fabric" s_l_fabric2 f_l_fabric2 d_l_fabric2
  b_l_fabric2 : Binds K d_l_fabric2 ["_law_draws_here", "_law_most", "_law_room"] []
  g_l_fabric2 : mg "_law_fabric" = some (.ref f_l_fabric2)
  f_l_home : Addr
  d_l_home : FuncData
  F_l_home : Fun K "_law_home" "_law_home" s_l_home f_l_home d_l_home
  b_l_home : Binds K d_l_home ["_law_fabric_here", "_law_c", "_law_d"] []
  g_l_home : mg "_law_home" = some (.ref f_l_home)
  f_l_options : Addr
  d_l_options : FuncData
  F_l_options : Fun K "_law_options" "_law_options" s_l_options f_l_options d_l_options
  b_l_options : Binds K d_l_options ["_law_fabric_here", "_law_c", "_law_d"] []
  g_l_options : mg "_law_options" = some (.ref f_l_options)
  f_l_allowed : Addr
  d_l_allowed : FuncData
  F_l_allowed : Fun K "_law_allowed" "_law_allowed" s_l_allowed f_l_allowed d_l_allowed
  b_l_allowed : Binds K d_l_allowed ["_law_fabric_here", "_law_state_here", "_law_step"] []
  g_l_allowed : mg "_law_allowed" = some (.ref f_l_allowed)
  f_l_behind : Addr
  d_l_behind : FuncData
  F_l_behind : Fun K "_law_behind" "_law_behind" s_l_behind f_l_behind d_l_behind
  b_l_behind : Binds K d_l_behind ["_law_state_here", "_law_step"] []
  g_l_behind : mg "_law_behind" = some (.ref f_l_behind)
  f_l_steps : Addr
  d_l_steps : FuncData
  F_l_steps : Fun K "_law_steps" "_law_steps" s_l_steps f_l_steps d_l_steps
  b_l_steps : Binds K d_l_steps ["_law_fabric_here", "_law_state_here"] []
  g_l_steps : mg "_law_steps" = some (.ref f_l_steps)
  f_l_any_step : Addr
  d_l_any_step : FuncData
  F_l_any_step : Fun K "_law_any_step" "_law_any_step" s_l_any_step f_l_any_step d_l_any_step
  b_l_any_step : Binds K d_l_any_step ["_law_draws_here", "_law_fabric_here"] []
  g_l_any_step : mg "_law_any_step" = some (.ref f_l_any_step)
  f_l_refused : Addr
  d_l_refused : FuncData
  F_l_refused : Fun K "_law_refused" "_law_refused" s_l_refused f_l_refused d_l_refused
  b_l_refused : Binds K d_l_refused ["_law_fabric_here", "_law_state_here", "_law_step"] []
  g_l_refused : mg "_law_refused" = some (.ref f_l_refused)
  f_l_seen : Addr
  d_l_seen : FuncData
  F_l_seen : Fun K "_law_seen" "_law_seen" s_l_seen f_l_seen d_l_seen
  b_l_seen : Binds K d_l_seen ["_law_fabric_here", "_law_state_here"] []
  g_l_seen : mg "_law_seen" = some (.ref f_l_seen)
  f_law30 : Addr
  d_law30 : FuncData
  F_law30 : Fun K "law" "law" s_law30 f_law30 d_law30
  b_law30 : Binds K d_law30 ["_law_script"] []
  g_law30 : mg "law" = some (.ref f_law30)
  xa_NotPossible : Addr
  sf_NotPossible : Addr
  sd_NotPossible : FuncData
  scc_NotPossible : Addr
  scd_NotPossible : Addr
  sfl_NotPossible : Str
  sF_NotPossible : FunS K "__init__" "NotPossible.__init__" s_x_NotPossible sf_NotPossible sd_NotPossible xa_NotPossible scc_NotPossible scd_NotPossible sfl_NotPossible
  sb_NotPossible : Binds K sd_NotPossible ["self", "number"] []
  so_NotPossible : SupC K xa_NotPossible
  si_NotPossible : PySem.W.findIn K (.ref xa_NotPossible) "__init__" = some (some (.ref sf_NotPossible))
  st_NotPossible : PySem.W.typeIn K (.ref sf_NotPossible) = some (.type "function")
  sn_NotPossible : PySem.W.findIn K (.ref xa_NotPossible) "number" = some none
  sg_NotPossible : mg "NotPossible" = some (.ref xa_NotPossible)
  se_NotPossible : PySem.W.exmOne K (.ref xa_NotPossible) (.ref xa_NotPossible) = some true
  sxf_NotPossible : XfC K xa_NotPossible
  sp_NotPossible : PSup P sfl_NotPossible
  xa_FabricError : Addr
  xc_FabricError : XCls K mg "FabricError" xa_FabricError
  xa_NotAllowed : Addr
  xc_NotAllowed : XCls K mg "NotAllowed" xa_NotAllowed
  z_abs : mg "abs" = none
  z_int : mg "int" = none
  z_isinstance : mg "isinstance" = none
  z_len : mg "len" = none
  z_list : mg "list" = none
  z_range : mg "range" = none
  z_sorted : mg "sorted" = none
  z_super : mg "super" = none
  z_tuple : mg "tuple" = none
  xi_NotAllowed_FabricError : PySem.W.kitOne K (.ref xa_NotAllowed) (.ref xa_FabricError) = some true
  xi_NotPossible_FabricError : PySem.W.kitOne K (.ref xa_NotPossible) (.ref xa_FabricError) = some true
  xq_NotAllowed : ExcC K xa_NotAllowed
  xq_NotPossible : ExcC K xa_NotPossible
end Cf
namespace Cf
open PySem PySem.Spec PyProof.Rows L2 WL
section
variable {P : Program} {w : World} {K : PySem.W.Frag} {mg : Str → Option Value} {base : Heap}
set_option maxHeartbeats 4000000
theorem ok_l_home (T : Tx P K mg) : FnOk P w K mg base CX0 1 T.f_l_home T.d_l_home ["_law_fabric_here", "_law_c", "_law_d"] (spN K (fun x : ((Int × (List (Int × Int × Int))) × (List (List (List Int)))) × Int × Int × Unit => [.d ((e2 (e2 eI (eT (e3 eI eI eI))) (eT (eT (eT eI)))) x.1), .d (eI x.2.1), .d (eI x.2.2.1)]) (fun x => l_home x.1 x.2.1 x.2.2.1) (fun r : Bool => .fz (eB r))) := by
  have S := sc_l_home
  refine fn_n (N := nn_l_home) T.F_l_home S (fun _ => rfl) (fun cdv A outer s H E hr => ?_)
  refine ⟨_, (pss_one (ps_ret (pe_cmpR op_eq (pe_ix (ix_tupK (K := K) rfl) (pe_ix (ix_tupK (K := K) rfl) (pe_ix (ix_tupK (K := K) rfl) (pe_ix (ix_tupK (K := K) rfl) (pv 0) pe_int (fun _ _ => rfl)) pe_int (fun _ _ => rfl)) (pv 1) (fun _ _ => rfl)) pe_int (fun _ _ => rfl)) (pv 2) (nomark _)))), ?_⟩
  rintro ⟨fabric_here, c, d, _⟩
  show SimB _ _ _ _ _ _ [.sl (fz K ((e2 (e2 eI (eT (e3 eI eI eI))) (eT (eT (eT eI)))) fabric_here)), .sl (fz K (eI c)), .sl (fz K (eI d))] (l_home fabric_here c d)
  unfold l_home
  exact (sb_retF (EvG.is (w' := (bnd (bnd (opt (atI fabric_here.1.2 c)) fun x1 => ret x1.2.1) fun x2 => ret (decide (x2 = d)))) (ev_opF (ev_ixW (e' := eI) (fun a => a.2.1) 1 (ev_opF (ev_ixW (e' := (eT (e3 eI eI eI))) (fun a => a.2) 1 (ev_ixW (e' := (e2 eI (eT (e3 eI eI eI)))) (fun a => a.1) 0 (ev_f (e := (e2 (e2 eI (eT (e3 eI eI eI))) (eT (eT (eT eI))))) fabric_here rfl) rfl (fun _ => ⟨_, rfl, rfl⟩)) rfl (fun _ => ⟨_, rfl, rfl⟩)) (ev_f (e := eI) c rfl) (fun _ _ => o_ixT _ _)) rfl (fun _ => ⟨_, rfl, rfl⟩)) (ev_f (e := eI) d rfl) (fun _ _ => o_eqI _ _)) rfl) (fun _ => rfl))
end
end Cf
namespace Cf
open PySem PySem.Spec PyProof.Rows L2 WL
section
variable {P : Program} {w : World} {K : PySem.W.Frag} {mg : Str → Option Value} {base : Heap}
set_option maxHeartbeats 4000000
theorem ok_l_options (T : Tx P K mg) : FnOk P w K mg base CX0 1 T.f_l_options T.d_l_options ["_law_fabric_here", "_law_c", "_law_d"] (spN K (fun x : ((Int × (List (Int × Int × Int))) × (List (List (List Int)))) × Int × Int × Unit => [.d ((e2 (e2 eI (eT (e3 eI eI eI))) (eT (eT (eT eI)))) x.1), .d (eI x.2.1), .d (eI x.2.2.1)]) (fun x => l_options x.1 x.2.1 x.2.2.1) (fun r : (List Int) => .fz ((eT eI) r))) := by
  have S := sc_l_options
  refine fn_n (N := nn_l_options) T.F_l_options S (fun _ => rfl) (fun cdv A outer s H E hr => ?_)
  refine ⟨_, (pss_one (ps_ret (pe_ix (ix_tupK (K := K) rfl) (pe_ix (ix_tupK (K := K) rfl) (pe_ix (ix_tupK (K := K) rfl) (pv 0) pe_int (fun _ _ => rfl)) (pe_ix (ix_tupK (K := K) rfl) (pe_ix (ix_tupK (K := K) rfl) (pe_ix (ix_tupK (K := K) rfl) (pe_ix (ix_tupK (K := K) rfl) (pv 0) pe_int (fun _ _ => rfl)) pe_int (fun _ _ => rfl)) (pv 1) (fun _ _ => rfl)) pe_int (fun _ _ => rfl)) (fun _ _ => rfl)) (pv 2) (fun _ _ => rfl)))), ?_⟩
  rintro ⟨fabric_here, c, d, _⟩
  show SimB _ _ _ _ _ _ [.sl (fz K ((e2 (e2 eI (eT (e3 eI eI eI))) (eT (eT (eT eI)))) fabric_here)), .sl (fz K (eI c)), .sl (fz K (eI d))] (l_options fabric_here c d)
  unfold l_options
  exact (sb_retF (EvG.is (w' := (bnd (bnd (bnd (opt (atI fabric_here.1.2 c)) fun x1 => ret x1.2.1) fun x2 => opt (atI fabric_here.2 x2)) fun x3 => opt (atI x3 d))) (ev_opF (ev_opF (ev_ixW (e' := (eT (eT (eT eI)))) (fun a => a.2) 1 (ev_f (e := (e2 (e2 eI (eT (e3 eI eI eI))) (eT (eT (eT eI))))) fabric_here rfl) rfl (fun _ => ⟨_, rfl, rfl⟩)) (ev_ixW (e' := eI) (fun a => a.2.1) 1 (ev_opF (ev_ixW (e' := (eT (e3 eI eI eI))) (fun a => a.2) 1 (ev_ixW (e' := (e2 eI (eT (e3 eI eI eI)))) (fun a => a.1) 0 (ev_f (e := (e2 (e2 eI (eT (e3 eI eI eI))) (eT (eT (eT eI))))) fabric_here rfl) rfl (fun _ => ⟨_, rfl, rfl⟩)) rfl (fun _ => ⟨_, rfl, rfl⟩)) (ev_f (e := eI) c rfl) (fun _ _ => o_ixT _ _)) rfl (fun _ => ⟨_, rfl, rfl⟩)) (fun _ _ => o_ixT _ _)) (ev_f (e := eI) d rfl) (fun _ _ => o_ixT _ _)) (by simp only [ret_bnd, bnd_bnd, mapW_bnd, mapW_ret] <;> rfl)) (fun _ => rfl))
end
end Cf
namespace Cf
open PySem PySem.Spec PyProof.Rows L2 WL
section
variable {P : Program} {w : World} {K : PySem.W.Frag} {mg : Str → Option Value} {base : Heap}
set_option maxHeartbeats 4000000
theorem ok_l_allowed (T : Tx P K mg) : FnOk P w K mg base CX0 2 T.f_l_allowed T.d_l_allowed ["_law_fabric_here", "_law_state_here", "_law_step"] (spN K (fun x : ((Int × (List (Int × Int × Int))) × (List (List (List Int)))) × (Int × (List (List (Int × Int)))) × PyData × Unit => [.d ((e2 (e2 eI (eT (e3 eI eI eI))) (eT (eT (eT eI)))) x.1), .d ((e2 eI (eT (eT (e2 eI eI)))) x.2.1), .d (eD x.2.2.1)]) (fun x => l_allowed x.1 x.2.1 x.2.2.1) (fun r : Bool => .fz (eB r))) := by
  have S := sc_l_allowed
  refine fn_n (N := nn_l_allowed) T.F_l_allowed S (fun _ => rfl) (fun cdv A outer s H E hr => ?_)
  refine ⟨_, (pss_cons (ps_asg (pe_ix (ix_tupK (K := K) rfl) (pv 0) pe_int (fun _ _ => rfl)) (pg_tupK (n := 2) (K := K) rfl rfl (pgs_cons (pg_name (i := 3) S.nd rfl (by first | exact .inl rfl | exact .inr rfl)) (pgs_cons (pg_name (i := 4) S.nd rfl (by first | exact .inl rfl | exact .inr rfl)) pgs_nil))))
      (pss_cons (ps_set (i := 5) S.nd rfl (by first | exact .inl rfl | exact .inr rfl) (pe_ix (ix_tupK (K := K) rfl) (pv 1) pe_int (fun _ _ => rfl)))
      (pss_cons (ps_if (pt_cmpR (op_eqDK (K := K) rfl hr.units) (pe_ix (ix_tupK (K := K) rfl) (pv 2) pe_int (fun _ _ => rfl)) pe_str (nomark _)) (pss_cons (ps_asg (pv 2) (pg_tupK (n := 4) (K := K) rfl rfl (pgs_cons (pg_name (i := 6) S.nd rfl (by first | exact .inl rfl | exact .inr rfl)) (pgs_cons (pg_name (i := 7) S.nd rfl (by first | exact .inl rfl | exact .inr rfl)) (pgs_cons (pg_name (i := 8) S.nd rfl (by first | exact .inl rfl | exact .inr rfl)) (pgs_cons (pg_name (i := 9) S.nd rfl (by first | exact .inl rfl | exact .inr rfl)) pgs_nil))))))
      (pss_cons (ps_if (PW.pt (pw_or (pt_cmpR op_ge (pv 7) (pv 3) (nomark _)) (pw_or (pt_cmpR op_ge (pv 8) (pv 3) (nomark _)) (pw_or1 (pt_cmpR op_ge (pv 9) (pe_callB (call_lenK (K := K) rfl) (by rfl) T.z_len (by decide +kernel) (pa_cons (pv 4) pa_nil)) (nomark _)))))) (pss_one (ps_ret pe_bl)) pss_nil)
      (pss_one (ps_ret (pe_and (pe_cmpR (op_inK (K := K) rfl) (pv 9) (pe_ix (ix_tupK (K := K) rfl) (pe_ix (ix_tupK (K := K) rfl) (pe_ix (ix_tupK (K := K) rfl) (pv 0) pe_int (fun _ _ => rfl)) (pv 7) (fun _ _ => rfl)) (pv 8) (fun _ _ => rfl)) (by rfl)) (pe_one (pe_cmpR op_lt (pe_callB (call_lenK (K := K) rfl) (by rfl) T.z_len (by decide +kernel) (pa_cons (pe_ix (ix_tupK (K := K) rfl) (pv 5) (pv 9) (fun _ _ => rfl)) pa_nil)) (pe_ix (ix_tupK (K := K) rfl) (pe_ix (ix_tupK (K := K) rfl) (pv 4) (pv 9) (fun _ _ => rfl)) pe_int (fun _ _ => rfl)) (nomark _)))))))) pss_nil)
      (pss_cons (ps_set (i := 9) S.nd rfl (by first | exact .inl rfl | exact .inr rfl) (pe_ix (ix_tupK (K := K) rfl) (pv 2) pe_int (fun _ _ => rfl)))
      (pss_cons (ps_if (PW.pt (pw_or (pt_cmpR op_ge (pv 9) (pe_callB (call_lenK (K := K) rfl) (by rfl) T.z_len (by decide +kernel) (pa_cons (pv 4) pa_nil)) (nomark _)) (pw_or1 (pt_cmpR (op_eqDK (K := K) rfl hr.units) (pe_ix (ix_tupK (K := K) rfl) (pv 5) (pv 9) (fun _ _ => rfl)) (pe_tup pa_nil) (nomark _))))) (pss_one (ps_ret pe_bl)) pss_nil)
      (pss_cons (ps_set (i := 8) S.nd rfl (by first | exact .inl rfl | exact .inr rfl) (pe_ix (ix_tupK (K := K) rfl) (pe_ix (ix_tupK (K := K) rfl) (pe_ix (ix_tupK (K := K) rfl) (pv 5) (pv 9) (fun _ _ => rfl)) pe_int (fun _ _ => rfl)) pe_int (fun _ _ => rfl)))
      (pss_cons (ps_if (pt_cmpR (op_eqDK (K := K) rfl hr.units) (pe_ix (ix_tupK (K := K) rfl) (pv 2) pe_int (fun _ _ => rfl)) pe_str (nomark _)) (pss_one (ps_ret (pe_call (ok_l_home T) (hr.mono (by decide)) (by rfl) T.g_l_home T.F_l_home.kp T.b_l_home .nil pass0 (pa_cons (pv 0) (pa_cons (pv 9) (pa_cons (pv 8) pa_nil)))))) pss_nil)
      (pss_cons (ps_set (i := 10) S.nd rfl (by first | exact .inl rfl | exact .inr rfl) (pe_ix (ix_tupK (K := K) rfl) (pv 2) pe_int (fun _ _ => rfl)))
      (pss_one (ps_ret (pe_and (pe_cmpR (op_inK (K := K) rfl) (pv 10) (pe_call (ok_l_options T) (hr.mono (by decide)) (by rfl) T.g_l_options T.F_l_options.kp T.b_l_options .nil pass0 (pa_cons (pv 0) (pa_cons (pv 9) (pa_cons (pv 8) pa_nil)))) (by rfl)) (pe_one (pe_cmpR op_lt (pe_callB (call_lenK (K := K) rfl) (by rfl) T.z_len (by decide +kernel) (pa_cons (pe_ix (ix_tupK (K := K) rfl) (pv 5) (pv 10) (fun _ _ => rfl)) pa_nil)) (pe_ix (ix_tupK (K := K) rfl) (pe_ix (ix_tupK (K := K) rfl) (pv 4) (pv 10) (fun _ _ => rfl)) pe_int (fun _ _ => rfl)) (nomark _)))))))))))))), ?_⟩
  rintro ⟨fabric_here, state_here, step, _⟩
  show SimB _ _ _ _ _ _ [.sl (fz K ((e2 (e2 eI (eT (e3 eI eI eI))) (eT (eT (eT eI)))) fabric_here)), .sl (fz K ((e2 eI (eT (eT (e2 eI eI)))) state_here)), .sl (fz K (eD step)), .un, .un, .un, .un, .un, .un, .un, .un] (l_allowed fabric_here state_here step)
  unfold l_allowed
  exact (sb_seq (sb_asg (e := (e2 eI (eT (e3 eI eI eI)))) (EvG.is (w' := (ret fabric_here.1)) (ev_ixW (e' := (e2 eI (eT (e3 eI eI eI)))) (fun a => a.1) 0 (ev_f (e := (e2 (e2 eI (eT (e3 eI eI eI))) (eT (eT (eT eI))))) fabric_here rfl) rfl (fun _ => ⟨_, rfl, rfl⟩)) rfl) (fun u1 => (tg_tup (ds := [eI (u1.1), (eT (e3 eI eI eI)) (u1.2)]) (ts_cons (tg_name (ltb rfl)) (ts_cons (tg_name (ltb rfl)) ts_nil)) rfl rfl)) (fun u1 => (la_in (sb_seq (sb_set (e := (eT (eT (e2 eI eI)))) (EvG.is (w' := (ret state_here.2)) (ev_ixW (e' := (eT (eT (e2 eI eI)))) (fun a => a.2) 1 (ev_f (e := (e2 eI (eT (eT (e2 eI eI))))) state_here rfl) rfl (fun _ => ⟨_, rfl, rfl⟩)) rfl) (ltb rfl) (fun queues_2 => (la_in (sb_seq (sb_if (EvT.is (w' := (bnd (bnd (opt (asT step)) fun x3 => opt (atI x3 (0 : Int))) fun x4 => eqW (eD x4) (eS ("put" : Str)))) (et_test (ev_opF (ev_opF (ev_as (f := asT) (e := (eT eD)) (ev_f (e := eD) step rfl) as_T) ev_int (fun _ _ => o_ixT _ _)) ev_str (fun _ _ => o_eqDW _ _))) rfl) (sb_seq (sb_asg (e := (e4 eS eI eI eI)) (EvG.is (w' := (opt ((asQ4 asS asI asI asI) step))) (ev_as (f := (asQ4 asS asI asI asI)) (e := (e4 eS eI eI eI)) (ev_f (e := eD) step rfl) (as_Q4 as_S as_I as_I as_I)) rfl) (fun u6 => (tg_tup (ds := [eS (u6.1), eI (u6.2.1), eI (u6.2.2.1), eI (u6.2.2.2)]) (ts_cons (tg_name (ltb rfl)) (ts_cons (tg_name (ltb rfl)) (ts_cons (tg_name (ltb rfl)) (ts_cons (tg_name (ltb rfl)) ts_nil)))) rfl rfl)) (fun u6 => (la_in (sb_seq (sb_if (EvT.is (w' := (sel (decide ((u1.1) ≤ (u6.2.1))) (ret true) (sel (decide ((u1.1) ≤ (u6.2.2.1))) (ret true) (ret (decide (((u1.2).length : Int) ≤ (u6.2.2.2))))))) (et_or (et_test (ev_opF (ev_f (e := eI) (u6.2.1) rfl) (ev_f (e := eI) (u1.1) rfl) (fun _ _ => o_ge _ _))) (et_or (et_test (ev_opF (ev_f (e := eI) (u6.2.2.1) rfl) (ev_f (e := eI) (u1.1) rfl) (fun _ _ => o_ge _ _))) (et_test (ev_opF (ev_f (e := eI) (u6.2.2.2) rfl) (ev_b1F (ev_f (e := (eT (e3 eI eI eI))) (u1.2) rfl) (fun _ => c_lenT _)) (fun _ _ => o_ge _ _))))) rfl) (sb_retF (EvG.is (w' := (ret false)) ev_bl rfl) (fun _ => rfl)) (sb_next (la_in (sb_retF (EvG.is (w' := (bnd (bnd (bnd (opt (atI fabric_here.2 (u6.2.1))) fun x8 => opt (atI x8 (u6.2.2.1))) fun x9 => ret (decide ((u6.2.2.2) ∈ x9))) fun x14 => sel x14 (bnd (bnd (opt (atI queues_2 (u6.2.2.2))) fun x10 => ret (x10.length : Int)) fun x12 => bnd (bnd (opt (atI (u1.2) (u6.2.2.2))) fun x11 => ret x11.2.2) fun x13 => ret (decide (x12 < x13))) (ret false))) (ev_andV (ev_opF (ev_f (e := eI) (u6.2.2.2) rfl) (ev_opF (ev_opF (ev_ixW (e' := (eT (eT (eT eI)))) (fun a => a.2) 1 (ev_f (e := (e2 (e2 eI (eT (e3 eI eI eI))) (eT (eT (eT eI))))) fabric_here rfl) rfl (fun _ => ⟨_, rfl, rfl⟩)) (ev_f (e := eI) (u6.2.1) rfl) (fun _ _ => o_ixT _ _)) (ev_f (e := eI) (u6.2.2.1) rfl) (fun _ _ => o_ixT _ _)) (fun _ _ => o_inT _ _)) (ev_opF (ev_b1F (ev_opF (ev_f (e := (eT (eT (e2 eI eI)))) queues_2 rfl) (ev_f (e := eI) (u6.2.2.2) rfl) (fun _ _ => o_ixT _ _)) (fun _ => c_lenT _)) (ev_ixW (e' := eI) (fun a => a.2.2) 2 (ev_opF (ev_f (e := (eT (e3 eI eI eI))) (u1.2) rfl) (ev_f (e := eI) (u6.2.2.2) rfl) (fun _ _ => o_ixT _ _)) rfl (fun _ => ⟨_, rfl, rfl⟩)) (fun _ _ => o_lt _ _))) (by simp only [ret_bnd, bnd_bnd, mapW_bnd, mapW_ret] <;> rfl)) (fun _ => rfl)))))))))) (sb_next (la_in (sb_seq (sb_set (e := eI) (EvG.is (w' := (bnd (bnd (opt (asT step)) fun x15 => opt (atI x15 (1 : Int))) fun x16 => opt (asI x16))) (ev_as (f := asI) (e := eI) (ev_opF (ev_as (f := asT) (e := (eT eD)) (ev_f (e := eD) step rfl) as_T) ev_int (fun _ _ => o_ixT _ _)) as_I) rfl) (ltb rfl) (fun c_17 => (la_in (sb_seq (sb_if (EvT.is (w' := (sel (decide (((u1.2).length : Int) ≤ c_17)) (ret true) (bnd (opt (atI queues_2 c_17)) fun x18 => eqW ((eT (e2 eI eI)) x18) ((eT (e2 eI eI)) ([] : (List (Int × Int))))))) (et_or (et_test (ev_opF (ev_f (e := eI) c_17 rfl) (ev_b1F (ev_f (e := (eT (e3 eI eI eI))) (u1.2) rfl) (fun _ => c_lenT _)) (fun _ _ => o_ge _ _))) (et_test (ev_opF (ev_opF (ev_f (e := (eT (eT (e2 eI eI)))) queues_2 rfl) (ev_f (e := eI) c_17 rfl) (fun _ _ => o_ixT _ _)) (ev_tupS (fun x => []) (eT (e2 eI eI)) es_nil (fun _ => AllF.nil) (fun _ => rfl) (fun _ => rfl)) (fun _ _ => o_eqDW _ _)))) rfl) (sb_retF (EvG.is (w' := (ret false)) ev_bl rfl) (fun _ => rfl)) (sb_next (la_in (sb_seq (sb_set (e := eI) (EvG.is (w' := (bnd (bnd (opt (atI queues_2 c_17)) fun x20 => opt (atI x20 (0 : Int))) fun x21 => ret x21.2)) (ev_ixW (e' := eI) (fun a => a.2) 1 (ev_opF (ev_opF (ev_f (e := (eT (eT (e2 eI eI)))) queues_2 rfl) (ev_f (e := eI) c_17 rfl) (fun _ _ => o_ixT _ _)) ev_int (fun _ _ => o_ixT _ _)) rfl (fun _ => ⟨_, rfl, rfl⟩)) rfl) (ltb rfl) (fun d_22 => (la_in (sb_seq (sb_if (EvT.is (w' := (bnd (bnd (opt (asT step)) fun x23 => opt (atI x23 (0 : Int))) fun x24 => eqW (eD x24) (eS ("out" : Str)))) (et_test (ev_opF (ev_opF (ev_as (f := asT) (e := (eT eD)) (ev_f (e := eD) step rfl) as_T) ev_int (fun _ _ => o_ixT _ _)) ev_str (fun _ _ => o_eqDW _ _))) rfl) (sb_retF (EvG.is (w' := (noX (l_home fabric_here c_17 d_22))) (ev_callS eB (es_f (ev_f (e := (e2 (e2 eI (eT (e3 eI eI eI))) (eT (eT (eT eI))))) fabric_here rfl) (es_f (ev_f (e := eI) c_17 rfl) (es_f (ev_f (e := eI) d_22 rfl) es_nil))) (fun _ => rfl)) rfl) (fun _ => rfl)) (sb_next (la_in (sb_seq (sb_set (e := eI) (EvG.is (w' := (bnd (bnd (opt (asT step)) fun x26 => opt (atI x26 (2 : Int))) fun x27 => opt (asI x27))) (ev_as (f := asI) (e := eI) (ev_opF (ev_as (f := asT) (e := (eT eD)) (ev_f (e := eD) step rfl) as_T) ev_int (fun _ _ => o_ixT _ _)) as_I) rfl) (ltb rfl) (fun c2_28 => (la_in (sb_retF (EvG.is (w' := (bnd (bnd (noX (l_options fabric_here c_17 d_22)) fun x29 => ret (decide (c2_28 ∈ x29))) fun x34 => sel x34 (bnd (bnd (opt (atI queues_2 c2_28)) fun x30 => ret (x30.length : Int)) fun x32 => bnd (bnd (opt (atI (u1.2) c2_28)) fun x31 => ret x31.2.2) fun x33 => ret (decide (x32 < x33))) (ret false))) (ev_andV (ev_opF (ev_f (e := eI) c2_28 rfl) (ev_callS (eT eI) (es_f (ev_f (e := (e2 (e2 eI (eT (e3 eI eI eI))) (eT (eT (eT eI))))) fabric_here rfl) (es_f (ev_f (e := eI) c_17 rfl) (es_f (ev_f (e := eI) d_22 rfl) es_nil))) (fun _ => rfl)) (fun _ _ => o_inT _ _)) (ev_opF (ev_b1F (ev_opF (ev_f (e := (eT (eT (e2 eI eI)))) queues_2 rfl) (ev_f (e := eI) c2_28 rfl) (fun _ _ => o_ixT _ _)) (fun _ => c_lenT _)) (ev_ixW (e' := eI) (fun a => a.2.2) 2 (ev_opF (ev_f (e := (eT (e3 eI eI eI))) (u1.2) rfl) (ev_f (e := eI) c2_28 rfl) (fun _ _ => o_ixT _ _)) rfl (fun _ => ⟨_, rfl, rfl⟩)) (fun _ _ => o_lt _ _))) (by simp only [ret_bnd, bnd_bnd, mapW_bnd, mapW_ret] <;> rfl)) (fun _ => rfl))))))))))))))))))))))))))))))))))
end
end Cf
namespace Cf
open PySem PySem.Spec PyProof.Rows L2 WL
section
variable {P : Program} {w : World} {K : PySem.W.Frag} {mg : Str → Option Value} {base : Heap}
set_option maxHeartbeats 4000000
theorem ok_l_take (T : Tx P K mg) : FnOk P w K mg base CX0 1 T.f_l_take T.d_l_take ["_law_draws_here", "_law_bound"] (spN K (fun x : Unit × Int × Unit => [.t tape2, .d (eI x.2.1)]) (fun x => l_take x.2.1) (fun r : Int => .fz (eI r))) := by
  have S := sc_l_take
  refine T.F_l_take.ok S (fun vs H Q E h => ?_) (fun cdv A outer s H vs Q E hr h => ?_)
  · obtain ⟨x, P, T, R, fp, _, en, _⟩ := h
    have := en.len
    rw [List.length_map, List.length_map] at this
    exact this
  obtain ⟨⟨_, n, _⟩, P, Tt, R, fp, hf, en, fin⟩ := h
  obtain ⟨⟨⟨hn0, hn1⟩, hd⟩, _⟩ := hf
  have hl := en.len
  rw [List.length_map, List.length_map] at hl
  obtain ⟨v, fq, hT, hv0⟩ := en.tp 0 tape2 rfl
  obtain ⟨v1, hv1, _, hz⟩ := en.sl 1 _ rfl
  have hT' : Tt = some (tape2, v, fq) := hT
  subst hT'
  obtain ⟨p, q, cells, a, rfl, rfl, hpq, hp, hq, ha, hne, hcl, hc⟩ := en.tps _ rfl
  have e1 := Fz.int_inv (n := n) hz
  subst e1
  have evs : vs = [.ref p, .int n] := by
    match vs, hl with
    | [x, y], _ =>
      have h0 : some (some x) = some (some (V.ref p)) := hv0
      have h1 : some (some y) = some (some (V.int n)) := hv1
      cases h0
      cases h1
      rfl
  subst evs
  have hn0 : 0 < n := hn0
  have hp : H p = some (.dK [(kAt, .int a), (kRow, .ref q)]) := hp
  have hq : H q = some (.lst (cells.map V.int)) := hq
  have hl0 : 0 < cells.length := List.length_pos_iff.mpr hne
  have hL : ((cells.map V.int).length : Int) = cells.length := by rw [List.length_map]
  refine ⟨_, (pss_cons (ps_set (i := 2) S.nd rfl (by first | exact .inl rfl | exact .inr rfl) (pe_dget (hu1 hr.units) (pv 0) pe_str (fun _ _ => rfl))) (pss_cons (ps_set (i := 3) S.nd rfl (by first | exact .inl rfl | exact .inr rfl) (pe_dget (hu1 hr.units) (pv 0) pe_str (fun _ _ => rfl))) (pss_cons (ps_dput (hu1 hr.units) (pv 0) pe_str (pe_op op_add (pv 3) pe_int) rfl) (pss_cons (ps_set (i := 4) S.nd rfl (by first | exact .inl rfl | exact .inr rfl) (pe_op op_add (pe_ix ix_list (pv 2) (pe_op op_modN (pe_callTy call_int1 (by rfl) T.z_int (by decide +kernel) (pa_cons (pv 3) pa_nil)) (pe_callB call_len_seq (by rfl) T.z_len (by decide +kernel) (pa_cons (pv 2) pa_nil))) (fun _ _ => rfl)) (pe_op op_fdivN (pv 3) (pe_callB call_len_seq (by rfl) T.z_len (by decide +kernel) (pa_cons (pv 2) pa_nil))))) (pss_one (ps_ret (pe_op op_modN (pe_callTy call_int1 (by rfl) T.z_int (by decide +kernel) (pa_cons (pv 4) pa_nil)) (pv 1)))))))), ?_⟩
  refine ⟨_, rfl, p, .ref q, rfl, DGet.k (k := kRow) hp, _, rfl, p, .int a, rfl, DGet.k (k := kAt) hp, _, rfl, a, 1, rfl, rfl, ?_⟩
  refine ⟨_, rfl, p, _, rfl, DPut.k (k := kAt) hp (by show (2 : Nat) < _; decide), ?_⟩
  have e2 : putK [(kAt, V.int a), (kRow, V.ref q)] kAt (.int (a + 1)) = [(kAt, .int (a + 1)), (kRow, .ref q)] := rfl
  rw [e2]
  have hq1 : upd H p (.dK [(kAt, .int (a + 1)), (kRow, .ref q)]) q = some (.lst (cells.map V.int)) := by
    rw [upd_ne (Ne.symm hpq)]
    exact hq
  have hi : a.fmod cells.length = a % cells.length := Int.fmod_eq_emod_of_nonneg _ (by omega)
  have hi0 := Int.emod_nonneg a (show (cells.length : Int) ≠ 0 by omega)
  have hi1 := Int.emod_lt_of_pos a (show (0 : Int) < cells.length by omega)
  have hlt : (a % cells.length).toNat < cells.length := by omega
  have hat : atI (cells.map V.int) (a.fmod cells.length) = some (.int cells[(a % cells.length).toNat]) := by
    rw [hi]
    have := atI_nat (xs := cells.map V.int) (j := (a % cells.length).toNat) (v := .int cells[(a % cells.length).toNat]) (by rw [List.getElem?_map, List.getElem?_eq_getElem hlt]; rfl)
    rw [show (((a % cells.length).toNat : Nat) : Int) = a % cells.length by omega] at this
    exact this
  have hcn := hc _ (List.getElem_mem hlt)
  have hfd : 0 ≤ a.fdiv cells.length := Int.fdiv_nonneg ha (by omega)
  refine ⟨_, rfl, _, rfl, .inl ⟨a, rfl, _, rfl, q, _, rfl, .inl (.inl (.inl hq1)), ?_⟩⟩
  rw [hL]
  refine ⟨a, (cells.length : Int), rfl, rfl, (by omega : (cells.length : Int) ≠ 0), q, _, _, _, rfl, rfl, .inl (.inl hq1), hat, ?_⟩
  refine ⟨_, rfl, _, rfl, q, _, rfl, .inl (.inl (.inl hq1)), ?_⟩
  rw [hL]
  refine ⟨a, (cells.length : Int), rfl, rfl, ⟨by omega, by omega⟩, _, _, rfl, rfl, ?_⟩
  refine ⟨_, rfl, .inl ⟨_, rfl, _, rfl, _, n, rfl, rfl, (by omega : n ≠ 0), ?_⟩⟩
  generalize cells[(a % cells.length).toNat] + a.fdiv cells.length = b at *
  refine fin (b.fmod n) (.int (b.fmod n)) _ (hd _ ⟨?_, ?_⟩) (fun x o e => ?_) (fun t' e => ?_) (Fz.int _)
  · show 0 ≤ b.fmod n
    rw [Int.fmod_eq_emod_of_nonneg _ (by omega)]
    exact Int.emod_nonneg _ (by omega)
  · show b.fmod n < n
    rw [Int.fmod_eq_emod_of_nonneg _ (by omega)]
    exact Int.emod_lt_of_pos _ hn0
  · have e : H x = some o := e
    by_cases hx : x = p
    · subst hx
      refine ⟨_, upd_same, fun _ off => (off _ rfl (by simp)).elim, fun st => ?_⟩
      have e3 := Option.some.inj (hp.symm.trans e)
      subst e3
      cases st
    · exact ⟨o, by rw [upd_ne hx]; exact e, fun _ _ => rfl, fun _ => rfl⟩
  · cases e
    exact ⟨p, q, cells, a + 1, rfl, rfl, hpq, upd_same, hq1, by omega, hne, hcl, hc⟩
end
end Cf
namespace Cf
open PySem PySem.Spec PyProof.Rows L2 WL
section
variable {P : Program} {w : World} {K : PySem.W.Frag} {mg : Str → Option Value} {base : Heap}
set_option maxHeartbeats 4000000
theorem ok_l_any_step (T : Tx P K mg) : FnOk P w K mg base CX0 2 T.f_l_any_step T.d_l_any_step ["_law_draws_here", "_law_fabric_here"] (spN K (fun x : Unit × ((Int × (List (Int × Int × Int))) × (List (List (List Int)))) × Unit => [.t tape2, .d ((e2 (e2 eI (eT (e3 eI eI eI))) (eT (eT (eT eI)))) x.2.1)]) (fun x => l_any_step x.2.1) (fun r : PyData => .fz (eD r))) := by
  have S := sc_l_any_step
  refine fn_n (N := nn_l_any_step) T.F_l_any_step S (fun _ => rfl) (fun cdv A outer s H E hr => ?_)
  refine ⟨_, (pss_cons (ps_set (i := 2) S.nd rfl (by first | exact .inl rfl | exact .inr rfl) (pe_op op_add (pe_ix (ix_tupK (K := K) rfl) (pe_ix (ix_tupK (K := K) rfl) (pv 1) pe_int (fun _ _ => rfl)) pe_int (fun _ _ => rfl)) pe_int))
      (pss_cons (ps_set (i := 3) S.nd rfl (by first | exact .inl rfl | exact .inr rfl) (pe_op op_add (pe_callB (call_lenK (K := K) rfl) (by rfl) T.z_len (by decide +kernel) (pa_cons (pe_ix (ix_tupK (K := K) rfl) (pe_ix (ix_tupK (K := K) rfl) (pv 1) pe_int (fun _ _ => rfl)) pe_int (fun _ _ => rfl)) pa_nil)) pe_int))
      (pss_cons (ps_set (i := 4) S.nd rfl (by first | exact .inl rfl | exact .inr rfl) (pe_call (ok_l_take T) (hr.mono (by decide)) (by rfl) T.g_l_take T.F_l_take.kp T.b_l_take .nil pass0 (pa_cons (pv 0) (pa_cons pe_int pa_nil))))
      (pss_cons (ps_if (pt_cmpR op_eq (pv 4) pe_int (nomark _)) (pss_one (ps_ret (pe_tup (pa_cons pe_str (pa_cons (pe_call (ok_l_take T) (hr.mono (by decide)) (by rfl) T.g_l_take T.F_l_take.kp T.b_l_take .nil pass0 (pa_cons (pv 0) (pa_cons (pv 2) pa_nil))) (pa_cons (pe_call (ok_l_take T) (hr.mono (by decide)) (by rfl) T.g_l_take T.F_l_take.kp T.b_l_take .nil pass0 (pa_cons (pv 0) (pa_cons (pv 2) pa_nil))) (pa_cons (pe_call (ok_l_take T) (hr.mono (by decide)) (by rfl) T.g_l_take T.F_l_take.kp T.b_l_take .nil pass0 (pa_cons (pv 0) (pa_cons (pv 3) pa_nil))) pa_nil))))))) pss_nil)
      (pss_cons (ps_if (pt_cmpR op_eq (pv 4) pe_int (nomark _)) (pss_one (ps_ret (pe_tup (pa_cons pe_str (pa_cons (pe_call (ok_l_take T) (hr.mono (by decide)) (by rfl) T.g_l_take T.F_l_take.kp T.b_l_take .nil pass0 (pa_cons (pv 0) (pa_cons (pv 3) pa_nil))) (pa_cons (pe_call (ok_l_take T) (hr.mono (by decide)) (by rfl) T.g_l_take T.F_l_take.kp T.b_l_take .nil pass0 (pa_cons (pv 0) (pa_cons (pv 3) pa_nil))) pa_nil)))))) pss_nil)
      (pss_one (ps_ret (pe_tup (pa_cons pe_str (pa_cons (pe_call (ok_l_take T) (hr.mono (by decide)) (by rfl) T.g_l_take T.F_l_take.kp T.b_l_take .nil pass0 (pa_cons (pv 0) (pa_cons (pv 3) pa_nil))) pa_nil)))))))))), ?_⟩
  rintro ⟨_, fabric_here, _⟩
  show SimB _ _ _ _ _ _ [.tp tape2, .sl (fz K ((e2 (e2 eI (eT (e3 eI eI eI))) (eT (eT (eT eI)))) fabric_here)), .un, .un, .un] (l_any_step fabric_here)
  unfold l_any_step
  exact (sb_seq (sb_set (e := eI) (EvG.is (w' := (ret (fabric_here.1.1 + (2 : Int)))) (ev_opF (ev_ixW (e' := eI) (fun a => a.1) 0 (ev_ixW (e' := (e2 eI (eT (e3 eI eI eI)))) (fun a => a.1) 0 (ev_f (e := (e2 (e2 eI (eT (e3 eI eI eI))) (eT (eT (eT eI))))) fabric_here rfl) rfl (fun _ => ⟨_, rfl, rfl⟩)) rfl (fun _ => ⟨_, rfl, rfl⟩)) ev_int (fun _ _ => o_add _ _)) rfl) (ltb rfl) (fun n_1 => (la_in (sb_seq (sb_set (e := eI) (EvG.is (w' := (ret ((fabric_here.1.2.length : Int) + (2 : Int)))) (ev_opF (ev_b1F (ev_ixW (e' := (eT (e3 eI eI eI))) (fun a => a.2) 1 (ev_ixW (e' := (e2 eI (eT (e3 eI eI eI)))) (fun a => a.1) 0 (ev_f (e := (e2 (e2 eI (eT (e3 eI eI eI))) (eT (eT (eT eI))))) fabric_here rfl) rfl (fun _ => ⟨_, rfl, rfl⟩)) rfl (fun _ => ⟨_, rfl, rfl⟩)) (fun _ => c_lenT _)) ev_int (fun _ _ => o_add _ _)) rfl) (ltb rfl) (fun many_2 => (la_in (sb_seq (sb_set (e := eI) (EvG.is (w' := (noX (l_take (3 : Int)))) (ev_callS eI (es_t (ev_t (S := tape2) rfl) (es_f ev_int es_nil)) (fun _ => rfl)) rfl) (ltb rfl) (fun kind_3 => (la_in (sb_seq (sb_if (EvT.is (w' := (ret (decide (kind_3 = (0 : Int))))) (et_test (ev_opF (ev_f (e := eI) kind_3 rfl) ev_int (fun _ _ => o_eqI _ _))) rfl) (sb_retF (EvG.is (w' := (bnd (bnd (noX (l_take n_1)) fun x5 => bnd (noX (l_take n_1)) fun x6 => bnd (noX (l_take many_2)) fun x7 => ret (("put" : Str), x5, x6, x7)) fun y => ret ((e4 eS eI eI eI) y))) (ev_data (e := (e4 eS eI eI eI)) (ev_tupS (fun x => (x.1, x.2.1, x.2.2.1, x.2.2.2.1)) (e4 eS eI eI eI) (es_f ev_str (es_f (ev_callS eI (es_t (ev_t (S := tape2) rfl) (es_f (ev_f (e := eI) n_1 rfl) es_nil)) (fun _ => rfl)) (es_f (ev_callS eI (es_t (ev_t (S := tape2) rfl) (es_f (ev_f (e := eI) n_1 rfl) es_nil)) (fun _ => rfl)) (es_f (ev_callS eI (es_t (ev_t (S := tape2) rfl) (es_f (ev_f (e := eI) many_2 rfl) es_nil)) (fun _ => rfl)) es_nil)))) (fun _ => (AllF.cons (AllF.cons (AllF.cons (AllF.cons AllF.nil))))) (fun _ => rfl) (fun _ => rfl))) (by simp only [ret_bnd, bnd_bnd, mapW_bnd, mapW_ret] <;> rfl)) (fun _ => rfl)) (sb_next (la_in (sb_seq (sb_if (EvT.is (w' := (ret (decide (kind_3 = (1 : Int))))) (et_test (ev_opF (ev_f (e := eI) kind_3 rfl) ev_int (fun _ _ => o_eqI _ _))) rfl) (sb_retF (EvG.is (w' := (bnd (bnd (noX (l_take many_2)) fun x9 => bnd (noX (l_take many_2)) fun x10 => ret (("go" : Str), x9, x10)) fun y => ret ((e3 eS eI eI) y))) (ev_data (e := (e3 eS eI eI)) (ev_tupS (fun x => (x.1, x.2.1, x.2.2.1)) (e3 eS eI eI) (es_f ev_str (es_f (ev_callS eI (es_t (ev_t (S := tape2) rfl) (es_f (ev_f (e := eI) many_2 rfl) es_nil)) (fun _ => rfl)) (es_f (ev_callS eI (es_t (ev_t (S := tape2) rfl) (es_f (ev_f (e := eI) many_2 rfl) es_nil)) (fun _ => rfl)) es_nil))) (fun _ => (AllF.cons (AllF.cons (AllF.cons AllF.nil)))) (fun _ => rfl) (fun _ => rfl))) (by simp only [ret_bnd, bnd_bnd, mapW_bnd, mapW_ret] <;> rfl)) (fun _ => rfl)) (sb_next (la_in (sb_retF (EvG.is (w' := (bnd (bnd (noX (l_take many_2)) fun x11 => ret (("out" : Str), x11)) fun y => ret ((e2 eS eI) y))) (ev_data (e := (e2 eS eI)) (ev_tupS (fun x => (x.1, x.2.1)) (e2 eS eI) (es_f ev_str (es_f (ev_callS eI (es_t (ev_t (S := tape2) rfl) (es_f (ev_f (e := eI) many_2 rfl) es_nil)) (fun _ => rfl)) es_nil)) (fun _ => (AllF.cons (AllF.cons AllF.nil))) (fun _ => rfl) (fun _ => rfl))) rfl) (fun _ => rfl))))))))))))))))))))))
end
end Cf
namespace Cf
open PySem PySem.Spec PyProof.Rows L2 WL
section
variable {P : Program} {w : World} {K : PySem.W.Frag} {mg : Str → Option Value} {base : Heap}
set_option maxHeartbeats 4000000
theorem ok_l_behind (T : Tx P K mg) : FnOk P w K mg base CX0 1 T.f_l_behind T.d_l_behind ["_law_state_here", "_law_step"] (spN K (fun x : (Int × (List (List (Int × Int)))) × PyData × Unit => [.d ((e2 eI (eT (eT (e2 eI eI)))) x.1), .d (eD x.2.1)]) (fun x => l_behind x.1 x.2.1) (fun r : (Int × (List (List (Int × Int)))) => .fz ((e2 eI (eT (eT (e2 eI eI)))) r))) := by
  have S := sc_l_behind
  refine fn_n (N := nn_l_behind) T.F_l_behind S (fun _ => rfl) (fun cdv A outer s H E hr => ?_)
  refine ⟨_, (pss_cons (ps_asg (pv 0) (pg_tupK (n := 2) (K := K) rfl rfl (pgs_cons (pg_name (i := 2) S.nd rfl (by first | exact .inl rfl | exact .inr rfl)) (pgs_cons (pg_name (i := 3) S.nd rfl (by first | exact .inl rfl | exact .inr rfl)) pgs_nil))))
      (pss_cons (ps_setLc (i := 4) (own := [("_law_queue", 6)]) rfl S.nd rfl rfl (sw_true rfl rfl rfl (by decide +kernel)) (pi_tupK (K := K) rfl (pv 3)) (blkOk_by (N := nn_l_behind) (sc := (defScope s_l_behind)) (own := [("_law_queue", 6)]) (by decide +kernel)) (fun _ _ _ _ _ => (pg_name (i := 6) S.nd rfl (by first | exact .inl rfl | exact .inr rfl))) (fun _ _ _ _ _ => pts_nil) (fun _ _ _ _ _ => (pe_callTy (call_lstK (K := K) rfl) (by rfl) T.z_list (by decide +kernel) (pa_cons (pv 6) pa_nil))))
      (pss_cons (ps_if (pt_cmpR (op_eqDK (K := K) rfl hr.units) (pe_ix (ix_tupK (K := K) rfl) (pv 1) pe_int (fun _ _ => rfl)) pe_str (nomark _)) (pss_cons (ps_expr (pe_bm PySem.F.plainAttrs_list PySem.F.slot_list_append PySem.F.type_list_append mt_append (pe_ix (ix_listK (K := K) rfl) (pv 4) (pe_ix (ix_tupK (K := K) rfl) (pv 1) pe_int (fun _ _ => rfl)) (fun _ _ => rfl)) (pa_cons (pe_tup (pa_cons (pv 2) (pa_cons (pe_ix (ix_tupK (K := K) rfl) (pv 1) pe_int (fun _ _ => rfl)) pa_nil))) pa_nil)))
      (pss_one (ps_set (i := 2) S.nd rfl (by first | exact .inl rfl | exact .inr rfl) (pe_op op_add (pv 2) pe_int)))) (pss_cons (ps_set (i := 5) S.nd rfl (by first | exact .inl rfl | exact .inr rfl) (pe_bmL (K := K) rfl PySem.F.slot_list_pop PySem.F.type_list_pop mt_popAt (pe_ix (ix_listK (K := K) rfl) (pv 4) (pe_ix (ix_tupK (K := K) rfl) (pv 1) pe_int (fun _ _ => rfl)) (fun _ _ => rfl)) (pa_cons pe_int pa_nil)))
      (pss_one (ps_if (pt_cmpR (op_eqDK (K := K) rfl hr.units) (pe_ix (ix_tupK (K := K) rfl) (pv 1) pe_int (fun _ _ => rfl)) pe_str (nomark _)) (pss_one (ps_expr (pe_bm PySem.F.plainAttrs_list PySem.F.slot_list_append PySem.F.type_list_append mt_append (pe_ix (ix_listK (K := K) rfl) (pv 4) (pe_ix (ix_tupK (K := K) rfl) (pv 1) pe_int (fun _ _ => rfl)) (fun _ _ => rfl)) (pa_cons (pv 5) pa_nil)))) pss_nil))))
      (pss_one (ps_ret (pe_tup (pa_cons (pv 2) (pa_cons (pe_callTy (call_tupK (K := K) rfl) (by rfl) T.z_tuple (by decide +kernel) (pa_cons (pe_lc (own := [("_law_row", 7)]) rfl S.nd (pi_listK (K := K) rfl (pv 4)) (blkOk_by (N := nn_l_behind) (sc := (defScope s_l_behind)) (own := [("_law_row", 7)]) (by decide +kernel)) (fun _ _ _ _ _ => (pg_name (i := 7) S.nd rfl (by first | exact .inl rfl | exact .inr rfl))) (fun _ _ _ _ _ => pts_nil) (fun _ _ _ _ _ => (pe_callTy (call_tupK (K := K) rfl) (by rfl) T.z_tuple (by decide +kernel) (pa_cons (pv 7) pa_nil)))) pa_nil)) pa_nil)))))))), ?_⟩
  rintro ⟨state_here, step, _⟩
  show SimB _ _ _ _ _ _ [.sl (fz K ((e2 eI (eT (eT (e2 eI eI)))) state_here)), .sl (fz K (eD step)), .un, .un, .un, .un, .un, .un] (l_behind state_here step)
  unfold l_behind
  exact (sb_seq (sb_asg (e := (e2 eI (eT (eT (e2 eI eI))))) (EvG.is (w' := (ret state_here)) (ev_f (e := (e2 eI (eT (eT (e2 eI eI))))) state_here rfl) rfl) (fun u1 => (tg_tup (ds := [eI (u1.1), (eT (eT (e2 eI eI))) (u1.2)]) (ts_cons (tg_name (ltb rfl)) (ts_cons (tg_name (ltb rfl)) ts_nil)) rfl rfl)) (fun u1 => (la_in (sb_seq (sb_setN (S := fun r => ls2 K (e2L (e2 eI eI) r)) (ev_lcN (e := (eT (e2 eI eI))) (c := fun c2 => (ret true)) (f := fun c2 => (ret c2)) (ItG.is (w' := (ret (u1.2))) (it_tup (ev_f (e := (eT (eT (e2 eI eI)))) (u1.2) rfl)) rfl) (fun c2 => (tg_name (ltb rfl))) (fun c2 => (EvT.is (w' := (ret true)) et_yes rfl)) (fun c2 => (EvG.is (w' := (ret c2)) (ev_b1F (ev_f (e := (eT (e2 eI eI))) c2 rfl) (fun _ => c_lstT _)) rfl))) (ltb rfl) (fun rows_4 => (la_in (sb_join (S := ((List (List (Int × Int))) × Int)) (Γf := fun s8 => [.sl (fz K ((e2 eI (eT (eT (e2 eI eI)))) state_here)), .sl (fz K (eD step)), .sl (fz K (eI s8.2)), .sl (fz K ((eT (eT (e2 eI eI))) (u1.2))), .sl (ls2 K (e2L (e2 eI eI) s8.1)), .un, .un, .un]) (k := fun s8 => _) (sb_if (EvT.is (w' := (bnd (bnd (opt (asT step)) fun x5 => opt (atI x5 (0 : Int))) fun x6 => eqW (eD x6) (eS ("put" : Str)))) (et_test (ev_opF (ev_opF (ev_as (f := asT) (e := (eT eD)) (ev_f (e := eD) step rfl) as_T) ev_int (fun _ _ => o_ixT _ _)) ev_str (fun _ _ => o_eqDW _ _))) rfl) (sb_seq (sb_append2 (e := (e2 eI eI)) (xss := rows_4) rfl (EvG.is (w' := (bnd (bnd (opt (asT step)) fun x10 => opt (atI x10 (3 : Int))) fun x11 => opt (asI x11))) (ev_as (f := asI) (e := eI) (ev_opF (ev_as (f := asT) (e := (eT eD)) (ev_f (e := eD) step rfl) as_T) ev_int (fun _ _ => o_ixT _ _)) as_I) rfl) (EvG.is (w' := (bnd (bnd (bnd (opt (asT step)) fun x13 => opt (atI x13 (2 : Int))) fun x14 => opt (asI x14)) fun x15 => ret ((u1.1), x15))) (ev_tupS (fun x => (x.1, x.2.1)) (e2 eI eI) (es_f (ev_f (e := eI) (u1.1) rfl) (es_f (ev_as (f := asI) (e := eI) (ev_opF (ev_as (f := asT) (e := (eT eD)) (ev_f (e := eD) step rfl) as_T) ev_int (fun _ _ => o_ixT _ _)) as_I) es_nil)) (fun _ => (AllF.cons (AllF.cons AllF.nil))) (fun _ => rfl) (fun _ => rfl)) (by simp only [ret_bnd, bnd_bnd, mapW_bnd, mapW_ret] <;> rfl)) (fun s12 => (la_in (sb_set (e := eI) (EvG.is (w' := (ret ((u1.1) + (1 : Int)))) (ev_opF (ev_f (e := eI) (u1.1) rfl) ev_int (fun _ _ => o_add _ _)) rfl) (ltb rfl) (fun count_16 => (Lands.wk (la_at (s12, count_16)) (wk_mask [true, true, true, true, true, true, true, true] _)))))))) (sb_seq (sb_pop2Set (e := (e2 eI eI)) (xss := rows_4) rfl (EvG.is (w' := (bnd (bnd (opt (asT step)) fun x19 => opt (atI x19 (1 : Int))) fun x20 => opt (asI x20))) (ev_as (f := asI) (e := eI) (ev_opF (ev_as (f := asT) (e := (eT eD)) (ev_f (e := eD) step rfl) as_T) ev_int (fun _ _ => o_ixT _ _)) as_I) rfl) (EvG.is (w' := (ret (0 : Int))) ev_int rfl) (ltb rfl) (fun p21 s22 => (la_in (sb_if (EvT.is (w' := (bnd (bnd (opt (asT step)) fun x23 => opt (atI x23 (0 : Int))) fun x24 => eqW (eD x24) (eS ("go" : Str)))) (et_test (ev_opF (ev_opF (ev_as (f := asT) (e := (eT eD)) (ev_f (e := eD) step rfl) as_T) ev_int (fun _ _ => o_ixT _ _)) ev_str (fun _ _ => o_eqDW _ _))) rfl) (sb_append2 (e := (e2 eI eI)) (xss := s22) rfl (EvG.is (w' := (bnd (bnd (opt (asT step)) fun x26 => opt (atI x26 (2 : Int))) fun x27 => opt (asI x27))) (ev_as (f := asI) (e := eI) (ev_opF (ev_as (f := asT) (e := (eT eD)) (ev_f (e := eD) step rfl) as_T) ev_int (fun _ _ => o_ixT _ _)) as_I) rfl) (EvG.is (w' := (ret p21)) (ev_f (e := (e2 eI eI)) p21 rfl) rfl) (fun s28 => (Lands.wk (la_at (s28, (u1.1))) (wk_mask [true, true, true, true, true, false, true, true] _)))) (sb_next (Lands.wk (la_at (s22, (u1.1))) (wk_mask [true, true, true, true, true, false, true, true] _))))))))) (fun s8 => (sb_retF (EvG.is (w' := (bnd (bnd (ret s8.1) fun l30 => lcG (fun c29 => (ret true)) (fun c29 => (ret c29)) l30) fun x31 => ret (s8.2, x31))) (ev_tupS (fun x => (x.1, x.2.1)) (e2 eI (eT (eT (e2 eI eI)))) (es_f (ev_f (e := eI) s8.2 rfl) (es_f (ev_b1L (EvG.rl (ev_freeze (i := 4) (S := ls2 K (e2L (e2 eI eI) s8.1)) rfl (ev_lcNest (i := 4) (j := 7) (S := ls2 K (e2L (e2 eI eI) s8.1)) (Sf := fun x => ls K (List.map (e2 eI eI) x)) (c := fun c29 => (ret true)) (f := fun c29 => (ret c29)) s8.1 rfl (nest2 _) (ltb rfl) (by decide) (fun c29 => (EvT.is (w' := (ret true)) et_yes rfl)) (fun c29 => (EvG.is (w' := (ret c29)) (ev_b1L (ev_b (e := (e2 eI eI)) c29 rfl) (fun _ => c_tupL _)) rfl))) (fun _ _ _ _ _ _ h => h))) (fun _ => c_tupL _)) es_nil)) (fun _ => (AllF.cons (AllF.cons AllF.nil))) (fun _ => rfl) (fun _ => rfl)) rfl) (fun _ => rfl))))))))))))
end
end Cf
namespace Cf
open PySem PySem.Spec PyProof.Rows L2 WL
section
variable {P : Program} {w : World} {K : PySem.W.Frag} {mg : Str → Option Value} {base : Heap}
set_option maxHeartbeats 4000000
theorem ok_l_mix2 (T : Tx P K mg) : FnOk P w K mg base CX0 1 T.f_l_mix2 T.d_l_mix2 ["_law_first", "_law_second"] (spN K (fun x : Int × Int × Unit => [.d (eI x.1), .d (eI x.2.1)]) (fun x => l_mix2 x.1 x.2.1) (fun r : Int => .fz (eI r))) := by
  have S := sc_l_mix2
  refine fn_n (N := nn_l_mix2) T.F_l_mix2 S (fun _ => rfl) (fun cdv A outer s H E hr => ?_)
  refine ⟨_, (pss_cons (ps_set (i := 2) S.nd rfl (by first | exact .inl rfl | exact .inr rfl) (pe_op op_modN (pe_callTy call_int1 (by rfl) T.z_int (by decide +kernel) (pa_cons (pe_op op_add (pe_op op_add (pe_op op_mul (pv 0) pe_int) (pe_op op_mul (pv 1) pe_int)) pe_int) pa_nil)) pe_int))
      (pss_one (ps_ret (pe_op op_modN (pe_callTy call_int1 (by rfl) T.z_int (by decide +kernel) (pa_cons (pe_op op_add (pe_op op_add (pe_op op_mul (pv 2) pe_int) (pe_op op_mul (pv 1) pe_int)) pe_int) pa_nil)) pe_int)))), ?_⟩
  rintro ⟨first, second, _⟩
  show SimB _ _ _ _ _ _ [.sl (fz K (eI first)), .sl (fz K (eI second)), .un] (l_mix2 first second)
  unfold l_mix2
  exact (sb_seq (sb_set (e := eI) (EvG.is (w' := (ret (Int.fmod (((first * (48271 : Int)) + (second * (69621 : Int))) + (12345 : Int)) (2147483647 : Int)))) (ev_modC (by decide) (ev_b1F (ev_opF (ev_opF (ev_mulR (by decide) (ev_f (e := eI) first rfl)) (ev_mulR (by decide) (ev_f (e := eI) second rfl)) (fun _ _ => o_add _ _)) ev_int (fun _ _ => o_add _ _)) (fun _ => c_int _))) rfl) (ltb rfl) (fun value_1 => (la_in (sb_retF (EvG.is (w' := (ret (Int.fmod (((value_1 * (40692 : Int)) + (second * (7919 : Int))) + (1 : Int)) (2147483399 : Int)))) (ev_modC (by decide) (ev_b1F (ev_opF (ev_opF (ev_mulR (by decide) (ev_f (e := eI) value_1 rfl)) (ev_mulR (by decide) (ev_f (e := eI) second rfl)) (fun _ _ => o_add _ _)) ev_int (fun _ _ => o_add _ _)) (fun _ => c_int _))) rfl) (fun _ => rfl))))))
end
end Cf
namespace Cf
open PySem PySem.Spec PyProof.Rows L2 WL
section
variable {P : Program} {w : World} {K : PySem.W.Frag} {mg : Str → Option Value} {base : Heap}
set_option maxHeartbeats 4000000
theorem ok_l_numbers (T : Tx P K mg) : FnOk P w K mg base CX0 2 T.f_l_numbers T.d_l_numbers ["_law_script", "_law_count"] (spN K (fun x : (List Int) × Int × Unit => [.l (List.map eI x.1), .d (eI x.2.1)]) (fun x => l_numbers x.1 x.2.1) (fun r : (List Int) => .nw (ls K (List.map eI r)))) := by
  have S := sc_l_numbers
  refine fn_n (N := nn_l_numbers) T.F_l_numbers S (fun _ => rfl) (fun cdv A outer s H E hr => ?_)
  refine ⟨_, (pss_cons (ps_set (i := 2) S.nd rfl (by first | exact .inl rfl | exact .inr rfl) (pe_lst pa_nil))
      (pss_cons (ps_set (i := 3) S.nd rfl (by first | exact .inl rfl | exact .inr rfl) (pe_op op_add (pe_callB (call_lenK (K := K) rfl) (by rfl) T.z_len (by decide +kernel) (pa_cons (pv 0) pa_nil)) pe_int))
      (pss_cons (ps_for PassesOwn.never rfl (pi_listK (K := K) rfl (pe_slice (sl_listK (K := K) rfl) (pv 0) po_none (po_some pe_int))) (pg_name (i := 4) S.nd rfl (by first | exact .inl rfl | exact .inr rfl)) (pss_cons (ps_set (i := 5) S.nd rfl (by first | exact .inl rfl | exact .inr rfl) (pe_callB call_abs (by rfl) T.z_abs (by decide +kernel) (pa_cons (pv 4) pa_nil)))
      (pss_cons (ps_set (i := 3) S.nd rfl (by first | exact .inl rfl | exact .inr rfl) (pe_call (ok_l_mix2 T) (hr.mono (by decide)) (by rfl) T.g_l_mix2 T.F_l_mix2.kp T.b_l_mix2 .nil pass0 (pa_cons (pv 3) (pa_cons (pe_op op_modN (pe_callTy call_int1 (by rfl) T.z_int (by decide +kernel) (pa_cons (pv 5) pa_nil)) pe_int) pa_nil))))
      (pss_one (ps_if (pt_cmpR op_ge (pv 5) (pe_op op_pow pe_int pe_int) (nomark _)) (pss_one (ps_for PassesOwn.never rfl (pi_range1 (by rfl) T.z_range (pa_cons pe_int pa_nil)) (pg_name (i := 6) S.nd rfl (by first | exact .inl rfl | exact .inr rfl)) (pss_one (ps_if (pt_cmpR op_gt (pv 5) pe_int (nomark _)) (pss_cons (ps_expr (pe_bm PySem.F.plainAttrs_list PySem.F.slot_list_append PySem.F.type_list_append mt_append (pv 2) (pa_cons (pe_op op_modN (pe_callTy call_int1 (by rfl) T.z_int (by decide +kernel) (pa_cons (pv 5) pa_nil)) pe_int) pa_nil)))
      (pss_one (ps_set (i := 5) S.nd rfl (by first | exact .inl rfl | exact .inr rfl) (pe_op op_fdivN (pv 5) pe_int)))) pss_nil)))) (pss_one (ps_for PassesOwn.never rfl (pi_range1 (by rfl) T.z_range (pa_cons pe_int pa_nil)) (pg_name (i := 6) S.nd rfl (by first | exact .inl rfl | exact .inr rfl)) (pss_one (ps_expr (pe_bm PySem.F.plainAttrs_list PySem.F.slot_list_append PySem.F.type_list_append mt_append (pv 2) (pa_cons (pe_op op_modN (pe_callTy call_int1 (by rfl) T.z_int (by decide +kernel) (pa_cons (pe_call (ok_l_mix2 T) (hr.mono (by decide)) (by rfl) T.g_l_mix2 T.F_l_mix2.kp T.b_l_mix2 .nil pass0 (pa_cons (pv 5) (pa_cons (pe_op op_add (pv 6) pe_int) pa_nil))) pa_nil)) pe_int) pa_nil)))))))))))
      (pss_cons (ps_for PassesOwn.never rfl (pi_range1 (by rfl) T.z_range (pa_cons (pv 1) pa_nil)) (pg_name (i := 6) S.nd rfl (by first | exact .inl rfl | exact .inr rfl)) (pss_one (ps_if (pt_cmpR op_lt (pe_callB (call_lenK (K := K) rfl) (by rfl) T.z_len (by decide +kernel) (pa_cons (pv 2) pa_nil)) (pv 1) (nomark _)) (pss_cons (ps_set (i := 3) S.nd rfl (by first | exact .inl rfl | exact .inr rfl) (pe_call (ok_l_mix2 T) (hr.mono (by decide)) (by rfl) T.g_l_mix2 T.F_l_mix2.kp T.b_l_mix2 .nil pass0 (pa_cons (pv 3) (pa_cons (pe_op op_add (pv 6) pe_int) pa_nil))))
      (pss_one (ps_expr (pe_bm PySem.F.plainAttrs_list PySem.F.slot_list_append PySem.F.type_list_append mt_append (pv 2) (pa_cons (pe_op op_modN (pe_callTy call_int1 (by rfl) T.z_int (by decide +kernel) (pa_cons (pv 3) pa_nil)) pe_int) pa_nil))))) pss_nil)))
      (pss_one (ps_ret (pe_slice (sl_listK (K := K) rfl) (pv 2) po_none (po_some (pv 1))))))))), ?_⟩
  rintro ⟨script, count, _⟩
  show SimB _ _ _ _ _ _ [.rd K (List.map eI script), .sl (fz K (eI count)), .un, .un, .un, .un, .un] (l_numbers script count)
  unfold l_numbers
  exact (sb_seq (sb_setN (S := fun r => ls K (List.map eI r)) (EvG.is (w' := (ret ([] : List Int))) (ev_lstS (fun _ => ([] : List Int)) eI es_nil (fun _ => AllF.nil) (fun _ => rfl) (fun _ => rfl)) rfl) (ltb rfl) (fun found_1 => (la_in (sb_seq (sb_set (e := eI) (EvG.is (w' := (ret ((script.length : Int) + (1 : Int)))) (ev_opF (ev_b1L (ev_r (e := eI) script rfl) (fun _ => c_lenL _)) ev_int (fun _ _ => o_add _ _)) rfl) (ltb rfl) (fun total_2 => (la_in (sb_seq (sb_for (S := (Int × (List Int))) (e := eI) (Γh := fun s4 => [.rd K (List.map eI script), .sl (fz K (eI count)), .sl (ls K (List.map eI s4.2)), .sl (fz K (eI s4.1)), .un, .un, .un]) (total_2, found_1) (ItG.is (w' := (ret (cutA script none (some (63 : Int))))) (it_list (ev_slL (ev_r (e := eI) script rfl) eo_none (eo_some ev_int))) rfl) (fun _ h => nomatch h) (wk_mask [true, true, true, true, true, true, true] _) (fun x3 s4 => (tg_name (ltb rfl))) (fun x3 s4 kc5 => (sb_seq (sb_set (e := eI) (EvG.is (w' := (ret (if x3 < 0 then -x3 else x3))) (ev_b1F (ev_f (e := eI) x3 rfl) (fun _ => c_abs _)) rfl) (ltb rfl) (fun number_7 => (la_in (sb_seq (sb_set (e := eI) (EvG.is (w' := (noX (l_mix2 s4.1 (Int.fmod number_7 (2147483647 : Int))))) (ev_callS eI (es_f (ev_f (e := eI) s4.1 rfl) (es_f (ev_modC (by decide) (ev_b1F (ev_f (e := eI) number_7 rfl) (fun _ => c_int _))) es_nil)) (fun _ => rfl)) rfl) (ltb rfl) (fun total_8 => (la_in (sb_if (EvT.is (w' := (ret (decide ((1000000000000000000 : Int) ≤ number_7)))) (et_test (ev_opF (ev_f (e := eI) number_7 rfl) (ev_powC (r := 1000000000000000000) ⟨by decide, by decide, by decide⟩ (by decide)) (fun _ _ => o_ge _ _))) rfl) (sb_for (S := ((List Int) × Int)) (e := eI) (Γh := fun s11 => [.rd K (List.map eI script), .sl (fz K (eI count)), .sl (ls K (List.map eI s11.1)), .sl (fz K (eI total_8)), .sl (fz K (eI x3)), .sl (fz K (eI s11.2)), .un]) (s4.2, number_7) (ItG.is (w' := (grd (Rng (60 : Int)) (ret (span 0 ((60 : Int)).toNat)))) (it_range1 ev_int) rfl) (fun _ h => nomatch h) (wk_mask [true, true, true, true, true, true, true] _) (fun x10 s11 => (tg_name (ltb rfl))) (fun x10 s11 kc12 => (sb_if (EvT.is (w' := (ret (decide ((0 : Int) < s11.2)))) (et_test (ev_opF (ev_f (e := eI) s11.2 rfl) ev_int (fun _ _ => o_gt _ _))) rfl) (sb_seq (sb_appendK (e := eI) (xs := s11.1) rfl (EvG.is (w' := (ret (Int.fmod s11.2 (1000 : Int)))) (ev_modC (by decide) (ev_b1F (ev_f (e := eI) s11.2 rfl) (fun _ => c_int _))) rfl) (fun s15 => (la_in (sb_set (e := eI) (EvG.is (w' := (ret (Int.fdiv s11.2 (1000 : Int)))) (ev_fdivC ⟨by decide, by decide⟩ (ev_f (e := eI) s11.2 rfl)) rfl) (ltb rfl) (fun number_16 => (Lands.wk (la_at (s15, number_16)) (wk_mask [true, true, true, true, true, true, false] _)))))))) (sb_next (Lands.wk (la_at (s11.1, s11.2)) (wk_mask [true, true, true, true, true, true, false] _))))) (fun s11 => (Lands.wk (la_at (total_8, s11.1)) (wk_mask [true, true, true, true, false, false, true] _)))) (sb_for (S := ((List Int))) (e := eI) (Γh := fun s19 => [.rd K (List.map eI script), .sl (fz K (eI count)), .sl (ls K (List.map eI s19)), .sl (fz K (eI total_8)), .sl (fz K (eI x3)), .sl (fz K (eI number_7)), .un]) s4.2 (ItG.is (w' := (grd (Rng (6 : Int)) (ret (span 0 ((6 : Int)).toNat)))) (it_range1 ev_int) rfl) (fun _ h => nomatch h) (wk_mask [true, true, true, true, true, true, true] _) (fun x18 s19 => (tg_name (ltb rfl))) (fun x18 s19 kc20 => (sb_appendK (e := eI) (xs := s19) rfl (EvG.is (w' := (bnd (noX (l_mix2 number_7 (x18 + (1 : Int)))) fun x23 => ret (Int.fmod x23 (1000 : Int)))) (ev_modC (by decide) (ev_b1F (ev_callS eI (es_f (ev_f (e := eI) number_7 rfl) (es_f (ev_opF (ev_f (e := eI) x18 rfl) ev_int (fun _ _ => o_add _ _)) es_nil)) (fun _ => rfl)) (fun _ => c_int _))) rfl) (fun s22 => (Lands.wk (la_at s22) (wk_mask [true, true, true, true, true, true, false] _))))) (fun s19 => (Lands.wk (la_at (total_8, s19)) (wk_mask [true, true, true, true, false, false, true] _)))))))))))))) (fun s4 => (la_in (sb_seq (sb_for (S := (Int × (List Int))) (e := eI) (Γh := fun s26 => [.rd K (List.map eI script), .sl (fz K (eI count)), .sl (ls K (List.map eI s26.2)), .sl (fz K (eI s26.1)), .un, .un, .un]) (s4.1, s4.2) (ItG.is (w' := (grd (Rng count) (ret (span 0 (count).toNat)))) (it_range1 (ev_f (e := eI) count rfl)) rfl) (fun _ h => nomatch h) (wk_mask [true, true, true, true, true, true, true] _) (fun x25 s26 => (tg_name (ltb rfl))) (fun x25 s26 kc27 => (sb_if (EvT.is (w' := (ret (decide ((s26.2.length : Int) < count)))) (et_test (ev_opF (ev_b1L (ev_l (e := eI) s26.2 rfl) (fun _ => c_lenL _)) (ev_f (e := eI) count rfl) (fun _ _ => o_lt _ _))) rfl) (sb_seq (sb_set (e := eI) (EvG.is (w' := (noX (l_mix2 s26.1 (x25 + (3 : Int))))) (ev_callS eI (es_f (ev_f (e := eI) s26.1 rfl) (es_f (ev_opF (ev_f (e := eI) x25 rfl) ev_int (fun _ _ => o_add _ _)) es_nil)) (fun _ => rfl)) rfl) (ltb rfl) (fun total_30 => (la_in (sb_appendK (e := eI) (xs := s26.2) rfl (EvG.is (w' := (ret (Int.fmod total_30 (1000 : Int)))) (ev_modC (by decide) (ev_b1F (ev_f (e := eI) total_30 rfl) (fun _ => c_int _))) rfl) (fun s31 => (Lands.wk (la_at (total_30, s31)) (wk_mask [true, true, true, true, true, true, false] _)))))))) (sb_next (Lands.wk (la_at (s26.1, s26.2)) (wk_mask [true, true, true, true, true, true, false] _))))) (fun s26 => (la_in (sb_retSS (S := fun r => ls K (List.map eI r)) (EvG.is (w' := (ret (cutA s26.2 none (some count)))) (ev_slL (ev_l (e := eI) s26.2 rfl) eo_none (eo_some (ev_f (e := eI) count rfl))) rfl) (fun _ => rfl))))))))))))))))))
end
end Cf
namespace Cf
open PySem PySem.Spec PyProof.Rows L2 WL
section
variable {P : Program} {w : World} {K : PySem.W.Frag} {mg : Str → Option Value} {base : Heap}
set_option maxHeartbeats 4000000
theorem ok_l_draws (T : Tx P K mg) (hn : ∀ ns z, 1 ≤ z → z ≤ 1000 → l_numbers ns z (fun v => v ≠ [] ∧ v.length ≤ 1000 ∧ ∀ c ∈ v, 0 ≤ c) (fun _ => False)) : FnOk P w K mg base CX0 3 T.f_l_draws T.d_l_draws ["_law_script", "_law_count"] (spTapeS tape2 K) := by
  have S := sc_l_draws
  refine T.F_l_draws.ok S (fun vs H Q E h => by obtain ⟨p, ns, z, rfl, _⟩ := h; rfl) (fun cdv A outer s H vs Q E hr h => ?_)
  obtain ⟨p, ns, z, rfl, hs, z1, z2, q⟩ := h
  refine ⟨_, pss_one (ps_ret (pe_disp (pps_cons pe_str pe_int (pps_cons pe_str (pe_call (ok_l_numbers T) (hr.mono (by decide)) (by rfl) T.g_l_numbers T.F_l_numbers.kp T.b_l_numbers .nil pass0 (pa_cons (pv 0) (pa_cons (pv 1) pa_nil))) pps_nil)) (by rfl) (by rfl) (fun z => by cases z) (by decide))), ?_⟩
  intro d hd
  have hs1 : SqL K (upd H d (.dK [])) p (ns.map V.int) := by
    rcases hs with hs | hs
    · exact .inl (rd_upd (fun z => rd_new hs (by rw [z]; exact hd)) hs)
    · exact .inr hs
  refine ⟨_, rfl, _, rfl, nums_use (E := E0) True.intro hs1 (hn ns z z1 z2) fun v r H' v0 v1 v2 k hr0 hr1 => ?_⟩
  have hdr : d ≠ r := fun z => by rw [← z, upd_same] at hr0; cases hr0
  refine ⟨k d _ upd_same, [(kAt, .int 0), (kRow, .ref r)], rfl, (show 2 ≤ 15 by decide), ?_⟩
  refine q _ d [d, r] (fun x o e => ?_) ⟨d, r, v, 0, rfl, rfl, hdr, upd_same, ?_, by decide, v0, v1, v2⟩
  · have hx : x ≠ d := ne_of_none e hd
    rw [upd_ne hx]
    exact k x o (by rw [upd_ne hx]; exact e)
  · rw [upd_ne (Ne.symm hdr)]
    exact hr1
end
end Cf
namespace Cf
open PySem PySem.Spec PyProof.Rows L2 WL
section
variable {P : Program} {w : World} {K : PySem.W.Frag} {mg : Str → Option Value} {base : Heap}
set_option maxHeartbeats 4000000
theorem ok_l_thinned2 (T : Tx P K mg) : FnOk P w K mg base CX0 1 T.f_l_thinned2 T.d_l_thinned2 ["_law_channels", "_law_n", "_law_table"] (spM K (fun x : (List (Int × Int × Int)) × Int × (List (List (List Int))) × Unit => [.l (List.map (e3 eI eI eI) x.1), .d (eI x.2.1), .o (ls3 K (e3L eI x.2.2.1))]) (fun x => l_thinned2 x.1 x.2.1 x.2.2.1) (fun r : (List (List (List Int))) => .fz ((eT (eT (eT eI))) r))) := by
  have S := sc_l_thinned2
  refine fn_m (N := nn_l_thinned2) T.F_l_thinned2 S (fun _ => rfl) (fun cdv A outer s H E hr => ?_)
  refine ⟨_, (pss_cons (ps_set (i := 3) S.nd rfl (by first | exact .inl rfl | exact .inr rfl) (pv 2))
      (pss_cons (ps_set (i := 4) S.nd rfl (by first | exact .inl rfl | exact .inr rfl) pe_bl)
      (pss_cons (ps_while PassesOwn.never (pt_val (pv 4)) (pss_cons (ps_set (i := 4) S.nd rfl (by first | exact .inl rfl | exact .inr rfl) pe_bl)
      (pss_one (ps_for PassesOwn.never rfl (pi_range1 (by rfl) T.z_range (pa_cons (pv 1) pa_nil)) (pg_name (i := 5) S.nd rfl (by first | exact .inl rfl | exact .inr rfl)) (pss_one (ps_for PassesOwn.never rfl (pi_range1 (by rfl) T.z_range (pa_cons (pv 1) pa_nil)) (pg_name (i := 6) S.nd rfl (by first | exact .inl rfl | exact .inr rfl)) (pss_cons (ps_setLc (i := 7) (own := [("_law_c", 8)]) rfl S.nd rfl rfl (sw_true rfl rfl rfl (by decide +kernel)) (pi_listK (K := K) rfl (pe_ix (ix_listK (K := K) rfl) (pe_ix (ix_listK (K := K) rfl) (pv 3) (pv 5) (fun _ _ => rfl)) (pv 6) (fun _ _ => rfl))) (blkOk_by (N := nn_l_thinned2) (sc := (defScope s_l_thinned2)) (own := [("_law_c", 8)]) (by decide +kernel)) (fun _ _ _ _ _ => (pg_name (i := 8) S.nd rfl (by first | exact .inl rfl | exact .inr rfl))) (fun _ _ _ _ _ => (pts_one (PW.pt (pw_or (pt_cmpR op_eq (pe_ix (ix_tupK (K := K) rfl) (pe_ix (ix_listK (K := K) rfl) (pv 0) (pv 8) (fun _ _ => rfl)) pe_int (fun _ _ => rfl)) (pv 6) (nomark _)) (pw_or1 (pt_cmpR (op_neDK (K := K) rfl hr.units) (pe_ix (ix_listK (K := K) rfl) (pe_ix (ix_listK (K := K) rfl) (pv 3) (pe_ix (ix_tupK (K := K) rfl) (pe_ix (ix_listK (K := K) rfl) (pv 0) (pv 8) (fun _ _ => rfl)) pe_int (fun _ _ => rfl)) (fun _ _ => rfl)) (pv 6) (fun _ _ => rfl)) (pe_lst pa_nil) (nomark _))))))) (fun _ _ _ _ _ => (pv 8)))
      (pss_one (ps_if (pt_cmpR (op_neDK (K := K) rfl hr.units) (pv 7) (pe_ix (ix_listK (K := K) rfl) (pe_ix (ix_listK (K := K) rfl) (pv 3) (pv 5) (fun _ _ => rfl)) (pv 6) (fun _ _ => rfl)) (nomark _)) (pss_cons (ps_asg (pv 7) (pg_sub (pe_ix (ix_listK (K := K) rfl) (pv 3) (pv 5) (fun _ _ => rfl)) (pv 6) set_list))
      (pss_one (ps_set (i := 4) S.nd rfl (by first | exact .inl rfl | exact .inr rfl) pe_bl))) pss_nil)))))))))
      (pss_one (ps_ret (pe_callTy (call_tupK (K := K) rfl) (by rfl) T.z_tuple (by decide +kernel) (pa_cons (pe_lc (own := [("_law_row", 9)]) rfl S.nd (pi_listK (K := K) rfl (pv 3)) (blkOk_by (N := nn_l_thinned2) (sc := (defScope s_l_thinned2)) (own := [("_law_row", 9)]) (by decide +kernel)) (fun _ _ _ _ _ => (pg_name (i := 9) S.nd rfl (by first | exact .inl rfl | exact .inr rfl))) (fun _ _ _ _ _ => pts_nil) (fun _ _ _ _ _ => (pe_callTy (call_tupK (K := K) rfl) (by rfl) T.z_tuple (by decide +kernel) (pa_cons (pe_lc (own := [("_law_options_here", 10)]) rfl S.nd (pi_listK (K := K) rfl (pv 9)) (blkOk_by (N := nn_l_thinned2) (sc := (relS ({ kind := .function, names := [(".0", .«local»), ("_law_row", .«local»), ("tuple", .globalImplicit)], isGenerator := false, isCoroutine := false, more := [] } : Scope) (defScope s_l_thinned2))) (own := [("_law_options_here", 10)]) (by decide +kernel)) (fun _ _ _ _ _ => (pg_name (i := 10) S.nd rfl (by first | exact .inl rfl | exact .inr rfl))) (fun _ _ _ _ _ => pts_nil) (fun _ _ _ _ _ => (pe_callTy (call_tupK (K := K) rfl) (by rfl) T.z_tuple (by decide +kernel) (pa_cons (pv 10) pa_nil)))) pa_nil)))) pa_nil))))))), ?_⟩
  rintro ⟨channels, n, table, _⟩
  show SimB _ _ _ _ _ _ [.rd K (List.map (e3 eI eI eI) channels), .sl (fz K (eI n)), .sl (ls3 K (e3L eI table)), .un, .un, .un, .un, .un, .un, .un, .un] (l_thinned2 channels n table)
  unfold l_thinned2
  exact (sb_seq (sb_move (S := ls3 K (e3L eI table)) rfl (ltb rfl) rfl (by decide) (la_in (sb_seq (sb_set (e := eB) (EvG.is (w' := (ret true)) ev_bl rfl) (ltb rfl) (fun gone_1 => (la_in (sb_seq (sb_while (S := (Bool × (List (List (List Int))))) (Γh := fun s2 => [.rd K (List.map (e3 eI eI eI) channels), .sl (fz K (eI n)), .un, .sl (ls3 K (e3L eI s2.2)), .sl (fz K (eB s2.1)), .un, .un, .un, .un, .un, .un]) (gone_1, table) (wk_mask [true, true, true, true, true, true, true, true, true, true, true] _) (fun s2 => (EvT.is (w' := (ret s2.1)) (et_B (ev_f (e := eB) s2.1 rfl)) rfl)) (fun s2 kc3 => (sb_seq (sb_set (e := eB) (EvG.is (w' := (ret false)) ev_bl rfl) (ltb rfl) (fun gone_5 => (la_in (sb_for (S := ((List (List (List Int))) × Bool)) (e := eI) (Γh := fun s7 => [.rd K (List.map (e3 eI eI eI) channels), .sl (fz K (eI n)), .un, .sl (ls3 K (e3L eI s7.1)), .sl (fz K (eB s7.2)), .un, .un, .un, .un, .un, .un]) (s2.2, gone_5) (ItG.is (w' := (grd (Rng n) (ret (span 0 (n).toNat)))) (it_range1 (ev_f (e := eI) n rfl)) rfl) (fun _ h => nomatch h) (wk_mask [true, true, true, true, true, true, true, true, true, true, true] _) (fun x6 s7 => (tg_name (ltb rfl))) (fun x6 s7 kc8 => (sb_for (S := ((List (List (List Int))) × Bool)) (e := eI) (Γh := fun s11 => [.rd K (List.map (e3 eI eI eI) channels), .sl (fz K (eI n)), .un, .sl (ls3 K (e3L eI s11.1)), .sl (fz K (eB s11.2)), .sl (fz K (eI x6)), .un, .un, .un, .un, .un]) (s7.1, s7.2) (ItG.is (w' := (grd (Rng n) (ret (span 0 (n).toNat)))) (it_range1 (ev_f (e := eI) n rfl)) rfl) (fun _ h => nomatch h) (wk_mask [true, true, true, true, true, true, true, true, true, true, true] _) (fun x10 s11 => (tg_name (ltb rfl))) (fun x10 s11 kc12 => (sb_seq (sb_setN (S := fun r => ls K (List.map eI r)) (ev_lcC (e := eI) (c := fun c15 => (bnd (bnd (bnd (opt (atI channels c15)) fun x16 => ret x16.2.1) fun x17 => ret (decide (x17 = x10))) fun x22 => sel x22 (ret true) (bnd (bnd (bnd (opt (atI channels c15)) fun x18 => ret x18.2.1) fun x20 => bnd (opt (atI s11.1 x20)) fun r19 => opt (atI r19 x10)) fun x21 => eqLN (List.map eI x21) (List.map eI ([] : List Int))))) (f := fun c15 => (ret c15)) (ItC.is (w' := (bnd (opt (atI s11.1 x6)) fun r14 => opt (atI r14 x10))) (it_RL (e := eI) (ev_ix3 (e := eI) s11.1 (.inl rfl) (ev_f (e := eI) x6 rfl) (ev_f (e := eI) x10 rfl))) rfl) (fun c15 => (tg_name (ltb rfl))) (fun c15 => (EvT.is (w' := (bnd (bnd (bnd (opt (atI channels c15)) fun x16 => ret x16.2.1) fun x17 => ret (decide (x17 = x10))) fun x22 => sel x22 (ret true) (bnd (bnd (bnd (opt (atI channels c15)) fun x18 => ret x18.2.1) fun x20 => bnd (opt (atI s11.1 x20)) fun r19 => opt (atI r19 x10)) fun x21 => eqLN (List.map eI x21) (List.map eI ([] : List Int))))) (et_or (et_test (ev_opF (ev_ixW (e' := eI) (fun a => a.2.1) 1 (ev_opLF (ev_r (e := (e3 eI eI eI)) channels rfl) (ev_f (e := eI) c15 rfl) (fun _ _ => o_ixL _ _)) rfl (fun _ => ⟨_, rfl, rfl⟩)) (ev_f (e := eI) x10 rfl) (fun _ _ => o_eqI _ _))) (et_test (ev_opLL (ev_ix3 (e := eI) s11.1 (.inl rfl) (ev_ixW (e' := eI) (fun a => a.2.1) 1 (ev_opLF (ev_r (e := (e3 eI eI eI)) channels rfl) (ev_f (e := eI) c15 rfl) (fun _ _ => o_ixL _ _)) rfl (fun _ => ⟨_, rfl, rfl⟩)) (ev_f (e := eI) x10 rfl)) (EvG.rl (ev_lstS (fun _ => ([] : List Int)) eI es_nil (fun _ => AllF.nil) (fun _ => rfl) (fun _ => rfl))) (fun _ _ => o_neLW _ _)))) (by simp only [ret_bnd, bnd_bnd, mapW_bnd, mapW_ret] <;> rfl))) (fun c15 => (EvG.is (w' := (ret c15)) (ev_f (e := eI) c15 rfl) rfl))) (ltb rfl) (fun kept_24 => (la_in (sb_if (EvT.is (w' := (bnd (bnd (opt (atI s11.1 x6)) fun r25 => opt (atI r25 x10)) fun x26 => eqLN (List.map eI kept_24) (List.map eI x26))) (et_test (ev_opLL (ev_l (e := eI) kept_24 rfl) (ev_ix3 (e := eI) s11.1 (.inl rfl) (ev_f (e := eI) x6 rfl) (ev_f (e := eI) x10 rfl)) (fun _ _ => o_neLW _ _))) rfl) (sb_seq (sb_set3 (e := eI) (xs := s11.1) (x := kept_24) rfl rfl (by decide) (EvG.is (w' := (ret x6)) (ev_f (e := eI) x6 rfl) rfl) (EvG.is (w' := (ret x10)) (ev_f (e := eI) x10 rfl) rfl) (fun s28 => (la_in (sb_set (e := eB) (EvG.is (w' := (ret true)) ev_bl rfl) (ltb rfl) (fun gone_29 => (Lands.wk (la_at (s28, gone_29)) (wk_mask [true, true, true, true, true, true, false, true, true, true, true] _)))))))) (sb_next (Lands.wk (la_at (s11.1, s11.2)) (wk_mask [true, true, true, true, true, true, false, false, true, true, true] _))))))))) (fun s11 => (Lands.wk (la_at (s11.1, s11.2)) (wk_mask [true, true, true, true, true, false, true, true, true, true, true] _))))) (fun s7 => (Lands.wk (la_at (s7.2, s7.1)) (wk_mask [true, true, true, true, true, true, true, true, true, true, true] _))))))))) (fun s2 => (la_in (sb_retF (EvG.is (w' := (bnd (ret s2.2) fun l35 => lcG (fun c32 => (ret true)) (fun c32 => (bnd (ret c32) fun l34 => lcG (fun c33 => (ret true)) (fun c33 => (ret c33)) l34)) l35)) (ev_b1L (EvG.rl (ev_freeze (i := 3) (S := ls3 K (e3L eI s2.2)) rfl (ev_lcNest (i := 3) (j := 9) (S := ls3 K (e3L eI s2.2)) (Sf := fun x => ls2 K (e2L eI x)) (c := fun c32 => (ret true)) (f := fun c32 => (bnd (ret c32) fun l34 => lcG (fun c33 => (ret true)) (fun c33 => (ret c33)) l34)) s2.2 rfl (nest3 _) (ltb rfl) (by decide) (fun c32 => (EvT.is (w' := (ret true)) et_yes rfl)) (fun c32 => (EvG.is (w' := (bnd (ret c32) fun l34 => lcG (fun c33 => (ret true)) (fun c33 => (ret c33)) l34)) (ev_b1L (EvG.rl (ev_lcNest (i := 9) (j := 10) (S := ls2 K (e2L eI c32)) (Sf := fun x => ls K (List.map eI x)) (c := fun c33 => (ret true)) (f := fun c33 => (ret c33)) c32 rfl (nest2 _) (ltb rfl) (by decide) (fun c33 => (EvT.is (w' := (ret true)) et_yes rfl)) (fun c33 => (EvG.is (w' := (ret c33)) (ev_b1L (ev_b (e := eI) c33 rfl) (fun _ => c_tupL _)) rfl)))) (fun _ => c_tupL _)) rfl))) (fun _ _ _ _ _ _ h => h))) (fun _ => c_tupL _)) rfl) (fun _ => rfl)))))))))))))
end
end Cf
namespace Cf
open PySem PySem.Spec PyProof.Rows L2 WL
section
variable {P : Program} {w : World} {K : PySem.W.Frag} {mg : Str → Option Value} {base : Heap}
set_option maxHeartbeats 4000000
theorem ok_l_fabric2 (T : Tx P K mg) : FnOk P w K mg base CX0 2 T.f_l_fabric2 T.d_l_fabric2 ["_law_draws_here", "_law_most", "_law_room"] (spN K (fun x : Unit × Int × Int × Unit => [.t tape2, .d (eI x.2.1), .d (eI x.2.2.1)]) (fun x => l_fabric2 x.2.1 x.2.2.1) (fun r : ((Int × (List (Int × Int × Int))) × (List (List (List Int)))) => .fz ((e2 (e2 eI (eT (e3 eI eI eI))) (eT (eT (eT eI)))) r))) := by
  have S := sc_l_fabric2
  refine fn_n (N := nn_l_fabric2) T.F_l_fabric2 S (fun _ => rfl) (fun cdv A outer s H E hr => ?_)
  refine ⟨_, (pss_cons (ps_set (i := 3) S.nd rfl (by first | exact .inl rfl | exact .inr rfl) (pe_op op_add pe_int (pe_call (ok_l_take T) (hr.mono (by decide)) (by rfl) T.g_l_take T.F_l_take.kp T.b_l_take .nil pass0 (pa_cons (pv 0) (pa_cons pe_int pa_nil)))))
      (pss_cons (ps_set (i := 4) S.nd rfl (by first | exact .inl rfl | exact .inr rfl) (pe_lst pa_nil))
      (pss_cons (ps_for PassesOwn.never rfl (pi_range1 (by rfl) T.z_range (pa_cons (pe_op op_add (pv 3) (pe_call (ok_l_take T) (hr.mono (by decide)) (by rfl) T.g_l_take T.F_l_take.kp T.b_l_take .nil pass0 (pa_cons (pv 0) (pa_cons (pe_op op_add (pe_op op_sub (pv 1) (pv 3)) pe_int) pa_nil)))) pa_nil)) (pg_name (i := 5) S.nd rfl (by first | exact .inl rfl | exact .inr rfl)) (pss_cons (ps_set (i := 6) S.nd rfl (by first | exact .inl rfl | exact .inr rfl) (pe_ifExp (pt_cmpR op_lt (pv 5) (pv 3) (nomark _)) (pv 5) (pe_call (ok_l_take T) (hr.mono (by decide)) (by rfl) T.g_l_take T.F_l_take.kp T.b_l_take .nil pass0 (pa_cons (pv 0) (pa_cons (pv 3) pa_nil)))))
      (pss_cons (ps_set (i := 7) S.nd rfl (by first | exact .inl rfl | exact .inr rfl) (pe_op op_modN (pe_op op_add (pe_op op_add (pv 6) pe_int) (pe_call (ok_l_take T) (hr.mono (by decide)) (by rfl) T.g_l_take T.F_l_take.kp T.b_l_take .nil pass0 (pa_cons (pv 0) (pa_cons (pe_op op_sub (pv 3) pe_int) pa_nil)))) (pv 3)))
      (pss_one (ps_expr (pe_bm PySem.F.plainAttrs_list PySem.F.slot_list_append PySem.F.type_list_append mt_append (pv 4) (pa_cons (pe_tup (pa_cons (pv 6) (pa_cons (pv 7) (pa_cons (pe_op op_add pe_int (pe_call (ok_l_take T) (hr.mono (by decide)) (by rfl) T.g_l_take T.F_l_take.kp T.b_l_take .nil pass0 (pa_cons (pv 0) (pa_cons (pv 2) pa_nil)))) pa_nil)))) pa_nil)))))))
      (pss_cons (ps_set (i := 8) S.nd rfl (by first | exact .inl rfl | exact .inr rfl) (pe_lst pa_nil))
      (pss_cons (ps_set (i := 9) S.nd rfl (by first | exact .inl rfl | exact .inr rfl) (pe_op op_add pe_int (pe_call (ok_l_take T) (hr.mono (by decide)) (by rfl) T.g_l_take T.F_l_take.kp T.b_l_take .nil pass0 (pa_cons (pv 0) (pa_cons pe_int pa_nil)))))
      (pss_cons (ps_for PassesOwn.never rfl (pi_range1 (by rfl) T.z_range (pa_cons (pv 3) pa_nil)) (pg_name (i := 10) S.nd rfl (by first | exact .inl rfl | exact .inr rfl)) (pss_cons (ps_set (i := 11) S.nd rfl (by first | exact .inl rfl | exact .inr rfl) (pe_lst pa_nil))
      (pss_cons (ps_for PassesOwn.never rfl (pi_range1 (by rfl) T.z_range (pa_cons (pv 3) pa_nil)) (pg_name (i := 12) S.nd rfl (by first | exact .inl rfl | exact .inr rfl)) (pss_cons (ps_setLc (i := 13) (own := [("_law_c", 14)]) rfl S.nd rfl rfl (sw_true rfl rfl rfl (by decide +kernel)) (pi_range1 (by rfl) T.z_range (pa_cons (pe_callB (call_lenK (K := K) rfl) (by rfl) T.z_len (by decide +kernel) (pa_cons (pv 4) pa_nil)) pa_nil)) (blkOk_by (N := nn_l_fabric2) (sc := (defScope s_l_fabric2)) (own := [("_law_c", 14)]) (by decide +kernel)) (fun _ _ _ _ _ => (pg_name (i := 14) S.nd rfl (by first | exact .inl rfl | exact .inr rfl))) (fun _ _ _ _ _ => (pts_one (PW.pt (pw_and (pt_cmpR op_eq (pe_ix (ix_tupK (K := K) rfl) (pe_ix (ix_listK (K := K) rfl) (pv 4) (pv 14) (fun _ _ => rfl)) pe_int (fun _ _ => rfl)) (pv 10) (nomark _)) (pw_and1 (pt_cmpR op_ne (pv 10) (pv 12) (nomark _))))))) (fun _ _ _ _ _ => (pv 14)))
      (pss_one (ps_expr (pe_bm PySem.F.plainAttrs_list PySem.F.slot_list_append PySem.F.type_list_append mt_append (pv 11) (pa_cons (pe_lc (own := [("_law_c", 14)]) rfl S.nd (pi_listK (K := K) rfl (pv 13)) (blkOk_by (N := nn_l_fabric2) (sc := (defScope s_l_fabric2)) (own := [("_law_c", 14)]) (by decide +kernel)) (fun _ _ _ _ _ => (pg_name (i := 14) S.nd rfl (by first | exact .inl rfl | exact .inr rfl))) (fun _ _ _ _ _ => (pts_one (pt_cmpR op_le (pe_call (ok_l_take T) (hr.mono (by decide)) (by rfl) T.g_l_take T.F_l_take.kp T.b_l_take .nil pass0 (pa_cons (pv 0) (pa_cons pe_int pa_nil))) (pv 9) (nomark _)))) (fun _ _ _ _ _ => (pv 14))) pa_nil))))))
      (pss_one (ps_expr (pe_bm PySem.F.plainAttrs_list PySem.F.slot_list_append PySem.F.type_list_append mt_append (pv 8) (pa_cons (pv 11) pa_nil)))))))
      (pss_one (ps_ret (pe_tup (pa_cons (pe_tup (pa_cons (pv 3) (pa_cons (pe_callTy (call_tupK (K := K) rfl) (by rfl) T.z_tuple (by decide +kernel) (pa_cons (pv 4) pa_nil)) pa_nil))) (pa_cons (pe_call (ok_l_thinned2 T) (hr.mono (by decide)) (by rfl) T.g_l_thinned2 T.F_l_thinned2.kp T.b_l_thinned2 .nil pass0 (pa_cons (pv 4) (pa_cons (pv 3) (pa_cons (pv 8) pa_nil)))) pa_nil))))))))))), ?_⟩
  rintro ⟨_, most, room, _⟩
  show SimB _ _ _ _ _ _ [.tp tape2, .sl (fz K (eI most)), .sl (fz K (eI room)), .un, .un, .un, .un, .un, .un, .un, .un, .un, .un, .un, .un] (l_fabric2 most room)
  unfold l_fabric2
  exact (sb_seq (sb_set (e := eI) (EvG.is (w' := (bnd (noX (l_take (4 : Int))) fun x1 => ret ((2 : Int) + x1))) (ev_opF ev_int (ev_callS eI (es_t (ev_t (S := tape2) rfl) (es_f ev_int es_nil)) (fun _ => rfl)) (fun _ _ => o_add _ _)) rfl) (ltb rfl) (fun n_2 => (la_in (sb_seq (sb_setN (S := fun r => ls K (List.map (e3 eI eI eI) r)) (EvG.is (w' := (ret ([] : List (Int × Int × Int)))) (ev_lstS (fun _ => ([] : List (Int × Int × Int))) (e3 eI eI eI) es_nil (fun _ => AllF.nil) (fun _ => rfl) (fun _ => rfl)) rfl) (ltb rfl) (fun channels_3 => (la_in (sb_seq (sb_for (S := ((List (Int × Int × Int)))) (e := eI) (Γh := fun s7 => [.tp tape2, .sl (fz K (eI most)), .sl (fz K (eI room)), .sl (fz K (eI n_2)), .sl (ls K (List.map (e3 eI eI eI) s7)), .un, .un, .un, .un, .un, .un, .un, .un, .un, .un]) channels_3 (ItG.is (w' := (bnd (bnd (noX (l_take ((most - n_2) + (1 : Int)))) fun x4 => ret (n_2 + x4)) fun x5 => grd (Rng x5) (ret (span 0 (x5).toNat)))) (it_range1 (ev_opF (ev_f (e := eI) n_2 rfl) (ev_callS eI (es_t (ev_t (S := tape2) rfl) (es_f (ev_opF (ev_opF (ev_f (e := eI) most rfl) (ev_f (e := eI) n_2 rfl) (fun _ _ => o_sub _ _)) ev_int (fun _ _ => o_add _ _)) es_nil)) (fun _ => rfl)) (fun _ _ => o_add _ _))) rfl) (fun _ h => nomatch h) (wk_mask [true, true, true, true, true, true, true, true, true, true, true, true, true, true, true] _) (fun x6 s7 => (tg_name (ltb rfl))) (fun x6 s7 kc8 => (sb_seq (sb_set (e := eI) (EvG.is (w' := (sel (decide (x6 < n_2)) (ret x6) (noX (l_take n_2)))) (ev_ifF (et_test (ev_opF (ev_f (e := eI) x6 rfl) (ev_f (e := eI) n_2 rfl) (fun _ _ => o_lt _ _))) (ev_f (e := eI) x6 rfl) (ev_callS eI (es_t (ev_t (S := tape2) rfl) (es_f (ev_f (e := eI) n_2 rfl) es_nil)) (fun _ => rfl))) rfl) (ltb rfl) (fun source_10 => (la_in (sb_seq (sb_set (e := eI) (EvG.is (w' := (bnd (bnd (noX (l_take (n_2 - (1 : Int)))) fun x11 => ret ((source_10 + (1 : Int)) + x11)) fun x12 => grd (n_2 ≠ 0) (ret (Int.fmod x12 n_2)))) (ev_opF (ev_opF (ev_opF (ev_f (e := eI) source_10 rfl) ev_int (fun _ _ => o_add _ _)) (ev_callS eI (es_t (ev_t (S := tape2) rfl) (es_f (ev_opF (ev_f (e := eI) n_2 rfl) ev_int (fun _ _ => o_sub _ _)) es_nil)) (fun _ => rfl)) (fun _ _ => o_add _ _)) (ev_f (e := eI) n_2 rfl) (fun _ _ => o_mod _ _)) rfl) (ltb rfl) (fun target_13 => (la_in (sb_appendK (e := (e3 eI eI eI)) (xs := s7) rfl (EvG.is (w' := (bnd (bnd (noX (l_take room)) fun x15 => ret ((1 : Int) + x15)) fun x16 => ret (source_10, target_13, x16))) (ev_tupS (fun x => (x.1, x.2.1, x.2.2.1)) (e3 eI eI eI) (es_f (ev_f (e := eI) source_10 rfl) (es_f (ev_f (e := eI) target_13 rfl) (es_f (ev_opF ev_int (ev_callS eI (es_t (ev_t (S := tape2) rfl) (es_f (ev_f (e := eI) room rfl) es_nil)) (fun _ => rfl)) (fun _ _ => o_add _ _)) es_nil))) (fun _ => (AllF.cons (AllF.cons (AllF.cons AllF.nil)))) (fun _ => rfl) (fun _ => rfl)) rfl) (fun s14 => (Lands.wk (la_at s14) (wk_mask [true, true, true, true, true, false, false, false, true, true, true, true, true, true, true] _))))))))))))) (fun s7 => (la_in (sb_seq (sb_setN (S := fun r => ls3 K (e3L eI r)) (EvG.is (w' := (ret ([] : (List (List (List Int)))))) (ev_new3 (e := eI)) rfl) (ltb rfl) (fun table_17 => (la_in (sb_seq (sb_set (e := eI) (EvG.is (w' := (bnd (noX (l_take (3 : Int))) fun x18 => ret ((1 : Int) + x18))) (ev_opF ev_int (ev_callS eI (es_t (ev_t (S := tape2) rfl) (es_f ev_int es_nil)) (fun _ => rfl)) (fun _ _ => o_add _ _)) rfl) (ltb rfl) (fun density_19 => (la_in (sb_seq (sb_for (S := ((List (List (List Int))))) (e := eI) (Γh := fun s21 => [.tp tape2, .sl (fz K (eI most)), .sl (fz K (eI room)), .sl (fz K (eI n_2)), .sl (ls K (List.map (e3 eI eI eI) s7)), .un, .un, .un, .sl (ls3 K (e3L eI s21)), .sl (fz K (eI density_19)), .un, .un, .un, .un, .un]) table_17 (ItG.is (w' := (grd (Rng n_2) (ret (span 0 (n_2).toNat)))) (it_range1 (ev_f (e := eI) n_2 rfl)) rfl) (fun _ h => nomatch h) (wk_mask [true, true, true, true, true, true, true, true, true, true, true, true, true, true, true] _) (fun x20 s21 => (tg_name (ltb rfl))) (fun x20 s21 kc22 => (sb_seq (sb_setN (S := fun r => ls2 K (e2L eI r)) (EvG.is (w' := (ret ([] : (List (List Int))))) (ev_new2 (e := eI)) rfl) (ltb rfl) (fun row_24 => (la_in (sb_seq (sb_for (S := ((List (List Int)))) (e := eI) (Γh := fun s26 => [.tp tape2, .sl (fz K (eI most)), .sl (fz K (eI room)), .sl (fz K (eI n_2)), .sl (ls K (List.map (e3 eI eI eI) s7)), .un, .un, .un, .sl (ls3 K (e3L eI s21)), .sl (fz K (eI density_19)), .sl (fz K (eI x20)), .sl (ls2 K (e2L eI s26)), .un, .un, .un]) row_24 (ItG.is (w' := (grd (Rng n_2) (ret (span 0 (n_2).toNat)))) (it_range1 (ev_f (e := eI) n_2 rfl)) rfl) (fun _ h => nomatch h) (wk_mask [true, true, true, true, true, true, true, true, true, true, true, true, true, true, true] _) (fun x25 s26 => (tg_name (ltb rfl))) (fun x25 s26 kc27 => (sb_seq (sb_setN (S := fun r => ls K (List.map eI r)) (ev_lc (e := eI) (c := fun c29 => (bnd (bnd (bnd (opt (atI s7 c29)) fun x30 => ret x30.1) fun x31 => ret (decide (x31 = x20))) fun x32 => sel x32 (ret (!decide (x20 = x25))) (ret false))) (f := fun c29 => (ret c29)) (ItG.is (w' := (grd (Rng (s7.length : Int)) (ret (span 0 ((s7.length : Int)).toNat)))) (it_range1 (ev_b1L (ev_l (e := (e3 eI eI eI)) s7 rfl) (fun _ => c_lenL _))) rfl) (fun c29 => (tg_name (ltb rfl))) (fun c29 => (EvT.is (w' := (bnd (bnd (bnd (opt (atI s7 c29)) fun x30 => ret x30.1) fun x31 => ret (decide (x31 = x20))) fun x32 => sel x32 (ret (!decide (x20 = x25))) (ret false))) (et_and (et_test (ev_opF (ev_ixW (e' := eI) (fun a => a.1) 0 (ev_opLF (ev_l (e := (e3 eI eI eI)) s7 rfl) (ev_f (e := eI) c29 rfl) (fun _ _ => o_ixL _ _)) rfl (fun _ => ⟨_, rfl, rfl⟩)) (ev_f (e := eI) x20 rfl) (fun _ _ => o_eqI _ _))) (et_test (ev_opF (ev_f (e := eI) x20 rfl) (ev_f (e := eI) x25 rfl) (fun _ _ => o_neI _ _)))) (by simp only [ret_bnd, bnd_bnd, mapW_bnd, mapW_ret] <;> rfl))) (fun c29 => (EvG.is (w' := (ret c29)) (ev_f (e := eI) c29 rfl) rfl))) (ltb rfl) (fun own_34 => (la_in (sb_appN (e := eI) (xss := s26) rfl (ev_lc (e := eI) (c := fun c36 => (bnd (noX (l_take (4 : Int))) fun x37 => ret (decide (x37 ≤ density_19)))) (f := fun c36 => (ret c36)) (ItG.is (w' := (ret own_34)) (it_var (e := eI) own_34 rfl) rfl) (fun c36 => (tg_name (ltb rfl))) (fun c36 => (EvT.is (w' := (bnd (noX (l_take (4 : Int))) fun x37 => ret (decide (x37 ≤ density_19)))) (et_test (ev_opF (ev_callS eI (es_t (ev_t (S := tape2) rfl) (es_f ev_int es_nil)) (fun _ => rfl)) (ev_f (e := eI) density_19 rfl) (fun _ _ => o_le _ _))) rfl)) (fun c36 => (EvG.is (w' := (ret c36)) (ev_f (e := eI) c36 rfl) rfl))) (fun s35 => (Lands.wk (la_at s35) (wk_mask [true, true, true, true, true, true, true, true, true, true, true, true, false, false, true] _))))))))) (fun s26 => (la_in (sb_app3 (e := eI) (xs := s21) (row := s26) rfl rfl (by decide) (fun s39 => (Lands.wk (la_at s39) (wk_mask [true, true, true, true, true, true, true, true, true, true, false, true, true, true, true] _))))))))))))) (fun s21 => (la_in (sb_retMv (i := 8) (j := 4) (xs := s7) (S := ls3 K (e3L eI s21)) (mk := fun y => (s7, y, s21, ())) (g := fun a r => (a, r)) (EvG.is (w' := (ret (n_2, s7))) (ev_tupS (fun x => (x.1, x.2.1)) (e2 eI (eT (e3 eI eI eI))) (es_f (ev_f (e := eI) n_2 rfl) (es_f (ev_b1L (ev_l (e := (e3 eI eI eI)) s7 rfl) (fun _ => c_tupL _)) es_nil)) (fun _ => (AllF.cons (AllF.cons AllF.nil))) (fun _ => rfl) (fun _ => rfl)) rfl) rfl (EvG.is (w' := (ret n_2)) (ev_f (e := eI) n_2 rfl) rfl) rfl rfl (by decide) (fun _ => rfl) (fun _ => rfl) (fun _ _ => rfl))))))))))))))))))))))))))
end
end Cf
namespace Cf
open PySem PySem.Spec PyProof.Rows L2 WL
section
variable {P : Program} {w : World} {K : PySem.W.Frag} {mg : Str → Option Value} {base : Heap}
set_option maxHeartbeats 4000000
theorem ok_p_first_of (T : Tx P K mg) : FnOk P w K mg base CX0 1 T.f_p_first_of T.d_p_first_of ["state", "c"] (spN K (fun x : (Int × (List (List (Int × Int)))) × Int × Unit => [.d ((e2 eI (eT (eT (e2 eI eI)))) x.1), .d (eI x.2.1)]) (fun x => p_first_of x.1 x.2.1) (fun r : (Option (Int × Int)) => .fz ((eO (e2 eI eI)) r))) := by
  have S := sc_p_first_of
  refine fn_n (N := nn_p_first_of) T.F_p_first_of S (fun _ => rfl) (fun cdv A outer s H E hr => ?_)
  refine ⟨_, (pss_one (ps_ret (pe_ifExp (pt_cmpR op_gt (pe_callB (call_lenK (K := K) rfl) (by rfl) T.z_len (by decide +kernel) (pa_cons (pe_ix (ix_tupK (K := K) rfl) (pe_ix (ix_tupK (K := K) rfl) (pv 0) pe_int (fun _ _ => rfl)) (pv 1) (fun _ _ => rfl)) pa_nil)) pe_int (nomark _)) (pe_ix (ix_tupK (K := K) rfl) (pe_ix (ix_tupK (K := K) rfl) (pe_ix (ix_tupK (K := K) rfl) (pv 0) pe_int (fun _ _ => rfl)) (pv 1) (fun _ _ => rfl)) pe_int (fun _ _ => rfl)) pe_non))), ?_⟩
  rintro ⟨state, c, _⟩
  show SimB _ _ _ _ _ _ [.sl (fz K ((e2 eI (eT (eT (e2 eI eI)))) state)), .sl (fz K (eI c))] (p_first_of state c)
  unfold p_first_of
  exact (sb_retF (EvG.is (w' := (bnd (bnd (bnd (opt (atI state.2 c)) fun x1 => ret (x1.length : Int)) fun x2 => ret (decide ((0 : Int) < x2))) fun b4 => sel b4 (bnd (bnd (opt (atI state.2 c)) fun x3 => opt (atI x3 (0 : Int))) fun y => ret (some y)) (ret (none : (Option (Int × Int)))))) (ev_ifF (et_test (ev_opF (ev_b1F (ev_opF (ev_ixW (e' := (eT (eT (e2 eI eI)))) (fun a => a.2) 1 (ev_f (e := (e2 eI (eT (eT (e2 eI eI))))) state rfl) rfl (fun _ => ⟨_, rfl, rfl⟩)) (ev_f (e := eI) c rfl) (fun _ _ => o_ixT _ _)) (fun _ => c_lenT _)) ev_int (fun _ _ => o_gt _ _))) (ev_some (ev_opF (ev_opF (ev_ixW (e' := (eT (eT (e2 eI eI)))) (fun a => a.2) 1 (ev_f (e := (e2 eI (eT (eT (e2 eI eI))))) state rfl) rfl (fun _ => ⟨_, rfl, rfl⟩)) (ev_f (e := eI) c rfl) (fun _ _ => o_ixT _ _)) ev_int (fun _ _ => o_ixT _ _))) (ev_nonO (e := (e2 eI eI)))) (by simp only [ret_bnd, bnd_bnd, mapW_bnd, mapW_ret] <;> rfl)) (fun _ => rfl))
end
end Cf
namespace Cf
open PySem PySem.Spec PyProof.Rows L2 WL
section
variable {P : Program} {w : World} {K : PySem.W.Frag} {mg : Str → Option Value} {base : Heap}
set_option maxHeartbeats 4000000
theorem ok_p_is_full (T : Tx P K mg) : FnOk P w K mg base CX0 1 T.f_p_is_full T.d_p_is_full ["fabric", "state", "c"] (spN K (fun x : ((Int × (List (Int × Int × Int))) × (List (List (List Int)))) × (Int × (List (List (Int × Int)))) × Int × Unit => [.d ((e2 (e2 eI (eT (e3 eI eI eI))) (eT (eT (eT eI)))) x.1), .d ((e2 eI (eT (eT (e2 eI eI)))) x.2.1), .d (eI x.2.2.1)]) (fun x => p_is_full x.1 x.2.1 x.2.2.1) (fun r : Bool => .fz (eB r))) := by
  have S := sc_p_is_full
  refine fn_n (N := nn_p_is_full) T.F_p_is_full S (fun _ => rfl) (fun cdv A outer s H E hr => ?_)
  refine ⟨_, (pss_one (ps_ret (pe_cmpR op_eq (pe_callB (call_lenK (K := K) rfl) (by rfl) T.z_len (by decide +kernel) (pa_cons (pe_ix (ix_tupK (K := K) rfl) (pe_ix (ix_tupK (K := K) rfl) (pv 1) pe_int (fun _ _ => rfl)) (pv 2) (fun _ _ => rfl)) pa_nil)) (pe_ix (ix_tupK (K := K) rfl) (pe_ix (ix_tupK (K := K) rfl) (pe_ix (ix_tupK (K := K) rfl) (pe_ix (ix_tupK (K := K) rfl) (pv 0) pe_int (fun _ _ => rfl)) pe_int (fun _ _ => rfl)) (pv 2) (fun _ _ => rfl)) pe_int (fun _ _ => rfl)) (nomark _)))), ?_⟩
  rintro ⟨fabric, state, c, _⟩
  show SimB _ _ _ _ _ _ [.sl (fz K ((e2 (e2 eI (eT (e3 eI eI eI))) (eT (eT (eT eI)))) fabric)), .sl (fz K ((e2 eI (eT (eT (e2 eI eI)))) state)), .sl (fz K (eI c))] (p_is_full fabric state c)
  unfold p_is_full
  exact (sb_retF (EvG.is (w' := (bnd (bnd (opt (atI state.2 c)) fun x1 => ret (x1.length : Int)) fun x3 => bnd (bnd (opt (atI fabric.1.2 c)) fun x2 => ret x2.2.2) fun x4 => ret (decide (x3 = x4)))) (ev_opF (ev_b1F (ev_opF (ev_ixW (e' := (eT (eT (e2 eI eI)))) (fun a => a.2) 1 (ev_f (e := (e2 eI (eT (eT (e2 eI eI))))) state rfl) rfl (fun _ => ⟨_, rfl, rfl⟩)) (ev_f (e := eI) c rfl) (fun _ _ => o_ixT _ _)) (fun _ => c_lenT _)) (ev_ixW (e' := eI) (fun a => a.2.2) 2 (ev_opF (ev_ixW (e' := (eT (e3 eI eI eI))) (fun a => a.2) 1 (ev_ixW (e' := (e2 eI (eT (e3 eI eI eI)))) (fun a => a.1) 0 (ev_f (e := (e2 (e2 eI (eT (e3 eI eI eI))) (eT (eT (eT eI))))) fabric rfl) rfl (fun _ => ⟨_, rfl, rfl⟩)) rfl (fun _ => ⟨_, rfl, rfl⟩)) (ev_f (e := eI) c rfl) (fun _ _ => o_ixT _ _)) rfl (fun _ => ⟨_, rfl, rfl⟩)) (fun _ _ => o_eqI _ _)) (by simp only [ret_bnd, bnd_bnd, mapW_bnd, mapW_ret] <;> rfl)) (fun _ => rfl))
end
end Cf
namespace Cf
open PySem PySem.Spec PyProof.Rows L2 WL
section
variable {P : Program} {w : World} {K : PySem.W.Frag} {mg : Str → Option Value} {base : Heap}
set_option maxHeartbeats 4000000
theorem ok_p_is_home (T : Tx P K mg) : FnOk P w K mg base CX0 1 T.f_p_is_home T.d_p_is_home ["fabric", "c", "d"] (spN K (fun x : ((Int × (List (Int × Int × Int))) × (List (List (List Int)))) × Int × Int × Unit => [.d ((e2 (e2 eI (eT (e3 eI eI eI))) (eT (eT (eT eI)))) x.1), .d (eI x.2.1), .d (eI x.2.2.1)]) (fun x => p_is_home x.1 x.2.1 x.2.2.1) (fun r : Bool => .fz (eB r))) := by
  have S := sc_p_is_home
  refine fn_n (N := nn_p_is_home) T.F_p_is_home S (fun _ => rfl) (fun cdv A outer s H E hr => ?_)
  refine ⟨_, (pss_one (ps_ret (pe_cmpR op_eq (pe_ix (ix_tupK (K := K) rfl) (pe_ix (ix_tupK (K := K) rfl) (pe_ix (ix_tupK (K := K) rfl) (pe_ix (ix_tupK (K := K) rfl) (pv 0) pe_int (fun _ _ => rfl)) pe_int (fun _ _ => rfl)) (pv 1) (fun _ _ => rfl)) pe_int (fun _ _ => rfl)) (pv 2) (nomark _)))), ?_⟩
  rintro ⟨fabric, c, d, _⟩
  show SimB _ _ _ _ _ _ [.sl (fz K ((e2 (e2 eI (eT (e3 eI eI eI))) (eT (eT (eT eI)))) fabric)), .sl (fz K (eI c)), .sl (fz K (eI d))] (p_is_home fabric c d)
  unfold p_is_home
  exact (sb_retF (EvG.is (w' := (bnd (bnd (opt (atI fabric.1.2 c)) fun x1 => ret x1.2.1) fun x2 => ret (decide (x2 = d)))) (ev_opF (ev_ixW (e' := eI) (fun a => a.2.1) 1 (ev_opF (ev_ixW (e' := (eT (e3 eI eI eI))) (fun a => a.2) 1 (ev_ixW (e' := (e2 eI (eT (e3 eI eI eI)))) (fun a => a.1) 0 (ev_f (e := (e2 (e2 eI (eT (e3 eI eI eI))) (eT (eT (eT eI))))) fabric rfl) rfl (fun _ => ⟨_, rfl, rfl⟩)) rfl (fun _ => ⟨_, rfl, rfl⟩)) (ev_f (e := eI) c rfl) (fun _ _ => o_ixT _ _)) rfl (fun _ => ⟨_, rfl, rfl⟩)) (ev_f (e := eI) d rfl) (fun _ _ => o_eqI _ _)) rfl) (fun _ => rfl))
end
end Cf
namespace Cf
open PySem PySem.Spec PyProof.Rows L2 WL
section
variable {P : Program} {w : World} {K : PySem.W.Frag} {mg : Str → Option Value} {base : Heap}
set_option maxHeartbeats 4000000
theorem ok_p_options (T : Tx P K mg) : FnOk P w K mg base CX0 1 T.f_p_options T.d_p_options ["fabric", "c", "d"] (spN K (fun x : ((Int × (List (Int × Int × Int))) × (List (List (List Int)))) × Int × Int × Unit => [.d ((e2 (e2 eI (eT (e3 eI eI eI))) (eT (eT (eT eI)))) x.1), .d (eI x.2.1), .d (eI x.2.2.1)]) (fun x => p_options x.1 x.2.1 x.2.2.1) (fun r : (List Int) => .fz ((eT eI) r))) := by
  have S := sc_p_options
  refine fn_n (N := nn_p_options) T.F_p_options S (fun _ => rfl) (fun cdv A outer s H E hr => ?_)
  refine ⟨_, (pss_cons (ps_asg (pv 0) (pg_tupK (n := 2) (K := K) rfl rfl (pgs_cons (pg_name (i := 3) S.nd rfl (by first | exact .inl rfl | exact .inr rfl)) (pgs_cons (pg_name (i := 4) S.nd rfl (by first | exact .inl rfl | exact .inr rfl)) pgs_nil))))
      (pss_one (ps_ret (pe_ix (ix_tupK (K := K) rfl) (pe_ix (ix_tupK (K := K) rfl) (pv 4) (pe_ix (ix_tupK (K := K) rfl) (pe_ix (ix_tupK (K := K) rfl) (pe_ix (ix_tupK (K := K) rfl) (pv 3) pe_int (fun _ _ => rfl)) (pv 1) (fun _ _ => rfl)) pe_int (fun _ _ => rfl)) (fun _ _ => rfl)) (pv 2) (fun _ _ => rfl))))), ?_⟩
  rintro ⟨fabric, c, d, _⟩
  show SimB _ _ _ _ _ _ [.sl (fz K ((e2 (e2 eI (eT (e3 eI eI eI))) (eT (eT (eT eI)))) fabric)), .sl (fz K (eI c)), .sl (fz K (eI d)), .un, .un] (p_options fabric c d)
  unfold p_options
  exact (sb_seq (sb_asg (e := (e2 (e2 eI (eT (e3 eI eI eI))) (eT (eT (eT eI))))) (EvG.is (w' := (ret fabric)) (ev_f (e := (e2 (e2 eI (eT (e3 eI eI eI))) (eT (eT (eT eI))))) fabric rfl) rfl) (fun u1 => (tg_tup (ds := [(e2 eI (eT (e3 eI eI eI))) (u1.1), (eT (eT (eT eI))) (u1.2)]) (ts_cons (tg_name (ltb rfl)) (ts_cons (tg_name (ltb rfl)) ts_nil)) rfl rfl)) (fun u1 => (la_in (sb_retF (EvG.is (w' := (bnd (bnd (bnd (opt (atI (u1.1).2 c)) fun x2 => ret x2.2.1) fun x3 => opt (atI (u1.2) x3)) fun x4 => opt (atI x4 d))) (ev_opF (ev_opF (ev_f (e := (eT (eT (eT eI)))) (u1.2) rfl) (ev_ixW (e' := eI) (fun a => a.2.1) 1 (ev_opF (ev_ixW (e' := (eT (e3 eI eI eI))) (fun a => a.2) 1 (ev_f (e := (e2 eI (eT (e3 eI eI eI)))) (u1.1) rfl) rfl (fun _ => ⟨_, rfl, rfl⟩)) (ev_f (e := eI) c rfl) (fun _ _ => o_ixT _ _)) rfl (fun _ => ⟨_, rfl, rfl⟩)) (fun _ _ => o_ixT _ _)) (ev_f (e := eI) d rfl) (fun _ _ => o_ixT _ _)) (by simp only [ret_bnd, bnd_bnd, mapW_bnd, mapW_ret] <;> rfl)) (fun _ => rfl))))))
end
end Cf
namespace Cf
open PySem PySem.Spec PyProof.Rows L2 WL
section
variable {P : Program} {w : World} {K : PySem.W.Frag} {mg : Str → Option Value} {base : Heap}
set_option maxHeartbeats 4000000
theorem ok_p_next_options (T : Tx P K mg) : FnOk P w K mg base CX0 2 T.f_p_next_options T.d_p_next_options ["fabric", "state", "c"] (spN K (fun x : ((Int × (List (Int × Int × Int))) × (List (List (List Int)))) × (Int × (List (List (Int × Int)))) × Int × Unit => [.d ((e2 (e2 eI (eT (e3 eI eI eI))) (eT (eT (eT eI)))) x.1), .d ((e2 eI (eT (eT (e2 eI eI)))) x.2.1), .d (eI x.2.2.1)]) (fun x => p_next_options x.1 x.2.1 x.2.2.1) (fun r : (List Int) => .fz ((eT eI) r))) := by
  have S := sc_p_next_options
  refine fn_n (N := nn_p_next_options) T.F_p_next_options S (fun _ => rfl) (fun cdv A outer s H E hr => ?_)
  refine ⟨_, (pss_cons (ps_set (i := 3) S.nd rfl (by first | exact .inl rfl | exact .inr rfl) (pe_call (ok_p_first_of T) (hr.mono (by decide)) (by rfl) T.g_p_first_of T.F_p_first_of.kp T.b_p_first_of .nil pass0 (pa_cons (pv 1) (pa_cons (pv 2) pa_nil))))
      (pss_one (ps_ret (pe_ifExp (pt_cmpR op_isN (pv 3) pe_non (nomark _)) (pe_tup pa_nil) (pe_call (ok_p_options T) (hr.mono (by decide)) (by rfl) T.g_p_options T.F_p_options.kp T.b_p_options .nil pass0 (pa_cons (pv 0) (pa_cons (pv 2) (pa_cons (pe_ix (ix_tupK (K := K) rfl) (pv 3) pe_int (fun _ _ => rfl)) pa_nil)))))))), ?_⟩
  rintro ⟨fabric, state, c, _⟩
  show SimB _ _ _ _ _ _ [.sl (fz K ((e2 (e2 eI (eT (e3 eI eI eI))) (eT (eT (eT eI)))) fabric)), .sl (fz K ((e2 eI (eT (eT (e2 eI eI)))) state)), .sl (fz K (eI c)), .un] (p_next_options fabric state c)
  unfold p_next_options
  exact (sb_seq (sb_set (e := (eO (e2 eI eI))) (EvG.is (w' := (noX (p_first_of state c))) (ev_callS (eO (e2 eI eI)) (es_f (ev_f (e := (e2 eI (eT (eT (e2 eI eI))))) state rfl) (es_f (ev_f (e := eI) c rfl) es_nil)) (fun _ => rfl)) rfl) (ltb rfl) (fun packet_1 => (la_in (sb_retF (EvG.is (w' := (sel (Option.isNone packet_1) (ret ([] : (List Int))) (bnd (bnd (opt packet_1) fun x2 => ret x2.2) fun x3 => noX (p_options fabric c x3)))) (ev_ifF (et_test (ev_opF (ev_f (e := (eO (e2 eI eI))) packet_1 rfl) ev_non (fun _ _ => o_isNO (fun _ => rfl) _ _))) (ev_tupS (fun x => []) (eT eI) es_nil (fun _ => AllF.nil) (fun _ => rfl) (fun _ => rfl)) (ev_callS (eT eI) (es_f (ev_f (e := (e2 (e2 eI (eT (e3 eI eI eI))) (eT (eT (eT eI))))) fabric rfl) (es_f (ev_f (e := eI) c rfl) (es_f (ev_ixW (e' := eI) (fun a => a.2) 1 (ev_unO (ev_f (e := (eO (e2 eI eI))) packet_1 rfl)) rfl (fun _ => ⟨_, rfl, rfl⟩)) es_nil))) (fun _ => rfl))) rfl) (fun _ => rfl))))))
end
end Cf
namespace Cf
open PySem PySem.Spec PyProof.Rows L2 WL
section
variable {P : Program} {w : World} {K : PySem.W.Frag} {mg : Str → Option Value} {base : Heap}
set_option maxHeartbeats 4000000
theorem ok_p_is_possible (T : Tx P K mg) : FnOk P w K mg base CX0 3 T.f_p_is_possible T.d_p_is_possible ["fabric", "state", "step"] (spN K (fun x : ((Int × (List (Int × Int × Int))) × (List (List (List Int)))) × (Int × (List (List (Int × Int)))) × PyData × Unit => [.d ((e2 (e2 eI (eT (e3 eI eI eI))) (eT (eT (eT eI)))) x.1), .d ((e2 eI (eT (eT (e2 eI eI)))) x.2.1), .d (eD x.2.2.1)]) (fun x => p_is_possible x.1 x.2.1 x.2.2.1) (fun r : Bool => .fz (eB r))) := by
  have S := sc_p_is_possible
  refine fn_n (N := nn_p_is_possible) T.F_p_is_possible S (fun _ => rfl) (fun cdv A outer s H E hr => ?_)
  refine ⟨_, (pss_cons (ps_set (i := 3) S.nd rfl (by first | exact .inl rfl | exact .inr rfl) (pe_ix (ix_tupK (K := K) rfl) (pe_ix (ix_tupK (K := K) rfl) (pv 0) pe_int (fun _ _ => rfl)) pe_int (fun _ _ => rfl)))
      (pss_cons (ps_set (i := 4) S.nd rfl (by first | exact .inl rfl | exact .inr rfl) (pe_callB (call_lenK (K := K) rfl) (by rfl) T.z_len (by decide +kernel) (pa_cons (pe_ix (ix_tupK (K := K) rfl) (pv 1) pe_int (fun _ _ => rfl)) pa_nil)))
      (pss_cons (ps_if (pt_cmpR (op_eqDK (K := K) rfl hr.units) (pe_ix (ix_tupK (K := K) rfl) (pv 2) pe_int (fun _ _ => rfl)) pe_str (nomark _)) (pss_cons (ps_asg (pv 2) (pg_tupK (n := 4) (K := K) rfl rfl (pgs_cons (pg_name (i := 5) S.nd rfl (by first | exact .inl rfl | exact .inr rfl)) (pgs_cons (pg_name (i := 6) S.nd rfl (by first | exact .inl rfl | exact .inr rfl)) (pgs_cons (pg_name (i := 7) S.nd rfl (by first | exact .inl rfl | exact .inr rfl)) (pgs_cons (pg_name (i := 8) S.nd rfl (by first | exact .inl rfl | exact .inr rfl)) pgs_nil))))))
      (pss_one (ps_ret (pe_and (pe_cmpR op_lt (pv 6) (pv 3) (nomark _)) (pe_and (pe_cmpR op_lt (pv 7) (pv 3) (nomark _)) (pe_and (pe_cmpR op_lt (pv 8) (pv 4) (nomark _)) (pe_and (pe_cmpR (op_inK (K := K) rfl) (pv 8) (pe_ix (ix_tupK (K := K) rfl) (pe_ix (ix_tupK (K := K) rfl) (pe_ix (ix_tupK (K := K) rfl) (pv 0) pe_int (fun _ _ => rfl)) (pv 6) (fun _ _ => rfl)) (pv 7) (fun _ _ => rfl)) (by rfl)) (pe_one (pe_not (pe_call (ok_p_is_full T) (hr.mono (by decide)) (by rfl) T.g_p_is_full T.F_p_is_full.kp T.b_p_is_full .nil pass0 (pa_cons (pv 0) (pa_cons (pv 1) (pa_cons (pv 8) pa_nil))))))))))))) pss_nil)
      (pss_cons (ps_if (pt_cmpR op_ge (pe_ix (ix_tupK (K := K) rfl) (pv 2) pe_int (fun _ _ => rfl)) (pv 4) (nomark _)) (pss_one (ps_ret pe_bl)) pss_nil)
      (pss_cons (ps_if (pt_cmpR (op_eqDK (K := K) rfl hr.units) (pe_ix (ix_tupK (K := K) rfl) (pv 2) pe_int (fun _ _ => rfl)) pe_str (nomark _)) (pss_cons (ps_set (i := 9) S.nd rfl (by first | exact .inl rfl | exact .inr rfl) (pe_call (ok_p_first_of T) (hr.mono (by decide)) (by rfl) T.g_p_first_of T.F_p_first_of.kp T.b_p_first_of .nil pass0 (pa_cons (pv 1) (pa_cons (pe_ix (ix_tupK (K := K) rfl) (pv 2) pe_int (fun _ _ => rfl)) pa_nil))))
      (pss_one (ps_ret (pe_and (pe_cmpR op_notN (pv 9) pe_non (nomark _)) (pe_one (pe_call (ok_p_is_home T) (hr.mono (by decide)) (by rfl) T.g_p_is_home T.F_p_is_home.kp T.b_p_is_home .nil pass0 (pa_cons (pv 0) (pa_cons (pe_ix (ix_tupK (K := K) rfl) (pv 2) pe_int (fun _ _ => rfl)) (pa_cons (pe_ix (ix_tupK (K := K) rfl) (pv 9) pe_int (fun _ _ => rfl)) pa_nil))))))))) pss_nil)
      (pss_one (ps_ret (pe_and (pe_cmpR (op_inTDK (K := K) rfl (units65 hr)) (pe_ix (ix_tupK (K := K) rfl) (pv 2) pe_int (fun _ _ => rfl)) (pe_call (ok_p_next_options T) (hr.mono (by decide)) (by rfl) T.g_p_next_options T.F_p_next_options.kp T.b_p_next_options .nil pass0 (pa_cons (pv 0) (pa_cons (pv 1) (pa_cons (pe_ix (ix_tupK (K := K) rfl) (pv 2) pe_int (fun _ _ => rfl)) pa_nil)))) (by rfl)) (pe_one (pe_not (pe_call (ok_p_is_full T) (hr.mono (by decide)) (by rfl) T.g_p_is_full T.F_p_is_full.kp T.b_p_is_full .nil pass0 (pa_cons (pv 0) (pa_cons (pv 1) (pa_cons (pe_ix (ix_tupK (K := K) rfl) (pv 2) pe_int (fun _ _ => rfl)) pa_nil)))))))))))))), ?_⟩
  rintro ⟨fabric, state, step, _⟩
  show SimB _ _ _ _ _ _ [.sl (fz K ((e2 (e2 eI (eT (e3 eI eI eI))) (eT (eT (eT eI)))) fabric)), .sl (fz K ((e2 eI (eT (eT (e2 eI eI)))) state)), .sl (fz K (eD step)), .un, .un, .un, .un, .un, .un, .un] (p_is_possible fabric state step)
  unfold p_is_possible
  exact (sb_seq (sb_set (e := eI) (EvG.is (w' := (ret fabric.1.1)) (ev_ixW (e' := eI) (fun a => a.1) 0 (ev_ixW (e' := (e2 eI (eT (e3 eI eI eI)))) (fun a => a.1) 0 (ev_f (e := (e2 (e2 eI (eT (e3 eI eI eI))) (eT (eT (eT eI))))) fabric rfl) rfl (fun _ => ⟨_, rfl, rfl⟩)) rfl (fun _ => ⟨_, rfl, rfl⟩)) rfl) (ltb rfl) (fun nodes_1 => (la_in (sb_seq (sb_set (e := eI) (EvG.is (w' := (ret (state.2.length : Int))) (ev_b1F (ev_ixW (e' := (eT (eT (e2 eI eI)))) (fun a => a.2) 1 (ev_f (e := (e2 eI (eT (eT (e2 eI eI))))) state rfl) rfl (fun _ => ⟨_, rfl, rfl⟩)) (fun _ => c_lenT _)) rfl) (ltb rfl) (fun count_2 => (la_in (sb_seq (sb_if (EvT.is (w' := (bnd (bnd (opt (asT step)) fun x3 => opt (atI x3 (0 : Int))) fun x4 => eqW (eD x4) (eS ("put" : Str)))) (et_test (ev_opF (ev_opF (ev_as (f := asT) (e := (eT eD)) (ev_f (e := eD) step rfl) as_T) ev_int (fun _ _ => o_ixT _ _)) ev_str (fun _ _ => o_eqDW _ _))) rfl) (sb_seq (sb_asg (e := (e4 eS eI eI eI)) (EvG.is (w' := (opt ((asQ4 asS asI asI asI) step))) (ev_as (f := (asQ4 asS asI asI asI)) (e := (e4 eS eI eI eI)) (ev_f (e := eD) step rfl) (as_Q4 as_S as_I as_I as_I)) rfl) (fun u6 => (tg_tup (ds := [eS (u6.1), eI (u6.2.1), eI (u6.2.2.1), eI (u6.2.2.2)]) (ts_cons (tg_name (ltb rfl)) (ts_cons (tg_name (ltb rfl)) (ts_cons (tg_name (ltb rfl)) (ts_cons (tg_name (ltb rfl)) ts_nil)))) rfl rfl)) (fun u6 => (la_in (sb_retF (EvG.is (w' := (sel (decide ((u6.2.1) < nodes_1)) (sel (decide ((u6.2.2.1) < nodes_1)) (sel (decide ((u6.2.2.2) < count_2)) (bnd (bnd (bnd (opt (atI fabric.2 (u6.2.1))) fun x7 => opt (atI x7 (u6.2.2.1))) fun x8 => ret (decide ((u6.2.2.2) ∈ x8))) fun x10 => sel x10 (bnd (noX (p_is_full fabric state (u6.2.2.2))) fun x9 => ret (!x9)) (ret false)) (ret false)) (ret false)) (ret false))) (ev_andV (ev_opF (ev_f (e := eI) (u6.2.1) rfl) (ev_f (e := eI) nodes_1 rfl) (fun _ _ => o_lt _ _)) (ev_andV (ev_opF (ev_f (e := eI) (u6.2.2.1) rfl) (ev_f (e := eI) nodes_1 rfl) (fun _ _ => o_lt _ _)) (ev_andV (ev_opF (ev_f (e := eI) (u6.2.2.2) rfl) (ev_f (e := eI) count_2 rfl) (fun _ _ => o_lt _ _)) (ev_andV (ev_opF (ev_f (e := eI) (u6.2.2.2) rfl) (ev_opF (ev_opF (ev_ixW (e' := (eT (eT (eT eI)))) (fun a => a.2) 1 (ev_f (e := (e2 (e2 eI (eT (e3 eI eI eI))) (eT (eT (eT eI))))) fabric rfl) rfl (fun _ => ⟨_, rfl, rfl⟩)) (ev_f (e := eI) (u6.2.1) rfl) (fun _ _ => o_ixT _ _)) (ev_f (e := eI) (u6.2.2.1) rfl) (fun _ _ => o_ixT _ _)) (fun _ _ => o_inT _ _)) (ev_notV (ev_callS eB (es_f (ev_f (e := (e2 (e2 eI (eT (e3 eI eI eI))) (eT (eT (eT eI))))) fabric rfl) (es_f (ev_f (e := (e2 eI (eT (eT (e2 eI eI))))) state rfl) (es_f (ev_f (e := eI) (u6.2.2.2) rfl) es_nil))) (fun _ => rfl))))))) (by simp only [ret_bnd, bnd_bnd, mapW_bnd, mapW_ret] <;> rfl)) (fun _ => rfl)))))) (sb_next (la_in (sb_seq (sb_if (EvT.is (w' := (bnd (bnd (bnd (opt (asT step)) fun x11 => opt (atI x11 (1 : Int))) fun x12 => opt (asI x12)) fun x13 => ret (decide (count_2 ≤ x13)))) (et_test (ev_opF (ev_as (f := asI) (e := eI) (ev_opF (ev_as (f := asT) (e := (eT eD)) (ev_f (e := eD) step rfl) as_T) ev_int (fun _ _ => o_ixT _ _)) as_I) (ev_f (e := eI) count_2 rfl) (fun _ _ => o_ge _ _))) (by simp only [ret_bnd, bnd_bnd, mapW_bnd, mapW_ret] <;> rfl)) (sb_retF (EvG.is (w' := (ret false)) ev_bl rfl) (fun _ => rfl)) (sb_next (la_in (sb_seq (sb_if (EvT.is (w' := (bnd (bnd (opt (asT step)) fun x15 => opt (atI x15 (0 : Int))) fun x16 => eqW (eD x16) (eS ("out" : Str)))) (et_test (ev_opF (ev_opF (ev_as (f := asT) (e := (eT eD)) (ev_f (e := eD) step rfl) as_T) ev_int (fun _ _ => o_ixT _ _)) ev_str (fun _ _ => o_eqDW _ _))) rfl) (sb_seq (sb_set (e := (eO (e2 eI eI))) (EvG.is (w' := (bnd (bnd (bnd (opt (asT step)) fun x18 => opt (atI x18 (1 : Int))) fun x19 => opt (asI x19)) fun x20 => noX (p_first_of state x20))) (ev_callS (eO (e2 eI eI)) (es_f (ev_f (e := (e2 eI (eT (eT (e2 eI eI))))) state rfl) (es_f (ev_as (f := asI) (e := eI) (ev_opF (ev_as (f := asT) (e := (eT eD)) (ev_f (e := eD) step rfl) as_T) ev_int (fun _ _ => o_ixT _ _)) as_I) es_nil)) (fun _ => rfl)) (by simp only [ret_bnd, bnd_bnd, mapW_bnd, mapW_ret] <;> rfl)) (ltb rfl) (fun packet_21 => (la_in (sb_retF (EvG.is (w' := (sel (Option.isSome packet_21) (bnd (bnd (bnd (opt (asT step)) fun x22 => opt (atI x22 (1 : Int))) fun x23 => opt (asI x23)) fun x25 => bnd (bnd (opt packet_21) fun x24 => ret x24.2) fun x26 => noX (p_is_home fabric x25 x26)) (ret false))) (ev_andV (ev_opF (ev_f (e := (eO (e2 eI eI))) packet_21 rfl) ev_non (fun _ _ => o_notNO (fun _ => rfl) _ _)) (ev_callS eB (es_f (ev_f (e := (e2 (e2 eI (eT (e3 eI eI eI))) (eT (eT (eT eI))))) fabric rfl) (es_f (ev_as (f := asI) (e := eI) (ev_opF (ev_as (f := asT) (e := (eT eD)) (ev_f (e := eD) step rfl) as_T) ev_int (fun _ _ => o_ixT _ _)) as_I) (es_f (ev_ixW (e' := eI) (fun a => a.2) 1 (ev_unO (ev_f (e := (eO (e2 eI eI))) packet_21 rfl)) rfl (fun _ => ⟨_, rfl, rfl⟩)) es_nil))) (fun _ => rfl))) (by simp only [ret_bnd, bnd_bnd, mapW_bnd, mapW_ret] <;> rfl)) (fun _ => rfl)))))) (sb_next (la_in (sb_retF (EvG.is (w' := (bnd (bnd (bnd (opt (asT step)) fun x27 => opt (atI x27 (2 : Int))) fun x31 => bnd (bnd (bnd (bnd (opt (asT step)) fun x28 => opt (atI x28 (1 : Int))) fun x29 => opt (asI x29)) fun x30 => noX (p_next_options fabric state x30)) fun x32 => inD (eD x31) (List.map eI x32)) fun x37 => sel x37 (bnd (bnd (bnd (bnd (opt (asT step)) fun x33 => opt (atI x33 (2 : Int))) fun x34 => opt (asI x34)) fun x35 => noX (p_is_full fabric state x35)) fun x36 => ret (!x36)) (ret false))) (ev_andV (ev_opF (ev_opF (ev_as (f := asT) (e := (eT eD)) (ev_f (e := eD) step rfl) as_T) ev_int (fun _ _ => o_ixT _ _)) (ev_callS (eT eI) (es_f (ev_f (e := (e2 (e2 eI (eT (e3 eI eI eI))) (eT (eT (eT eI))))) fabric rfl) (es_f (ev_f (e := (e2 eI (eT (eT (e2 eI eI))))) state rfl) (es_f (ev_as (f := asI) (e := eI) (ev_opF (ev_as (f := asT) (e := (eT eD)) (ev_f (e := eD) step rfl) as_T) ev_int (fun _ _ => o_ixT _ _)) as_I) es_nil))) (fun _ => rfl)) (fun _ _ => o_inTD _ _)) (ev_notV (ev_callS eB (es_f (ev_f (e := (e2 (e2 eI (eT (e3 eI eI eI))) (eT (eT (eT eI))))) fabric rfl) (es_f (ev_f (e := (e2 eI (eT (eT (e2 eI eI))))) state rfl) (es_f (ev_as (f := asI) (e := eI) (ev_opF (ev_as (f := asT) (e := (eT eD)) (ev_f (e := eD) step rfl) as_T) ev_int (fun _ _ => o_ixT _ _)) as_I) es_nil))) (fun _ => rfl)))) (by simp only [ret_bnd, bnd_bnd, mapW_bnd, mapW_ret] <;> rfl)) (fun _ => rfl))))))))))))))))))))))
end
end Cf
namespace Cf
open PySem PySem.Spec PyProof.Rows L2 WL
section
variable {P : Program} {w : World} {K : PySem.W.Frag} {mg : Str → Option Value} {base : Heap}
set_option maxHeartbeats 4000000
theorem ok_p_changed (T : Tx P K mg) : FnOk P w K mg base CX0 1 T.f_p_changed T.d_p_changed ["queues", "c", "queue"] (spN K (fun x : (List (List (Int × Int))) × Int × (List (Int × Int)) × Unit => [.d ((eT (eT (e2 eI eI))) x.1), .d (eI x.2.1), .d ((eT (e2 eI eI)) x.2.2.1)]) (fun x => p_changed x.1 x.2.1 x.2.2.1) (fun r : (List (List (Int × Int))) => .fz ((eT (eT (e2 eI eI))) r))) := by
  have S := sc_p_changed
  refine fn_n (N := nn_p_changed) T.F_p_changed S (fun _ => rfl) (fun cdv A outer s H E hr => ?_)
  refine ⟨_, (pss_one (ps_ret (pe_op (op_catK (K := K) rfl) (pe_op (op_catK (K := K) rfl) (pe_slice (sl_tupK (K := K) rfl) (pv 0) po_none (po_some (pv 1))) (pe_tup (pa_cons (pv 2) pa_nil))) (pe_slice (sl_tupK (K := K) rfl) (pv 0) (po_some (pe_op op_add (pv 1) pe_int)) po_none)))), ?_⟩
  rintro ⟨queues, c, queue, _⟩
  show SimB _ _ _ _ _ _ [.sl (fz K ((eT (eT (e2 eI eI))) queues)), .sl (fz K (eI c)), .sl (fz K ((eT (e2 eI eI)) queue))] (p_changed queues c queue)
  unfold p_changed
  exact (sb_retF (EvG.is (w' := (bnd (grd ((cutA queues none (some c)).length + [queue].length ≤ 16777216) (ret ((cutA queues none (some c)) ++ [queue]))) fun x1 => grd (x1.length + (cutA queues (some (c + (1 : Int))) none).length ≤ 16777216) (ret (x1 ++ (cutA queues (some (c + (1 : Int))) none))))) (ev_opF (ev_opF (ev_slT (ev_f (e := (eT (eT (e2 eI eI)))) queues rfl) eo_none (eo_some (ev_f (e := eI) c rfl))) (ev_tupS (fun x => [x.1]) (eT (eT (e2 eI eI))) (es_f (ev_f (e := (eT (e2 eI eI))) queue rfl) es_nil) (fun _ => (AllF.cons AllF.nil)) (fun _ => rfl) (fun _ => rfl)) (fun _ _ => o_catT _ _)) (ev_slT (ev_f (e := (eT (eT (e2 eI eI)))) queues rfl) (eo_some (ev_opF (ev_f (e := eI) c rfl) ev_int (fun _ _ => o_add _ _))) eo_none) (fun _ _ => o_catT _ _)) rfl) (fun _ => rfl))
end
end Cf
namespace Cf
open PySem PySem.Spec PyProof.Rows L2 WL
section
variable {P : Program} {w : World} {K : PySem.W.Frag} {mg : Str → Option Value} {base : Heap}
set_option maxHeartbeats 4000000
theorem ok_p_moved (T : Tx P K mg) : FnOk P w K mg base CX0 2 T.f_p_moved T.d_p_moved ["state", "step"] (spN K (fun x : (Int × (List (List (Int × Int)))) × PyData × Unit => [.d ((e2 eI (eT (eT (e2 eI eI)))) x.1), .d (eD x.2.1)]) (fun x => p_moved x.1 x.2.1) (fun r : (Int × (List (List (Int × Int)))) => .fz ((e2 eI (eT (eT (e2 eI eI)))) r))) := by
  have S := sc_p_moved
  refine fn_n (N := nn_p_moved) T.F_p_moved S (fun _ => rfl) (fun cdv A outer s H E hr => ?_)
  refine ⟨_, (pss_cons (ps_asg (pv 0) (pg_tupK (n := 2) (K := K) rfl rfl (pgs_cons (pg_name (i := 2) S.nd rfl (by first | exact .inl rfl | exact .inr rfl)) (pgs_cons (pg_name (i := 3) S.nd rfl (by first | exact .inl rfl | exact .inr rfl)) pgs_nil))))
      (pss_cons (ps_if (pt_cmpR (op_eqDK (K := K) rfl hr.units) (pe_ix (ix_tupK (K := K) rfl) (pv 1) pe_int (fun _ _ => rfl)) pe_str (nomark _)) (pss_cons (ps_asg (pv 1) (pg_tupK (n := 4) (K := K) rfl rfl (pgs_cons (pg_name (i := 4) S.nd rfl (by first | exact .inl rfl | exact .inr rfl)) (pgs_cons (pg_name (i := 5) S.nd rfl (by first | exact .inl rfl | exact .inr rfl)) (pgs_cons (pg_name (i := 6) S.nd rfl (by first | exact .inl rfl | exact .inr rfl)) (pgs_cons (pg_name (i := 7) S.nd rfl (by first | exact .inl rfl | exact .inr rfl)) pgs_nil))))))
      (pss_one (ps_ret (pe_tup (pa_cons (pe_op op_add (pv 2) pe_int) (pa_cons (pe_call (ok_p_changed T) (hr.mono (by decide)) (by rfl) T.g_p_changed T.F_p_changed.kp T.b_p_changed .nil pass0 (pa_cons (pv 3) (pa_cons (pv 7) (pa_cons (pe_op (op_catK (K := K) rfl) (pe_ix (ix_tupK (K := K) rfl) (pv 3) (pv 7) (fun _ _ => rfl)) (pe_tup (pa_cons (pe_tup (pa_cons (pv 2) (pa_cons (pv 6) pa_nil))) pa_nil))) pa_nil)))) pa_nil)))))) pss_nil)
      (pss_cons (ps_set (i := 8) S.nd rfl (by first | exact .inl rfl | exact .inr rfl) (pe_ix (ix_tupK (K := K) rfl) (pe_ix (ix_tupK (K := K) rfl) (pv 3) (pe_ix (ix_tupK (K := K) rfl) (pv 1) pe_int (fun _ _ => rfl)) (fun _ _ => rfl)) pe_int (fun _ _ => rfl)))
      (pss_cons (ps_set (i := 3) S.nd rfl (by first | exact .inl rfl | exact .inr rfl) (pe_call (ok_p_changed T) (hr.mono (by decide)) (by rfl) T.g_p_changed T.F_p_changed.kp T.b_p_changed .nil pass0 (pa_cons (pv 3) (pa_cons (pe_ix (ix_tupK (K := K) rfl) (pv 1) pe_int (fun _ _ => rfl)) (pa_cons (pe_slice (sl_tupK (K := K) rfl) (pe_ix (ix_tupK (K := K) rfl) (pv 3) (pe_ix (ix_tupK (K := K) rfl) (pv 1) pe_int (fun _ _ => rfl)) (fun _ _ => rfl)) (po_some pe_int) po_none) pa_nil)))))
      (pss_cons (ps_if (pt_cmpR (op_eqDK (K := K) rfl hr.units) (pe_ix (ix_tupK (K := K) rfl) (pv 1) pe_int (fun _ _ => rfl)) pe_str (nomark _)) (pss_one (ps_set (i := 3) S.nd rfl (by first | exact .inl rfl | exact .inr rfl) (pe_call (ok_p_changed T) (hr.mono (by decide)) (by rfl) T.g_p_changed T.F_p_changed.kp T.b_p_changed .nil pass0 (pa_cons (pv 3) (pa_cons (pe_ix (ix_tupK (K := K) rfl) (pv 1) pe_int (fun _ _ => rfl)) (pa_cons (pe_op (op_catK (K := K) rfl) (pe_ix (ix_tupK (K := K) rfl) (pv 3) (pe_ix (ix_tupK (K := K) rfl) (pv 1) pe_int (fun _ _ => rfl)) (fun _ _ => rfl)) (pe_tup (pa_cons (pv 8) pa_nil))) pa_nil)))))) pss_nil)
      (pss_one (ps_ret (pe_tup (pa_cons (pv 2) (pa_cons (pv 3) pa_nil)))))))))), ?_⟩
  rintro ⟨state, step, _⟩
  show SimB _ _ _ _ _ _ [.sl (fz K ((e2 eI (eT (eT (e2 eI eI)))) state)), .sl (fz K (eD step)), .un, .un, .un, .un, .un, .un, .un] (p_moved state step)
  unfold p_moved
  exact (sb_seq (sb_asg (e := (e2 eI (eT (eT (e2 eI eI))))) (EvG.is (w' := (ret state)) (ev_f (e := (e2 eI (eT (eT (e2 eI eI))))) state rfl) rfl) (fun u1 => (tg_tup (ds := [eI (u1.1), (eT (eT (e2 eI eI))) (u1.2)]) (ts_cons (tg_name (ltb rfl)) (ts_cons (tg_name (ltb rfl)) ts_nil)) rfl rfl)) (fun u1 => (la_in (sb_seq (sb_if (EvT.is (w' := (bnd (bnd (opt (asT step)) fun x2 => opt (atI x2 (0 : Int))) fun x3 => eqW (eD x3) (eS ("put" : Str)))) (et_test (ev_opF (ev_opF (ev_as (f := asT) (e := (eT eD)) (ev_f (e := eD) step rfl) as_T) ev_int (fun _ _ => o_ixT _ _)) ev_str (fun _ _ => o_eqDW _ _))) rfl) (sb_seq (sb_asg (e := (e4 eS eI eI eI)) (EvG.is (w' := (opt ((asQ4 asS asI asI asI) step))) (ev_as (f := (asQ4 asS asI asI asI)) (e := (e4 eS eI eI eI)) (ev_f (e := eD) step rfl) (as_Q4 as_S as_I as_I as_I)) rfl) (fun u5 => (tg_tup (ds := [eS (u5.1), eI (u5.2.1), eI (u5.2.2.1), eI (u5.2.2.2)]) (ts_cons (tg_name (ltb rfl)) (ts_cons (tg_name (ltb rfl)) (ts_cons (tg_name (ltb rfl)) (ts_cons (tg_name (ltb rfl)) ts_nil)))) rfl rfl)) (fun u5 => (la_in (sb_retF (EvG.is (w' := (bnd (bnd (bnd (opt (atI (u1.2) (u5.2.2.2))) fun x6 => grd (x6.length + [((u1.1), (u5.2.2.1))].length ≤ 16777216) (ret (x6 ++ [((u1.1), (u5.2.2.1))]))) fun x7 => noX (p_changed (u1.2) (u5.2.2.2) x7)) fun x8 => ret (((u1.1) + (1 : Int)), x8))) (ev_tupS (fun x => (x.1, x.2.1)) (e2 eI (eT (eT (e2 eI eI)))) (es_f (ev_opF (ev_f (e := eI) (u1.1) rfl) ev_int (fun _ _ => o_add _ _)) (es_f (ev_callS (eT (eT (e2 eI eI))) (es_f (ev_f (e := (eT (eT (e2 eI eI)))) (u1.2) rfl) (es_f (ev_f (e := eI) (u5.2.2.2) rfl) (es_f (ev_opF (ev_opF (ev_f (e := (eT (eT (e2 eI eI)))) (u1.2) rfl) (ev_f (e := eI) (u5.2.2.2) rfl) (fun _ _ => o_ixT _ _)) (ev_tupS (fun x => [x.1]) (eT (e2 eI eI)) (es_f (ev_tupS (fun x => (x.1, x.2.1)) (e2 eI eI) (es_f (ev_f (e := eI) (u1.1) rfl) (es_f (ev_f (e := eI) (u5.2.2.1) rfl) es_nil)) (fun _ => (AllF.cons (AllF.cons AllF.nil))) (fun _ => rfl) (fun _ => rfl)) es_nil) (fun _ => (AllF.cons AllF.nil)) (fun _ => rfl) (fun _ => rfl)) (fun _ _ => o_catT _ _)) es_nil))) (fun _ => rfl)) es_nil)) (fun _ => (AllF.cons (AllF.cons AllF.nil))) (fun _ => rfl) (fun _ => rfl)) (by simp only [ret_bnd, bnd_bnd, mapW_bnd, mapW_ret] <;> rfl)) (fun _ => rfl)))))) (sb_next (la_in (sb_seq (sb_set (e := (e2 eI eI)) (EvG.is (w' := (bnd (bnd (bnd (bnd (opt (asT step)) fun x9 => opt (atI x9 (1 : Int))) fun x10 => opt (asI x10)) fun x11 => opt (atI (u1.2) x11)) fun x12 => opt (atI x12 (0 : Int)))) (ev_opF (ev_opF (ev_f (e := (eT (eT (e2 eI eI)))) (u1.2) rfl) (ev_as (f := asI) (e := eI) (ev_opF (ev_as (f := asT) (e := (eT eD)) (ev_f (e := eD) step rfl) as_T) ev_int (fun _ _ => o_ixT _ _)) as_I) (fun _ _ => o_ixT _ _)) ev_int (fun _ _ => o_ixT _ _)) (by simp only [ret_bnd, bnd_bnd, mapW_bnd, mapW_ret] <;> rfl)) (ltb rfl) (fun packet_13 => (la_in (sb_seq (sb_set (e := (eT (eT (e2 eI eI)))) (EvG.is (w' := (bnd (bnd (bnd (opt (asT step)) fun x14 => opt (atI x14 (1 : Int))) fun x15 => opt (asI x15)) fun x20 => bnd (bnd (bnd (bnd (bnd (opt (asT step)) fun x16 => opt (atI x16 (1 : Int))) fun x17 => opt (asI x17)) fun x18 => opt (atI (u1.2) x18)) fun x19 => ret (cutA x19 (some (1 : Int)) none)) fun x21 => noX (p_changed (u1.2) x20 x21))) (ev_callS (eT (eT (e2 eI eI))) (es_f (ev_f (e := (eT (eT (e2 eI eI)))) (u1.2) rfl) (es_f (ev_as (f := asI) (e := eI) (ev_opF (ev_as (f := asT) (e := (eT eD)) (ev_f (e := eD) step rfl) as_T) ev_int (fun _ _ => o_ixT _ _)) as_I) (es_f (ev_slT (ev_opF (ev_f (e := (eT (eT (e2 eI eI)))) (u1.2) rfl) (ev_as (f := asI) (e := eI) (ev_opF (ev_as (f := asT) (e := (eT eD)) (ev_f (e := eD) step rfl) as_T) ev_int (fun _ _ => o_ixT _ _)) as_I) (fun _ _ => o_ixT _ _)) (eo_some ev_int) eo_none) es_nil))) (fun _ => rfl)) (by simp only [ret_bnd, bnd_bnd, mapW_bnd, mapW_ret] <;> rfl)) (ltb rfl) (fun queues_22 => (la_in (sb_join (S := ((List (List (Int × Int))))) (Γf := fun s26 => [.sl (fz K ((e2 eI (eT (eT (e2 eI eI)))) state)), .sl (fz K (eD step)), .sl (fz K (eI (u1.1))), .sl (fz K ((eT (eT (e2 eI eI))) s26)), .un, .un, .un, .un, .sl (fz K ((e2 eI eI) packet_13))]) (k := fun s26 => _) (sb_if (EvT.is (w' := (bnd (bnd (opt (asT step)) fun x23 => opt (atI x23 (0 : Int))) fun x24 => eqW (eD x24) (eS ("go" : Str)))) (et_test (ev_opF (ev_opF (ev_as (f := asT) (e := (eT eD)) (ev_f (e := eD) step rfl) as_T) ev_int (fun _ _ => o_ixT _ _)) ev_str (fun _ _ => o_eqDW _ _))) rfl) (sb_set (e := (eT (eT (e2 eI eI)))) (EvG.is (w' := (bnd (bnd (bnd (opt (asT step)) fun x28 => opt (atI x28 (2 : Int))) fun x29 => opt (asI x29)) fun x34 => bnd (bnd (bnd (bnd (bnd (opt (asT step)) fun x30 => opt (atI x30 (2 : Int))) fun x31 => opt (asI x31)) fun x32 => opt (atI queues_22 x32)) fun x33 => grd (x33.length + [packet_13].length ≤ 16777216) (ret (x33 ++ [packet_13]))) fun x35 => noX (p_changed queues_22 x34 x35))) (ev_callS (eT (eT (e2 eI eI))) (es_f (ev_f (e := (eT (eT (e2 eI eI)))) queues_22 rfl) (es_f (ev_as (f := asI) (e := eI) (ev_opF (ev_as (f := asT) (e := (eT eD)) (ev_f (e := eD) step rfl) as_T) ev_int (fun _ _ => o_ixT _ _)) as_I) (es_f (ev_opF (ev_opF (ev_f (e := (eT (eT (e2 eI eI)))) queues_22 rfl) (ev_as (f := asI) (e := eI) (ev_opF (ev_as (f := asT) (e := (eT eD)) (ev_f (e := eD) step rfl) as_T) ev_int (fun _ _ => o_ixT _ _)) as_I) (fun _ _ => o_ixT _ _)) (ev_tupS (fun x => [x.1]) (eT (e2 eI eI)) (es_f (ev_f (e := (e2 eI eI)) packet_13 rfl) es_nil) (fun _ => (AllF.cons AllF.nil)) (fun _ => rfl) (fun _ => rfl)) (fun _ _ => o_catT _ _)) es_nil))) (fun _ => rfl)) (by simp only [ret_bnd, bnd_bnd, mapW_bnd, mapW_ret] <;> rfl)) (ltb rfl) (fun queues_36 => (Lands.wk (la_at queues_36) (wk_mask [true, true, true, true, true, true, true, true, true] _)))) (sb_next (Lands.wk (la_at queues_22) (wk_mask [true, true, true, true, true, true, true, true, true] _)))) (fun s26 => (sb_retF (EvG.is (w' := (ret ((u1.1), s26))) (ev_tupS (fun x => (x.1, x.2.1)) (e2 eI (eT (eT (e2 eI eI)))) (es_f (ev_f (e := eI) (u1.1) rfl) (es_f (ev_f (e := (eT (eT (e2 eI eI)))) s26 rfl) es_nil)) (fun _ => (AllF.cons (AllF.cons AllF.nil))) (fun _ => rfl) (fun _ => rfl)) rfl) (fun _ => rfl))))))))))))))))))))
end
end Cf
namespace Cf
open PySem PySem.Spec PyProof.Rows L2 WL
section
variable {P : Program} {w : World} {K : PySem.W.Frag} {mg : Str → Option Value} {base : Heap}
set_option maxHeartbeats 4000000
theorem ok_p_afterX (T : Tx P K mg) : FnOk P w K mg base (L2.CX P w) 4 T.f_p_afterX T.d_p_afterX ["fabric", "state", "step"] (spX K (ctOf [T.xa_NotAllowed]) (fun x : ((Int × (List (Int × Int × Int))) × (List (List (List Int)))) × (Int × (List (List (Int × Int)))) × PyData × Unit => [.d ((e2 (e2 eI (eT (e3 eI eI eI))) (eT (eT (eT eI)))) x.1), .d ((e2 eI (eT (eT (e2 eI eI)))) x.2.1), .d (eD x.2.2.1)]) (fun x => p_afterX x.1 x.2.1 x.2.2.1) (fun r : (Int × (List (List (Int × Int)))) => .fz ((e2 eI (eT (eT (e2 eI eI)))) r))) := by
  have S := sc_p_afterX
  refine fn_x (N := nn_p_afterX) T.F_p_afterX S (fun _ => rfl) (fun cdv A outer s H E hr => ?_)
  refine ⟨_, (pss_cons (ps_if (pt_not (pt_val (pe_call (ok_p_is_possible T) (hr.mono (by decide)) (by rfl) T.g_p_is_possible T.F_p_is_possible.kp T.b_p_is_possible .nil pass0 (pa_cons (pv 0) (pa_cons (pv 1) (pa_cons (pv 2) pa_nil)))))) (pss_one (ps_raiseC (K := K) rfl T.xc_NotAllowed rfl (takes_of rfl rfl rfl rfl) (by exact rfl))) pss_nil)
      (pss_one (ps_ret (pe_call (ok_p_moved T) (hr.mono (by decide)) (by rfl) T.g_p_moved T.F_p_moved.kp T.b_p_moved .nil pass0 (pa_cons (pv 1) (pa_cons (pv 2) pa_nil)))))), ?_⟩
  rintro ⟨fabric, state, step, _⟩
  show SimB _ _ _ _ _ _ [.sl (fz K ((e2 (e2 eI (eT (e3 eI eI eI))) (eT (eT (eT eI)))) fabric)), .sl (fz K ((e2 eI (eT (eT (e2 eI eI)))) state)), .sl (fz K (eD step))] (p_afterX fabric state step)
  unfold p_afterX
  exact (sb_seq (sb_if (EvT.is (w' := (bnd (noX (p_is_possible fabric state step)) fun x1 => ret (!x1))) (et_not (et_B (ev_callS eB (es_f (ev_f (e := (e2 (e2 eI (eT (e3 eI eI eI))) (eT (eT (eT eI))))) fabric rfl) (es_f (ev_f (e := (e2 eI (eT (eT (e2 eI eI))))) state rfl) (es_f (ev_f (e := eD) step rfl) es_nil))) (fun _ => rfl)))) rfl) (sb_raise 0 rfl) (sb_next (la_in (sb_retF (EvG.is (w' := (noX (p_moved state step))) (ev_callS (e2 eI (eT (eT (e2 eI eI)))) (es_f (ev_f (e := (e2 eI (eT (eT (e2 eI eI))))) state rfl) (es_f (ev_f (e := eD) step rfl) es_nil)) (fun _ => rfl)) rfl) (fun _ => rfl))))))
end
end Cf
namespace Cf
open PySem PySem.Spec PyProof.Rows L2 WL
section
variable {P : Program} {w : World} {K : PySem.W.Frag} {mg : Str → Option Value} {base : Heap}
set_option maxHeartbeats 4000000
theorem ok_l_refused (T : Tx P K mg) : FnOk P w K mg base CX0 5 T.f_l_refused T.d_l_refused ["_law_fabric_here", "_law_state_here", "_law_step"] (spN K (fun x : ((Int × (List (Int × Int × Int))) × (List (List (List Int)))) × (Int × (List (List (Int × Int)))) × PyData × Unit => [.d ((e2 (e2 eI (eT (e3 eI eI eI))) (eT (eT (eT eI)))) x.1), .d ((e2 eI (eT (eT (e2 eI eI)))) x.2.1), .d (eD x.2.2.1)]) (fun x => l_refused x.1 x.2.1 x.2.2.1) (fun r : Bool => .fz (eB r))) := by
  have S := sc_l_refused
  refine fn_n (N := nn_l_refused) T.F_l_refused S (fun _ => rfl) (fun cdv A outer s H E hr => ?_)
  refine ⟨_, (pss_cons (ps_tryA (K := K) (Dc := T.xa_NotAllowed) (i := 3) rfl rfl rfl S.nd rfl (by rfl) ⟨by exact rfl, by decide, Or.inl T.xc_NotAllowed.g⟩ (fun W pn xe tk => (pss_cons (ps_expr (pe_callS (ok_p_afterX T) (hr.mono (by decide)) (by rfl) T.g_p_afterX T.F_p_afterX.kp T.b_p_afterX (fun σ => passAt tk σ) (pa_cons (pv 0) (pa_cons (pv 1) (pa_cons (pv 2) pa_nil)))))
      pss_nil)) (fun a oe pn hz hf => (pss_one (ps_ret (pe_callB (call_isEK (K := K) rfl T.xq_NotAllowed hz hf) (by rfl) T.z_isinstance (by decide +kernel) (pa_cons (pv 3) (pa_cons (pe_glob (by rfl) T.xc_FabricError.g (show RelV (.ref T.xa_FabricError) _ from rfl)) pa_nil)))))))
      (pss_one (ps_ret pe_bl))), ?_⟩
  rintro ⟨fabric_here, state_here, step, _⟩
  show SimB _ _ _ _ _ _ [.sl (fz K ((e2 (e2 eI (eT (e3 eI eI eI))) (eT (eT (eT eI)))) fabric_here)), .sl (fz K ((e2 eI (eT (eT (e2 eI eI)))) state_here)), .sl (fz K (eD step)), .un] (l_refused fabric_here state_here step)
  unfold l_refused
  exact (sb_seq (SimB.is (m' := tryC (ret (fabric_here, state_here, step, ())) (fun x => p_afterX x.1 x.2.1 x.2.2.1) (ret false) (ret true)) (sb_tryC (i := 3) (Dc := T.xa_NotAllowed) (ltb rfl) (ct1 T.xc_NotAllowed.e) (ctOf1 _) (EvA.is (w' := (ret (fabric_here, state_here, step, ()))) (EvS.ev (es_f (ev_f (e := (e2 (e2 eI (eT (e3 eI eI eI))) (eT (eT (eT eI))))) fabric_here rfl) (es_f (ev_f (e := (e2 eI (eT (eT (e2 eI eI))))) state_here rfl) (es_f (ev_f (e := eD) step rfl) es_nil)))) rfl) (sb_next (la_in (sb_retF (EvG.is (w' := (ret false)) ev_bl rfl) (fun _ => rfl)))) (fun a => (sb_retF (EvG.is (w' := (ret true)) (ev_isE rfl T.xi_NotAllowed_FabricError) rfl) (fun _ => rfl)))) rfl))
end
end Cf
namespace Cf
open PySem PySem.Spec PyProof.Rows L2 WL
section
variable {P : Program} {w : World} {K : PySem.W.Frag} {mg : Str → Option Value} {base : Heap}
set_option maxHeartbeats 4000000
theorem ok_p_packets_in (T : Tx P K mg) : FnOk P w K mg base CX0 1 T.f_p_packets_in T.d_p_packets_in ["state"] (spN K (fun x : (Int × (List (List (Int × Int)))) × Unit => [.d ((e2 eI (eT (eT (e2 eI eI)))) x.1)]) (fun x => p_packets_in x.1) (fun r : (List (List Int)) => .nw (ls K (List.map (eT eI) r)))) := by
  have S := sc_p_packets_in
  refine fn_n (N := nn_p_packets_in) T.F_p_packets_in S (fun _ => rfl) (fun cdv A outer s H E hr => ?_)
  refine ⟨_, (pss_one (ps_ret (pe_callB (cr_sortDK (K := K) rfl hr.units) (by rfl) T.z_sorted (by decide +kernel) (pa_cons (pe_lc2 (own := [("c", 1), ("packet", 2)]) (vs1 := [2]) rfl S.nd (pi_range1 (by rfl) T.z_range (pa_cons (pe_callB (call_lenK (K := K) rfl) (by rfl) T.z_len (by decide +kernel) (pa_cons (pe_ix (ix_tupK (K := K) rfl) (pv 0) pe_int (fun _ _ => rfl)) pa_nil)) pa_nil)) (blkOk_by (N := nn_p_packets_in) (sc := (defScope s_p_packets_in)) (own := [("c", 1), ("packet", 2)]) (by decide +kernel)) (by decide) (fun _ _ _ _ _ => (pg_name (i := 1) S.nd rfl (by first | exact .inl rfl | exact .inr rfl))) (fun _ _ _ _ _ => pts_nil) (fun _ _ _ _ _ => (pi_tupK (K := K) rfl (pe_ix (ix_tupK (K := K) rfl) (pe_ix (ix_tupK (K := K) rfl) (pv 0) pe_int (fun _ _ => rfl)) (pv 1) (fun _ _ => rfl)))) (fun _ _ _ _ _ => (pg_name (i := 2) S.nd rfl (by first | exact .inl rfl | exact .inr rfl))) (fun _ _ _ _ _ => pts_nil) (fun _ _ _ _ _ => (pe_op (op_catK (K := K) rfl) (pv 2) (pe_tup (pa_cons (pv 1) pa_nil))))) pa_nil)))), ?_⟩
  rintro ⟨state, _⟩
  show SimB _ _ _ _ _ _ [.sl (fz K ((e2 eI (eT (eT (e2 eI eI)))) state)), .un, .un] (p_packets_in state)
  unfold p_packets_in
  exact (sb_retSS (S := fun r => ls K (List.map (eT eI) r)) (EvG.is (w' := (bnd (bnd (grd (Rng (state.2.length : Int)) (ret (span 0 ((state.2.length : Int)).toNat))) fun l3 => lc2G (fun c1 => (ret true)) (fun c1 => (opt (atI state.2 c1))) (fun c1 c2 => (ret true)) (fun c1 c2 => (grd ([c2.1, c2.2].length + [c1].length ≤ 16777216) (ret ([c2.1, c2.2] ++ [c1])))) l3) fun x4 => sortW (eT eI) x4)) (ev_b1L (EvG.rl (ev_lc2 (Γb := fun c1 => [.sl (fz K ((e2 eI (eT (eT (e2 eI eI)))) state)), .sl (fz K (eI c1)), .un]) (Γc := fun c1 c2 => [.sl (fz K ((e2 eI (eT (eT (e2 eI eI)))) state)), .sl (fz K (eI c1)), .sl (fz K ((e2 eI eI) c2))]) (e := eI) (e1 := (e2 eI eI)) (c := fun c1 => (ret true)) (w1 := fun c1 => (opt (atI state.2 c1))) (c1 := fun c1 c2 => (ret true)) (f := fun c1 c2 => (grd ([c2.1, c2.2].length + [c1].length ≤ 16777216) (ret ([c2.1, c2.2] ++ [c1])))) (ItG.is (w' := (grd (Rng (state.2.length : Int)) (ret (span 0 ((state.2.length : Int)).toNat)))) (it_range1 (ev_b1F (ev_ixW (e' := (eT (eT (e2 eI eI)))) (fun a => a.2) 1 (ev_f (e := (e2 eI (eT (eT (e2 eI eI))))) state rfl) rfl (fun _ => ⟨_, rfl, rfl⟩)) (fun _ => c_lenT _))) rfl) (fun c1 => (tg_wide (tg_name (ltb rfl)) (by decide))) (fun c1 => (EvT.is (w' := (ret true)) et_yes rfl)) (fun c1 => (ItG.is (w' := (opt (atI state.2 c1))) (it_tup (ev_opF (ev_ixW (e' := (eT (eT (e2 eI eI)))) (fun a => a.2) 1 (ev_f (e := (e2 eI (eT (eT (e2 eI eI))))) state rfl) rfl (fun _ => ⟨_, rfl, rfl⟩)) (ev_f (e := eI) c1 rfl) (fun _ _ => o_ixT _ _))) rfl)) (fun c1 c2 => (tg_name (ltb rfl))) (fun c1 c2 => (EvT.is (w' := (ret true)) et_yes rfl)) (fun c1 c2 => (EvG.is (w' := (grd ([c2.1, c2.2].length + [c1].length ≤ 16777216) (ret ([c2.1, c2.2] ++ [c1])))) (ev_opF (EvG.as (fun y => [y.1, y.2]) (R' := fun r => RF _ (eT eI r)) (ev_f (e := (e2 eI eI)) c2 rfl) (fun _ => rfl)) (ev_tupS (fun x => [x.1]) (eT eI) (es_f (ev_f (e := eI) c1 rfl) es_nil) (fun _ => (AllF.cons AllF.nil)) (fun _ => rfl) (fun _ => rfl)) (fun _ _ => o_catT _ _)) rfl)))) (fun _ => c_sortD _)) rfl) (fun _ => rfl))
end
end Cf
namespace Cf
open PySem PySem.Spec PyProof.Rows L2 WL
section
variable {P : Program} {w : World} {K : PySem.W.Frag} {mg : Str → Option Value} {base : Heap}
set_option maxHeartbeats 4000000
theorem ok_l_seen (T : Tx P K mg) : FnOk P w K mg base CX0 2 T.f_l_seen T.d_l_seen ["_law_fabric_here", "_law_state_here"] (spN K (fun x : ((Int × (List (Int × Int × Int))) × (List (List (List Int)))) × (Int × (List (List (Int × Int)))) × Unit => [.d ((e2 (e2 eI (eT (e3 eI eI eI))) (eT (eT (eT eI)))) x.1), .d ((e2 eI (eT (eT (e2 eI eI)))) x.2.1)]) (fun x => l_seen x.1 x.2.1) (fun r : Bool => .fz (eB r))) := by
  have S := sc_l_seen
  refine fn_n (N := nn_l_seen) T.F_l_seen S (fun _ => rfl) (fun cdv A outer s H E hr => ?_)
  refine ⟨_, (pss_cons (ps_set (i := 2) S.nd rfl (by first | exact .inl rfl | exact .inr rfl) (pe_ix (ix_tupK (K := K) rfl) (pv 1) pe_int (fun _ _ => rfl)))
      (pss_cons (ps_set (i := 3) S.nd rfl (by first | exact .inl rfl | exact .inr rfl) (pe_lst pa_nil))
      (pss_cons (ps_for PassesOwn.never rfl (pi_range1 (by rfl) T.z_range (pa_cons (pe_callB (call_lenK (K := K) rfl) (by rfl) T.z_len (by decide +kernel) (pa_cons (pv 2) pa_nil)) pa_nil)) (pg_name (i := 4) S.nd rfl (by first | exact .inl rfl | exact .inr rfl)) (pss_cons (ps_if (pt_cmpR (op_neDK (K := K) rfl hr.units) (pe_call (ok_p_first_of T) (hr.mono (by decide)) (by rfl) T.g_p_first_of T.F_p_first_of.kp T.b_p_first_of .nil pass0 (pa_cons (pv 1) (pa_cons (pv 4) pa_nil))) (pe_ifExp (pt_cmpR (op_neDK (K := K) rfl hr.units) (pe_ix (ix_tupK (K := K) rfl) (pv 2) (pv 4) (fun _ _ => rfl)) (pe_tup pa_nil) (nomark _)) (pe_ix (ix_tupK (K := K) rfl) (pe_ix (ix_tupK (K := K) rfl) (pv 2) (pv 4) (fun _ _ => rfl)) pe_int (fun _ _ => rfl)) pe_non) (nomark _)) (pss_one (ps_ret pe_bl)) pss_nil)
      (pss_cons (ps_if (pt_cmpR op_ne (pe_call (ok_p_is_full T) (hr.mono (by decide)) (by rfl) T.g_p_is_full T.F_p_is_full.kp T.b_p_is_full .nil pass0 (pa_cons (pv 0) (pa_cons (pv 1) (pa_cons (pv 4) pa_nil)))) (pe_cmpR op_eq (pe_callB (call_lenK (K := K) rfl) (by rfl) T.z_len (by decide +kernel) (pa_cons (pe_ix (ix_tupK (K := K) rfl) (pv 2) (pv 4) (fun _ _ => rfl)) pa_nil)) (pe_ix (ix_tupK (K := K) rfl) (pe_ix (ix_tupK (K := K) rfl) (pe_ix (ix_tupK (K := K) rfl) (pe_ix (ix_tupK (K := K) rfl) (pv 0) pe_int (fun _ _ => rfl)) pe_int (fun _ _ => rfl)) (pv 4) (fun _ _ => rfl)) pe_int (fun _ _ => rfl)) (nomark _)) (nomark _)) (pss_one (ps_ret pe_bl)) pss_nil)
      (pss_one (ps_set (i := 3) S.nd rfl (by first | exact .inl rfl | exact .inr rfl) (pe_op op_cat (pv 3) (pe_lc (own := [("_law_packet", 5)]) rfl S.nd (pi_tupK (K := K) rfl (pe_ix (ix_tupK (K := K) rfl) (pv 2) (pv 4) (fun _ _ => rfl))) (blkOk_by (N := nn_l_seen) (sc := (defScope s_l_seen)) (own := [("_law_packet", 5)]) (by decide +kernel)) (fun _ _ _ _ _ => (pg_name (i := 5) S.nd rfl (by first | exact .inl rfl | exact .inr rfl))) (fun _ _ _ _ _ => pts_nil) (fun _ _ _ _ _ => (pe_op (op_catK (K := K) rfl) (pv 5) (pe_tup (pa_cons (pv 4) pa_nil)))))))))))
      (pss_one (ps_ret (pe_cmpR (op_eqDK (K := K) rfl hr.units) (pe_call (ok_p_packets_in T) (hr.mono (by decide)) (by rfl) T.g_p_packets_in T.F_p_packets_in.kp T.b_p_packets_in .nil pass0 (pa_cons (pv 1) pa_nil)) (pe_callB (cr_sortDK (K := K) rfl hr.units) (by rfl) T.z_sorted (by decide +kernel) (pa_cons (pv 3) pa_nil)) (nomark _))))))), ?_⟩
  rintro ⟨fabric_here, state_here, _⟩
  show SimB _ _ _ _ _ _ [.sl (fz K ((e2 (e2 eI (eT (e3 eI eI eI))) (eT (eT (eT eI)))) fabric_here)), .sl (fz K ((e2 eI (eT (eT (e2 eI eI)))) state_here)), .un, .un, .un, .un] (l_seen fabric_here state_here)
  unfold l_seen
  exact (sb_seq (sb_set (e := (eT (eT (e2 eI eI)))) (EvG.is (w' := (ret state_here.2)) (ev_ixW (e' := (eT (eT (e2 eI eI)))) (fun a => a.2) 1 (ev_f (e := (e2 eI (eT (eT (e2 eI eI))))) state_here rfl) rfl (fun _ => ⟨_, rfl, rfl⟩)) rfl) (ltb rfl) (fun queues_1 => (la_in (sb_seq (sb_setN (S := fun r => ls K (List.map (eT eI) r)) (EvG.is (w' := (ret ([] : List (List Int)))) (ev_lstS (fun _ => ([] : List (List Int))) (eT eI) es_nil (fun _ => AllF.nil) (fun _ => rfl) (fun _ => rfl)) rfl) (ltb rfl) (fun rows_2 => (la_in (sb_seq (sb_for (S := ((List (List Int)))) (e := eI) (Γh := fun s4 => [.sl (fz K ((e2 (e2 eI (eT (e3 eI eI eI))) (eT (eT (eT eI)))) fabric_here)), .sl (fz K ((e2 eI (eT (eT (e2 eI eI)))) state_here)), .sl (fz K ((eT (eT (e2 eI eI))) queues_1)), .sl (ls K (List.map (eT eI) s4)), .un, .un]) rows_2 (ItG.is (w' := (grd (Rng (queues_1.length : Int)) (ret (span 0 ((queues_1.length : Int)).toNat)))) (it_range1 (ev_b1F (ev_f (e := (eT (eT (e2 eI eI)))) queues_1 rfl) (fun _ => c_lenT _))) rfl) (fun _ h => nomatch h) (wk_mask [true, true, true, true, true, true] _) (fun x3 s4 => (tg_name (ltb rfl))) (fun x3 s4 kc5 => (sb_seq (sb_if (EvT.is (w' := (bnd (noX (p_first_of state_here x3)) fun x10 => bnd (bnd (bnd (opt (atI queues_1 x3)) fun x7 => eqWN ((eT (e2 eI eI)) x7) ((eT (e2 eI eI)) ([] : (List (Int × Int))))) fun b9 => sel b9 (bnd (bnd (opt (atI queues_1 x3)) fun x8 => opt (atI x8 (0 : Int))) fun y => ret (some y)) (ret (none : (Option (Int × Int))))) fun x11 => eqWN ((eO (e2 eI eI)) x10) ((eO (e2 eI eI)) x11))) (et_test (ev_opF (ev_callS (eO (e2 eI eI)) (es_f (ev_f (e := (e2 eI (eT (eT (e2 eI eI))))) state_here rfl) (es_f (ev_f (e := eI) x3 rfl) es_nil)) (fun _ => rfl)) (ev_ifF (et_test (ev_opF (ev_opF (ev_f (e := (eT (eT (e2 eI eI)))) queues_1 rfl) (ev_f (e := eI) x3 rfl) (fun _ _ => o_ixT _ _)) (ev_tupS (fun x => []) (eT (e2 eI eI)) es_nil (fun _ => AllF.nil) (fun _ => rfl) (fun _ => rfl)) (fun _ _ => o_neDW _ _))) (ev_some (ev_opF (ev_opF (ev_f (e := (eT (eT (e2 eI eI)))) queues_1 rfl) (ev_f (e := eI) x3 rfl) (fun _ _ => o_ixT _ _)) ev_int (fun _ _ => o_ixT _ _))) (ev_nonO (e := (e2 eI eI)))) (fun _ _ => o_neDW _ _))) (by simp only [ret_bnd, bnd_bnd, mapW_bnd, mapW_ret] <;> rfl)) (sb_retF (EvG.is (w' := (ret false)) ev_bl rfl) (fun _ => rfl)) (sb_next (la_in (sb_seq (sb_if (EvT.is (w' := (bnd (noX (p_is_full fabric_here state_here x3)) fun x17 => bnd (bnd (bnd (opt (atI queues_1 x3)) fun x13 => ret (x13.length : Int)) fun x15 => bnd (bnd (opt (atI fabric_here.1.2 x3)) fun x14 => ret x14.2.2) fun x16 => ret (decide (x15 = x16))) fun x18 => ret (!decide (x17 = x18)))) (et_test (ev_opF (ev_callS eB (es_f (ev_f (e := (e2 (e2 eI (eT (e3 eI eI eI))) (eT (eT (eT eI))))) fabric_here rfl) (es_f (ev_f (e := (e2 eI (eT (eT (e2 eI eI))))) state_here rfl) (es_f (ev_f (e := eI) x3 rfl) es_nil))) (fun _ => rfl)) (ev_opF (ev_b1F (ev_opF (ev_f (e := (eT (eT (e2 eI eI)))) queues_1 rfl) (ev_f (e := eI) x3 rfl) (fun _ _ => o_ixT _ _)) (fun _ => c_lenT _)) (ev_ixW (e' := eI) (fun a => a.2.2) 2 (ev_opF (ev_ixW (e' := (eT (e3 eI eI eI))) (fun a => a.2) 1 (ev_ixW (e' := (e2 eI (eT (e3 eI eI eI)))) (fun a => a.1) 0 (ev_f (e := (e2 (e2 eI (eT (e3 eI eI eI))) (eT (eT (eT eI))))) fabric_here rfl) rfl (fun _ => ⟨_, rfl, rfl⟩)) rfl (fun _ => ⟨_, rfl, rfl⟩)) (ev_f (e := eI) x3 rfl) (fun _ _ => o_ixT _ _)) rfl (fun _ => ⟨_, rfl, rfl⟩)) (fun _ _ => o_eqI _ _)) (fun _ _ => o_neB _ _))) (by simp only [ret_bnd, bnd_bnd, mapW_bnd, mapW_ret] <;> rfl)) (sb_retF (EvG.is (w' := (ret false)) ev_bl rfl) (fun _ => rfl)) (sb_next (la_in (sb_setN (S := fun r => ls K (List.map (eT eI) r)) (EvG.is (w' := (bnd (bnd (opt (atI queues_1 x3)) fun l21 => lcG (fun c20 => (ret true)) (fun c20 => (grd ([c20.1, c20.2].length + [x3].length ≤ 16777216) (ret ([c20.1, c20.2] ++ [x3])))) l21) fun x22 => grd (s4.length + x22.length ≤ 16777216) (ret (s4 ++ x22)))) (ev_opXX (ev_lX (e := (eT eI)) s4 (.inl rfl)) (EvG.rx (ev_lc (e := (e2 eI eI)) (c := fun c20 => (ret true)) (f := fun c20 => (grd ([c20.1, c20.2].length + [x3].length ≤ 16777216) (ret ([c20.1, c20.2] ++ [x3])))) (ItG.is (w' := (opt (atI queues_1 x3))) (it_tup (ev_opF (ev_f (e := (eT (eT (e2 eI eI)))) queues_1 rfl) (ev_f (e := eI) x3 rfl) (fun _ _ => o_ixT _ _))) rfl) (fun c20 => (tg_name (ltb rfl))) (fun c20 => (EvT.is (w' := (ret true)) et_yes rfl)) (fun c20 => (EvG.is (w' := (grd ([c20.1, c20.2].length + [x3].length ≤ 16777216) (ret ([c20.1, c20.2] ++ [x3])))) (ev_opF (EvG.as (fun y => [y.1, y.2]) (R' := fun r => RF _ (eT eI r)) (ev_f (e := (e2 eI eI)) c20 rfl) (fun _ => rfl)) (ev_tupS (fun x => [x.1]) (eT eI) (es_f (ev_f (e := eI) x3 rfl) es_nil) (fun _ => (AllF.cons AllF.nil)) (fun _ => rfl) (fun _ => rfl)) (fun _ _ => o_catT _ _)) rfl)))) (fun _ _ => o_catX _ _)) rfl) (ltb rfl) (fun rows_23 => (Lands.wk (la_at rows_23) (wk_mask [true, true, true, true, false, true] _))))))))))))) (fun s4 => (la_in (sb_retF (EvG.is (w' := (bnd (noX (p_packets_in state_here)) fun x24 => bnd (sortW (eT eI) s4) fun x25 => eqL (List.map (eT eI) x24) (List.map (eT eI) x25))) (ev_opLL (EvG.rl (ev_callNS (fun r => ls K (List.map (eT eI) r)) (es_f (ev_f (e := (e2 eI (eT (eT (e2 eI eI))))) state_here rfl) es_nil) (fun _ => rfl))) (EvG.rl (ev_b1L (ev_l (e := (eT eI)) s4 rfl) (fun _ => c_sortD _))) (fun _ _ => o_eqLW _ _)) rfl) (fun _ => rfl))))))))))))))
end
end Cf
namespace Cf
open PySem PySem.Spec PyProof.Rows L2 WL
section
variable {P : Program} {w : World} {K : PySem.W.Frag} {mg : Str → Option Value} {base : Heap}
set_option maxHeartbeats 4000000
theorem ok_l_steps (T : Tx P K mg) : FnOk P w K mg base CX0 3 T.f_l_steps T.d_l_steps ["_law_fabric_here", "_law_state_here"] (spN K (fun x : ((Int × (List (Int × Int × Int))) × (List (List (List Int)))) × (Int × (List (List (Int × Int)))) × Unit => [.d ((e2 (e2 eI (eT (e3 eI eI eI))) (eT (eT (eT eI)))) x.1), .d ((e2 eI (eT (eT (e2 eI eI)))) x.2.1)]) (fun x => l_steps x.1 x.2.1) (fun r : (List PyData) => .nw (ls K (List.map eD r)))) := by
  have S := sc_l_steps
  refine fn_n (N := nn_l_steps) T.F_l_steps S (fun _ => rfl) (fun cdv A outer s H E hr => ?_)
  refine ⟨_, (pss_cons (ps_asg (pe_ix (ix_tupK (K := K) rfl) (pv 0) pe_int (fun _ _ => rfl)) (pg_tupK (n := 2) (K := K) rfl rfl (pgs_cons (pg_name (i := 2) S.nd rfl (by first | exact .inl rfl | exact .inr rfl)) (pgs_cons (pg_name (i := 3) S.nd rfl (by first | exact .inl rfl | exact .inr rfl)) pgs_nil))))
      (pss_cons (ps_set (i := 4) S.nd rfl (by first | exact .inl rfl | exact .inr rfl) (pe_lst pa_nil))
      (pss_cons (ps_for PassesOwn.never rfl (pi_range1 (by rfl) T.z_range (pa_cons (pv 2) pa_nil)) (pg_name (i := 5) S.nd rfl (by first | exact .inl rfl | exact .inr rfl)) (pss_one (ps_for PassesOwn.never rfl (pi_range1 (by rfl) T.z_range (pa_cons (pv 2) pa_nil)) (pg_name (i := 6) S.nd rfl (by first | exact .inl rfl | exact .inr rfl)) (pss_one (ps_set (i := 4) S.nd rfl (by first | exact .inl rfl | exact .inr rfl) (pe_op op_cat (pv 4) (pe_lc (own := [("_law_c", 7)]) rfl S.nd (pi_tupK (K := K) rfl (pe_ix (ix_tupK (K := K) rfl) (pe_ix (ix_tupK (K := K) rfl) (pe_ix (ix_tupK (K := K) rfl) (pv 0) pe_int (fun _ _ => rfl)) (pv 5) (fun _ _ => rfl)) (pv 6) (fun _ _ => rfl))) (blkOk_by (N := nn_l_steps) (sc := (defScope s_l_steps)) (own := [("_law_c", 7)]) (by decide +kernel)) (fun _ _ _ _ _ => (pg_name (i := 7) S.nd rfl (by first | exact .inl rfl | exact .inr rfl))) (fun _ _ _ _ _ => pts_nil) (fun _ _ _ _ _ => (pe_tup (pa_cons pe_str (pa_cons (pv 5) (pa_cons (pv 6) (pa_cons (pv 7) pa_nil)))))))))))))
      (pss_cons (ps_set (i := 8) S.nd rfl (by first | exact .inl rfl | exact .inr rfl) (pe_callB (call_lenK (K := K) rfl) (by rfl) T.z_len (by decide +kernel) (pa_cons (pv 3) pa_nil)))
      (pss_cons (ps_for PassesOwn.never rfl (pi_range1 (by rfl) T.z_range (pa_cons (pv 8) pa_nil)) (pg_name (i := 7) S.nd rfl (by first | exact .inl rfl | exact .inr rfl)) (pss_one (ps_set (i := 4) S.nd rfl (by first | exact .inl rfl | exact .inr rfl) (pe_op op_cat (pv 4) (pe_lc (own := [("_law_c2", 9)]) rfl S.nd (pi_range1 (by rfl) T.z_range (pa_cons (pv 8) pa_nil)) (blkOk_by (N := nn_l_steps) (sc := (defScope s_l_steps)) (own := [("_law_c2", 9)]) (by decide +kernel)) (fun _ _ _ _ _ => (pg_name (i := 9) S.nd rfl (by first | exact .inl rfl | exact .inr rfl))) (fun _ _ _ _ _ => pts_nil) (fun _ _ _ _ _ => (pe_tup (pa_cons pe_str (pa_cons (pv 7) (pa_cons (pv 9) pa_nil))))))))))
      (pss_cons (ps_set (i := 4) S.nd rfl (by first | exact .inl rfl | exact .inr rfl) (pe_op op_cat (pv 4) (pe_lc (own := [("_law_c", 7)]) rfl S.nd (pi_range1 (by rfl) T.z_range (pa_cons (pv 8) pa_nil)) (blkOk_by (N := nn_l_steps) (sc := (defScope s_l_steps)) (own := [("_law_c", 7)]) (by decide +kernel)) (fun _ _ _ _ _ => (pg_name (i := 7) S.nd rfl (by first | exact .inl rfl | exact .inr rfl))) (fun _ _ _ _ _ => pts_nil) (fun _ _ _ _ _ => (pe_tup (pa_cons pe_str (pa_cons (pv 7) pa_nil)))))))
      (pss_one (ps_ret (pe_lc (own := [("_law_step", 10)]) rfl S.nd (pi_listK (K := K) rfl (pv 4)) (blkOk_by (N := nn_l_steps) (sc := (defScope s_l_steps)) (own := [("_law_step", 10)]) (by decide +kernel)) (fun _ _ _ _ _ => (pg_name (i := 10) S.nd rfl (by first | exact .inl rfl | exact .inr rfl))) (fun _ _ _ _ _ => (pts_one (pt_val (pe_call (ok_l_allowed T) (hr.mono (by decide)) (by rfl) T.g_l_allowed T.F_l_allowed.kp T.b_l_allowed .nil pass0 (pa_cons (pv 0) (pa_cons (pv 1) (pa_cons (pv 10) pa_nil))))))) (fun _ _ _ _ _ => (pv 10))))))))))), ?_⟩
  rintro ⟨fabric_here, state_here, _⟩
  show SimB _ _ _ _ _ _ [.sl (fz K ((e2 (e2 eI (eT (e3 eI eI eI))) (eT (eT (eT eI)))) fabric_here)), .sl (fz K ((e2 eI (eT (eT (e2 eI eI)))) state_here)), .un, .un, .un, .un, .un, .un, .un, .un, .un] (l_steps fabric_here state_here)
  unfold l_steps
  exact (sb_seq (sb_asg (e := (e2 eI (eT (e3 eI eI eI)))) (EvG.is (w' := (ret fabric_here.1)) (ev_ixW (e' := (e2 eI (eT (e3 eI eI eI)))) (fun a => a.1) 0 (ev_f (e := (e2 (e2 eI (eT (e3 eI eI eI))) (eT (eT (eT eI))))) fabric_here rfl) rfl (fun _ => ⟨_, rfl, rfl⟩)) rfl) (fun u1 => (tg_tup (ds := [eI (u1.1), (eT (e3 eI eI eI)) (u1.2)]) (ts_cons (tg_name (ltb rfl)) (ts_cons (tg_name (ltb rfl)) ts_nil)) rfl rfl)) (fun u1 => (la_in (sb_seq (sb_setN (S := fun r => ls K (List.map eD r)) (EvG.is (w' := (ret ([] : List PyData))) (ev_lstS (fun _ => ([] : List PyData)) eD es_nil (fun _ => AllF.nil) (fun _ => rfl) (fun _ => rfl)) rfl) (ltb rfl) (fun found_2 => (la_in (sb_seq (sb_for (S := ((List PyData))) (e := eI) (Γh := fun s4 => [.sl (fz K ((e2 (e2 eI (eT (e3 eI eI eI))) (eT (eT (eT eI)))) fabric_here)), .sl (fz K ((e2 eI (eT (eT (e2 eI eI)))) state_here)), .sl (fz K (eI (u1.1))), .sl (fz K ((eT (e3 eI eI eI)) (u1.2))), .sl (ls K (List.map eD s4)), .un, .un, .un, .un, .un, .un]) found_2 (ItG.is (w' := (grd (Rng (u1.1)) (ret (span 0 ((u1.1)).toNat)))) (it_range1 (ev_f (e := eI) (u1.1) rfl)) rfl) (fun _ h => nomatch h) (wk_mask [true, true, true, true, true, true, true, true, true, true, true] _) (fun x3 s4 => (tg_name (ltb rfl))) (fun x3 s4 kc5 => (sb_for (S := ((List PyData))) (e := eI) (Γh := fun s8 => [.sl (fz K ((e2 (e2 eI (eT (e3 eI eI eI))) (eT (eT (eT eI)))) fabric_here)), .sl (fz K ((e2 eI (eT (eT (e2 eI eI)))) state_here)), .sl (fz K (eI (u1.1))), .sl (fz K ((eT (e3 eI eI eI)) (u1.2))), .sl (ls K (List.map eD s8)), .sl (fz K (eI x3)), .un, .un, .un, .un, .un]) s4 (ItG.is (w' := (grd (Rng (u1.1)) (ret (span 0 ((u1.1)).toNat)))) (it_range1 (ev_f (e := eI) (u1.1) rfl)) rfl) (fun _ h => nomatch h) (wk_mask [true, true, true, true, true, true, true, true, true, true, true] _) (fun x7 s8 => (tg_name (ltb rfl))) (fun x7 s8 kc9 => (sb_setN (S := fun r => ls K (List.map eD r)) (EvG.is (w' := (bnd (bnd (bnd (opt (atI fabric_here.2 x3)) fun x11 => opt (atI x11 x7)) fun l13 => lcG (fun c12 => (ret true)) (fun c12 => (ret ((e4 eS eI eI eI) (("put" : Str), x3, x7, c12)))) l13) fun x14 => grd (s8.length + x14.length ≤ 16777216) (ret (s8 ++ x14)))) (ev_opXX (ev_lX (e := eD) s8 (.inl rfl)) (EvG.rx (ev_lc (e := eI) (c := fun c12 => (ret true)) (f := fun c12 => (ret ((e4 eS eI eI eI) (("put" : Str), x3, x7, c12)))) (ItG.is (w' := (bnd (opt (atI fabric_here.2 x3)) fun x11 => opt (atI x11 x7))) (it_tup (ev_opF (ev_opF (ev_ixW (e' := (eT (eT (eT eI)))) (fun a => a.2) 1 (ev_f (e := (e2 (e2 eI (eT (e3 eI eI eI))) (eT (eT (eT eI))))) fabric_here rfl) rfl (fun _ => ⟨_, rfl, rfl⟩)) (ev_f (e := eI) x3 rfl) (fun _ _ => o_ixT _ _)) (ev_f (e := eI) x7 rfl) (fun _ _ => o_ixT _ _))) rfl) (fun c12 => (tg_name (ltb rfl))) (fun c12 => (EvT.is (w' := (ret true)) et_yes rfl)) (fun c12 => (EvG.is (w' := (ret ((e4 eS eI eI eI) (("put" : Str), x3, x7, c12)))) (ev_data (e := (e4 eS eI eI eI)) (ev_tupS (fun x => (x.1, x.2.1, x.2.2.1, x.2.2.2.1)) (e4 eS eI eI eI) (es_f ev_str (es_f (ev_f (e := eI) x3 rfl) (es_f (ev_f (e := eI) x7 rfl) (es_f (ev_f (e := eI) c12 rfl) es_nil)))) (fun _ => (AllF.cons (AllF.cons (AllF.cons (AllF.cons AllF.nil))))) (fun _ => rfl) (fun _ => rfl))) rfl)))) (fun _ _ => o_catX _ _)) (by simp only [ret_bnd, bnd_bnd, mapW_bnd, mapW_ret] <;> rfl)) (ltb rfl) (fun found_15 => (Lands.wk (la_at found_15) (wk_mask [true, true, true, true, true, true, false, true, true, true, true] _))))) (fun s8 => (Lands.wk (la_at s8) (wk_mask [true, true, true, true, true, false, true, true, true, true, true] _))))) (fun s4 => (la_in (sb_seq (sb_set (e := eI) (EvG.is (w' := (ret ((u1.2).length : Int))) (ev_b1F (ev_f (e := (eT (e3 eI eI eI))) (u1.2) rfl) (fun _ => c_lenT _)) rfl) (ltb rfl) (fun many_17 => (la_in (sb_seq (sb_for (S := ((List PyData))) (e := eI) (Γh := fun s19 => [.sl (fz K ((e2 (e2 eI (eT (e3 eI eI eI))) (eT (eT (eT eI)))) fabric_here)), .sl (fz K ((e2 eI (eT (eT (e2 eI eI)))) state_here)), .sl (fz K (eI (u1.1))), .sl (fz K ((eT (e3 eI eI eI)) (u1.2))), .sl (ls K (List.map eD s19)), .un, .un, .un, .sl (fz K (eI many_17)), .un, .un]) s4 (ItG.is (w' := (grd (Rng many_17) (ret (span 0 (many_17).toNat)))) (it_range1 (ev_f (e := eI) many_17 rfl)) rfl) (fun _ h => nomatch h) (wk_mask [true, true, true, true, true, true, true, true, true, true, true] _) (fun x18 s19 => (tg_name (ltb rfl))) (fun x18 s19 kc20 => (sb_setN (S := fun r => ls K (List.map eD r)) (EvG.is (w' := (bnd (bnd (grd (Rng many_17) (ret (span 0 (many_17).toNat))) fun l23 => lcG (fun c22 => (ret true)) (fun c22 => (ret ((e3 eS eI eI) (("go" : Str), x18, c22)))) l23) fun x24 => grd (s19.length + x24.length ≤ 16777216) (ret (s19 ++ x24)))) (ev_opXX (ev_lX (e := eD) s19 (.inl rfl)) (EvG.rx (ev_lc (e := eI) (c := fun c22 => (ret true)) (f := fun c22 => (ret ((e3 eS eI eI) (("go" : Str), x18, c22)))) (ItG.is (w' := (grd (Rng many_17) (ret (span 0 (many_17).toNat)))) (it_range1 (ev_f (e := eI) many_17 rfl)) rfl) (fun c22 => (tg_name (ltb rfl))) (fun c22 => (EvT.is (w' := (ret true)) et_yes rfl)) (fun c22 => (EvG.is (w' := (ret ((e3 eS eI eI) (("go" : Str), x18, c22)))) (ev_data (e := (e3 eS eI eI)) (ev_tupS (fun x => (x.1, x.2.1, x.2.2.1)) (e3 eS eI eI) (es_f ev_str (es_f (ev_f (e := eI) x18 rfl) (es_f (ev_f (e := eI) c22 rfl) es_nil))) (fun _ => (AllF.cons (AllF.cons (AllF.cons AllF.nil)))) (fun _ => rfl) (fun _ => rfl))) rfl)))) (fun _ _ => o_catX _ _)) rfl) (ltb rfl) (fun found_25 => (Lands.wk (la_at found_25) (wk_mask [true, true, true, true, true, true, true, false, true, true, true] _))))) (fun s19 => (la_in (sb_seq (sb_setN (S := fun r => ls K (List.map eD r)) (EvG.is (w' := (bnd (bnd (grd (Rng many_17) (ret (span 0 (many_17).toNat))) fun l27 => lcG (fun c26 => (ret true)) (fun c26 => (ret ((e2 eS eI) (("out" : Str), c26)))) l27) fun x28 => grd (s19.length + x28.length ≤ 16777216) (ret (s19 ++ x28)))) (ev_opXX (ev_lX (e := eD) s19 (.inl rfl)) (EvG.rx (ev_lc (e := eI) (c := fun c26 => (ret true)) (f := fun c26 => (ret ((e2 eS eI) (("out" : Str), c26)))) (ItG.is (w' := (grd (Rng many_17) (ret (span 0 (many_17).toNat)))) (it_range1 (ev_f (e := eI) many_17 rfl)) rfl) (fun c26 => (tg_name (ltb rfl))) (fun c26 => (EvT.is (w' := (ret true)) et_yes rfl)) (fun c26 => (EvG.is (w' := (ret ((e2 eS eI) (("out" : Str), c26)))) (ev_data (e := (e2 eS eI)) (ev_tupS (fun x => (x.1, x.2.1)) (e2 eS eI) (es_f ev_str (es_f (ev_f (e := eI) c26 rfl) es_nil)) (fun _ => (AllF.cons (AllF.cons AllF.nil))) (fun _ => rfl) (fun _ => rfl))) rfl)))) (fun _ _ => o_catX _ _)) rfl) (ltb rfl) (fun found_29 => (la_in (sb_retSS (S := fun r => ls K (List.map eD r)) (ev_lc (e := eD) (c := fun c30 => (noX (l_allowed fabric_here state_here c30))) (f := fun c30 => (ret c30)) (ItG.is (w' := (ret found_29)) (it_var (e := eD) found_29 rfl) rfl) (fun c30 => (tg_name (ltb rfl))) (fun c30 => (EvT.is (w' := (noX (l_allowed fabric_here state_here c30))) (et_B (ev_callS eB (es_f (ev_f (e := (e2 (e2 eI (eT (e3 eI eI eI))) (eT (eT (eT eI))))) fabric_here rfl) (es_f (ev_f (e := (e2 eI (eT (eT (e2 eI eI))))) state_here rfl) (es_f (ev_f (e := eD) c30 rfl) es_nil))) (fun _ => rfl))) rfl)) (fun c30 => (EvG.is (w' := (ret c30)) (ev_f (e := eD) c30 rfl) rfl))) (fun _ => rfl))))))))))))))))))))))))))
end
end Cf
namespace Cf
open PySem PySem.Spec PyProof.Rows L2 WL
section
variable {P : Program} {w : World} {K : PySem.W.Frag} {mg : Str → Option Value} {base : Heap}
set_option maxHeartbeats 4000000
theorem ok_p_empty_state (T : Tx P K mg) : FnOk P w K mg base CX0 1 T.f_p_empty_state T.d_p_empty_state ["fabric"] (spN K (fun x : ((Int × (List (Int × Int × Int))) × (List (List (List Int)))) × Unit => [.d ((e2 (e2 eI (eT (e3 eI eI eI))) (eT (eT (eT eI)))) x.1)]) (fun x => p_empty_state x.1) (fun r : (Int × (List (List (Int × Int)))) => .fz ((e2 eI (eT (eT (e2 eI eI)))) r))) := by
  have S := sc_p_empty_state
  refine fn_n (N := nn_p_empty_state) T.F_p_empty_state S (fun _ => rfl) (fun cdv A outer s H E hr => ?_)
  refine ⟨_, (pss_one (ps_ret (pe_tup (pa_cons pe_int (pa_cons (pe_op (op_repTK (K := K) rfl) (pe_tup (pa_cons (pe_tup pa_nil) pa_nil)) (pe_callB (call_lenK (K := K) rfl) (by rfl) T.z_len (by decide +kernel) (pa_cons (pe_ix (ix_tupK (K := K) rfl) (pe_ix (ix_tupK (K := K) rfl) (pv 0) pe_int (fun _ _ => rfl)) pe_int (fun _ _ => rfl)) pa_nil))) pa_nil))))), ?_⟩
  rintro ⟨fabric, _⟩
  show SimB _ _ _ _ _ _ [.sl (fz K ((e2 (e2 eI (eT (e3 eI eI eI))) (eT (eT (eT eI)))) fabric))] (p_empty_state fabric)
  unfold p_empty_state
  exact (sb_retF (EvG.is (w' := (bnd (grd ([([] : (List (Int × Int)))] ≠ [] ∧ 2 ≤ (fabric.1.2.length : Int) ∧ (fabric.1.2.length : Int) ≤ 1000 ∧ [([] : (List (Int × Int)))].length ≤ 1000) (ret (repL [([] : (List (Int × Int)))] (fabric.1.2.length : Int)))) fun x1 => ret ((0 : Int), x1))) (ev_tupS (fun x => (x.1, x.2.1)) (e2 eI (eT (eT (e2 eI eI)))) (es_f ev_int (es_f (ev_opF (ev_tupS (fun x => [x.1]) (eT (eT (e2 eI eI))) (es_f (ev_tupS (fun x => []) (eT (e2 eI eI)) es_nil (fun _ => AllF.nil) (fun _ => rfl) (fun _ => rfl)) es_nil) (fun _ => (AllF.cons AllF.nil)) (fun _ => rfl) (fun _ => rfl)) (ev_b1F (ev_ixW (e' := (eT (e3 eI eI eI))) (fun a => a.2) 1 (ev_ixW (e' := (e2 eI (eT (e3 eI eI eI)))) (fun a => a.1) 0 (ev_f (e := (e2 (e2 eI (eT (e3 eI eI eI))) (eT (eT (eT eI))))) fabric rfl) rfl (fun _ => ⟨_, rfl, rfl⟩)) rfl (fun _ => ⟨_, rfl, rfl⟩)) (fun _ => c_lenT _)) (fun _ _ => o_repT _ _)) es_nil)) (fun _ => (AllF.cons (AllF.cons AllF.nil))) (fun _ => rfl) (fun _ => rfl)) rfl) (fun _ => rfl))
end
end Cf
namespace Cf
open PySem PySem.Spec PyProof.Rows L2 WL
section
variable {P : Program} {w : World} {K : PySem.W.Frag} {mg : Str → Option Value} {base : Heap}
set_option maxHeartbeats 4000000
theorem ok_x_NotPossible (T : Tx P K mg) : FnOk P w K mg base CX0 1 T.sf_NotPossible T.sd_NotPossible ["self", "number"] (spNum T.xa_NotPossible "number") := by
  refine fn_sup (k := 0) T.sF_NotPossible T.sp_NotPossible T.so_NotPossible ?a T.sn_NotPossible T.z_super ?b (by rfl) ?d ?e ?f ?g ?h ?i ?j rfl (fun env => ⟨_, rfl⟩)
  case a => exact NdefX.nscope_by (by decide +kernel)
  all_goals first | rfl | decide
end
end Cf
namespace Cf
open PySem PySem.Spec PyProof.Rows L2 WL
section
variable {P : Program} {w : World} {K : PySem.W.Frag} {mg : Str → Option Value} {base : Heap}
set_option maxHeartbeats 4000000
theorem ok_p_playX (T : Tx P K mg) : FnOk P w K mg base (L2.CX P w) 4 T.f_p_playX T.d_p_playX ["fabric", "state", "script"] (spX K (ctNum T.xa_NotPossible "number") (fun x : ((Int × (List (Int × Int × Int))) × (List (List (List Int)))) × (Int × (List (List (Int × Int)))) × (List PyData) × Unit => [.d ((e2 (e2 eI (eT (e3 eI eI eI))) (eT (eT (eT eI)))) x.1), .d ((e2 eI (eT (eT (e2 eI eI)))) x.2.1), .d ((eT eD) x.2.2.1)]) (fun x => p_playX x.1 x.2.1 x.2.2.1) (fun r : (Int × (List (List (Int × Int)))) => .fz ((e2 eI (eT (eT (e2 eI eI)))) r))) := by
  have S := sc_p_playX
  refine fn_x (N := nn_p_playX) T.F_p_playX S (fun _ => rfl) (fun cdv A outer s H E hr => ?_)
  refine ⟨_, (pss_cons (ps_for (passes_of rfl) rfl (pi_range1 (by rfl) T.z_range (pa_cons (pe_callB (call_lenK (K := K) rfl) (by rfl) T.z_len (by decide +kernel) (pa_cons (pv 2) pa_nil)) pa_nil)) (pg_name (i := 3) S.nd rfl (by first | exact .inl rfl | exact .inr rfl)) (pss_cons (ps_if (pt_not (pt_val (pe_call (ok_p_is_possible T) (hr.mono (by decide)) (by rfl) T.g_p_is_possible T.F_p_is_possible.kp T.b_p_is_possible .nil pass0 (pa_cons (pv 0) (pa_cons (pv 1) (pa_cons (pe_ix (ix_tupK (K := K) rfl) (pv 2) (pv 3) (fun _ _ => rfl)) pa_nil)))))) (pss_one (ps_raiseN (K := K) rfl T.so_NotPossible.o T.si_NotPossible T.st_NotPossible (ok_x_NotPossible T) (hr.mono (by decide)) T.sb_NotPossible (by rfl) T.sg_NotPossible rfl (takes_of rfl rfl rfl rfl) (pv 3))) pss_nil)
      (pss_one (ps_set (i := 1) S.nd rfl (by first | exact .inl rfl | exact .inr rfl) (pe_call (ok_p_moved T) (hr.mono (by decide)) (by rfl) T.g_p_moved T.F_p_moved.kp T.b_p_moved .nil pass0 (pa_cons (pv 1) (pa_cons (pe_ix (ix_tupK (K := K) rfl) (pv 2) (pv 3) (fun _ _ => rfl)) pa_nil)))))))
      (pss_one (ps_ret (pv 1)))), ?_⟩
  rintro ⟨fabric, state, script, _⟩
  show SimB _ _ _ _ _ _ [.sl (fz K ((e2 (e2 eI (eT (e3 eI eI eI))) (eT (eT (eT eI)))) fabric)), .sl (fz K ((e2 eI (eT (eT (e2 eI eI)))) state)), .sl (fz K ((eT eD) script)), .un] (p_playX fabric state script)
  unfold p_playX
  exact (sb_seq (sb_for (S := ((Int × (List (List (Int × Int)))))) (e := eI) (Γh := fun s2 => [.sl (fz K ((e2 (e2 eI (eT (e3 eI eI eI))) (eT (eT (eT eI)))) fabric)), .sl (fz K ((e2 eI (eT (eT (e2 eI eI)))) s2)), .sl (fz K ((eT eD) script)), .un]) state (ItG.is (w' := (grd (Rng (script.length : Int)) (ret (span 0 ((script.length : Int)).toNat)))) (it_range1 (ev_b1F (ev_f (e := (eT eD)) script rfl) (fun _ => c_lenT _))) rfl) (fun _ h => nomatch h) (wk_mask [true, true, true, true] _) (fun x1 s2 => (tg_name (ltb rfl))) (fun x1 s2 kc3 => (sb_seq (sb_if (EvT.is (w' := (bnd (bnd (opt (atI script x1)) fun x5 => noX (p_is_possible fabric s2 x5)) fun x6 => ret (!x6))) (et_not (et_B (ev_callS eB (es_f (ev_f (e := (e2 (e2 eI (eT (e3 eI eI eI))) (eT (eT (eT eI))))) fabric rfl) (es_f (ev_f (e := (e2 eI (eT (eT (e2 eI eI))))) s2 rfl) (es_f (ev_opF (ev_f (e := (eT eD)) script rfl) (ev_f (e := eI) x1 rfl) (fun _ _ => o_ixT _ _)) es_nil))) (fun _ => rfl)))) rfl) (sb_raiseN 0 rfl rfl (EvG.is (w' := (ret x1)) (ev_f (e := eI) x1 rfl) rfl)) (sb_next (la_in (sb_set (e := (e2 eI (eT (eT (e2 eI eI))))) (EvG.is (w' := (bnd (opt (atI script x1)) fun x8 => noX (p_moved s2 x8))) (ev_callS (e2 eI (eT (eT (e2 eI eI)))) (es_f (ev_f (e := (e2 eI (eT (eT (e2 eI eI))))) s2 rfl) (es_f (ev_opF (ev_f (e := (eT eD)) script rfl) (ev_f (e := eI) x1 rfl) (fun _ _ => o_ixT _ _)) es_nil)) (fun _ => rfl)) rfl) (ltb rfl) (fun state_9 => (Lands.wk (la_at state_9) (wk_mask [true, true, true, false] _))))))))) (fun s2 => (la_in (sb_retF (EvG.is (w' := (ret s2)) (ev_f (e := (e2 eI (eT (eT (e2 eI eI))))) s2 rfl) rfl) (fun _ => rfl))))))
end
end Cf
namespace Cf
open PySem PySem.Spec PyProof.Rows L2 WL
section
variable {P : Program} {w : World} {K : PySem.W.Frag} {mg : Str → Option Value} {base : Heap}
set_option maxHeartbeats 4000000
theorem ok_p_possible_steps (T : Tx P K mg) : FnOk P w K mg base CX0 4 T.f_p_possible_steps T.d_p_possible_steps ["fabric", "state"] (spN K (fun x : ((Int × (List (Int × Int × Int))) × (List (List (List Int)))) × (Int × (List (List (Int × Int)))) × Unit => [.d ((e2 (e2 eI (eT (e3 eI eI eI))) (eT (eT (eT eI)))) x.1), .d ((e2 eI (eT (eT (e2 eI eI)))) x.2.1)]) (fun x => p_possible_steps x.1 x.2.1) (fun r : (List PyData) => .nw (ls K (List.map eD r)))) := by
  have S := sc_p_possible_steps
  refine fn_n (N := nn_p_possible_steps) T.F_p_possible_steps S (fun _ => rfl) (fun cdv A outer s H E hr => ?_)
  refine ⟨_, (pss_cons (ps_set (i := 2) S.nd rfl (by first | exact .inl rfl | exact .inr rfl) (pe_ix (ix_tupK (K := K) rfl) (pv 0) pe_int (fun _ _ => rfl)))
      (pss_cons (ps_set (i := 3) S.nd rfl (by first | exact .inl rfl | exact .inr rfl) (pe_lst pa_nil))
      (pss_cons (ps_for PassesOwn.never rfl (pi_range1 (by rfl) T.z_range (pa_cons (pe_callB (call_lenK (K := K) rfl) (by rfl) T.z_len (by decide +kernel) (pa_cons (pv 2) pa_nil)) pa_nil)) (pg_name (i := 4) S.nd rfl (by first | exact .inl rfl | exact .inr rfl)) (pss_one (ps_for PassesOwn.never rfl (pi_range1 (by rfl) T.z_range (pa_cons (pe_callB (call_lenK (K := K) rfl) (by rfl) T.z_len (by decide +kernel) (pa_cons (pv 2) pa_nil)) pa_nil)) (pg_name (i := 5) S.nd rfl (by first | exact .inl rfl | exact .inr rfl)) (pss_one (ps_set (i := 3) S.nd rfl (by first | exact .inl rfl | exact .inr rfl) (pe_op op_cat (pv 3) (pe_lc (own := [("c", 6)]) rfl S.nd (pi_tupK (K := K) rfl (pe_ix (ix_tupK (K := K) rfl) (pe_ix (ix_tupK (K := K) rfl) (pv 2) (pv 4) (fun _ _ => rfl)) (pv 5) (fun _ _ => rfl))) (blkOk_by (N := nn_p_possible_steps) (sc := (defScope s_p_possible_steps)) (own := [("c", 6)]) (by decide +kernel)) (fun _ _ _ _ _ => (pg_name (i := 6) S.nd rfl (by first | exact .inl rfl | exact .inr rfl))) (fun _ _ _ _ _ => pts_nil) (fun _ _ _ _ _ => (pe_tup (pa_cons pe_str (pa_cons (pv 4) (pa_cons (pv 5) (pa_cons (pv 6) pa_nil)))))))))))))
      (pss_cons (ps_for PassesOwn.never rfl (pi_range1 (by rfl) T.z_range (pa_cons (pe_callB (call_lenK (K := K) rfl) (by rfl) T.z_len (by decide +kernel) (pa_cons (pe_ix (ix_tupK (K := K) rfl) (pv 1) pe_int (fun _ _ => rfl)) pa_nil)) pa_nil)) (pg_name (i := 6) S.nd rfl (by first | exact .inl rfl | exact .inr rfl)) (pss_one (ps_set (i := 3) S.nd rfl (by first | exact .inl rfl | exact .inr rfl) (pe_op op_cat (pv 3) (pe_lc (own := [("c2", 7)]) rfl S.nd (pi_tupK (K := K) rfl (pe_call (ok_p_next_options T) (hr.mono (by decide)) (by rfl) T.g_p_next_options T.F_p_next_options.kp T.b_p_next_options .nil pass0 (pa_cons (pv 0) (pa_cons (pv 1) (pa_cons (pv 6) pa_nil))))) (blkOk_by (N := nn_p_possible_steps) (sc := (defScope s_p_possible_steps)) (own := [("c2", 7)]) (by decide +kernel)) (fun _ _ _ _ _ => (pg_name (i := 7) S.nd rfl (by first | exact .inl rfl | exact .inr rfl))) (fun _ _ _ _ _ => pts_nil) (fun _ _ _ _ _ => (pe_tup (pa_cons pe_str (pa_cons (pv 6) (pa_cons (pv 7) pa_nil))))))))))
      (pss_cons (ps_set (i := 3) S.nd rfl (by first | exact .inl rfl | exact .inr rfl) (pe_op op_cat (pv 3) (pe_lc (own := [("c", 6)]) rfl S.nd (pi_range1 (by rfl) T.z_range (pa_cons (pe_callB (call_lenK (K := K) rfl) (by rfl) T.z_len (by decide +kernel) (pa_cons (pe_ix (ix_tupK (K := K) rfl) (pv 1) pe_int (fun _ _ => rfl)) pa_nil)) pa_nil)) (blkOk_by (N := nn_p_possible_steps) (sc := (defScope s_p_possible_steps)) (own := [("c", 6)]) (by decide +kernel)) (fun _ _ _ _ _ => (pg_name (i := 6) S.nd rfl (by first | exact .inl rfl | exact .inr rfl))) (fun _ _ _ _ _ => pts_nil) (fun _ _ _ _ _ => (pe_tup (pa_cons pe_str (pa_cons (pv 6) pa_nil)))))))
      (pss_one (ps_ret (pe_lc (own := [("step", 8)]) rfl S.nd (pi_listK (K := K) rfl (pv 3)) (blkOk_by (N := nn_p_possible_steps) (sc := (defScope s_p_possible_steps)) (own := [("step", 8)]) (by decide +kernel)) (fun _ _ _ _ _ => (pg_name (i := 8) S.nd rfl (by first | exact .inl rfl | exact .inr rfl))) (fun _ _ _ _ _ => (pts_one (pt_val (pe_call (ok_p_is_possible T) (hr.mono (by decide)) (by rfl) T.g_p_is_possible T.F_p_is_possible.kp T.b_p_is_possible .nil pass0 (pa_cons (pv 0) (pa_cons (pv 1) (pa_cons (pv 8) pa_nil))))))) (fun _ _ _ _ _ => (pv 8)))))))))), ?_⟩
  rintro ⟨fabric, state, _⟩
  show SimB _ _ _ _ _ _ [.sl (fz K ((e2 (e2 eI (eT (e3 eI eI eI))) (eT (eT (eT eI)))) fabric)), .sl (fz K ((e2 eI (eT (eT (e2 eI eI)))) state)), .un, .un, .un, .un, .un, .un, .un] (p_possible_steps fabric state)
  unfold p_possible_steps
  exact (sb_seq (sb_set (e := (eT (eT (eT eI)))) (EvG.is (w' := (ret fabric.2)) (ev_ixW (e' := (eT (eT (eT eI)))) (fun a => a.2) 1 (ev_f (e := (e2 (e2 eI (eT (e3 eI eI eI))) (eT (eT (eT eI))))) fabric rfl) rfl (fun _ => ⟨_, rfl, rfl⟩)) rfl) (ltb rfl) (fun table_1 => (la_in (sb_seq (sb_setN (S := fun r => ls K (List.map eD r)) (EvG.is (w' := (ret ([] : List PyData))) (ev_lstS (fun _ => ([] : List PyData)) eD es_nil (fun _ => AllF.nil) (fun _ => rfl) (fun _ => rfl)) rfl) (ltb rfl) (fun steps_2 => (la_in (sb_seq (sb_for (S := ((List PyData))) (e := eI) (Γh := fun s4 => [.sl (fz K ((e2 (e2 eI (eT (e3 eI eI eI))) (eT (eT (eT eI)))) fabric)), .sl (fz K ((e2 eI (eT (eT (e2 eI eI)))) state)), .sl (fz K ((eT (eT (eT eI))) table_1)), .sl (ls K (List.map eD s4)), .un, .un, .un, .un, .un]) steps_2 (ItG.is (w' := (grd (Rng (table_1.length : Int)) (ret (span 0 ((table_1.length : Int)).toNat)))) (it_range1 (ev_b1F (ev_f (e := (eT (eT (eT eI)))) table_1 rfl) (fun _ => c_lenT _))) rfl) (fun _ h => nomatch h) (wk_mask [true, true, true, true, true, true, true, true, true] _) (fun x3 s4 => (tg_name (ltb rfl))) (fun x3 s4 kc5 => (sb_for (S := ((List PyData))) (e := eI) (Γh := fun s8 => [.sl (fz K ((e2 (e2 eI (eT (e3 eI eI eI))) (eT (eT (eT eI)))) fabric)), .sl (fz K ((e2 eI (eT (eT (e2 eI eI)))) state)), .sl (fz K ((eT (eT (eT eI))) table_1)), .sl (ls K (List.map eD s8)), .sl (fz K (eI x3)), .un, .un, .un, .un]) s4 (ItG.is (w' := (grd (Rng (table_1.length : Int)) (ret (span 0 ((table_1.length : Int)).toNat)))) (it_range1 (ev_b1F (ev_f (e := (eT (eT (eT eI)))) table_1 rfl) (fun _ => c_lenT _))) rfl) (fun _ h => nomatch h) (wk_mask [true, true, true, true, true, true, true, true, true] _) (fun x7 s8 => (tg_name (ltb rfl))) (fun x7 s8 kc9 => (sb_setN (S := fun r => ls K (List.map eD r)) (EvG.is (w' := (bnd (bnd (bnd (opt (atI table_1 x3)) fun x11 => opt (atI x11 x7)) fun l13 => lcG (fun c12 => (ret true)) (fun c12 => (ret ((e4 eS eI eI eI) (("put" : Str), x3, x7, c12)))) l13) fun x14 => grd (s8.length + x14.length ≤ 16777216) (ret (s8 ++ x14)))) (ev_opXX (ev_lX (e := eD) s8 (.inl rfl)) (EvG.rx (ev_lc (e := eI) (c := fun c12 => (ret true)) (f := fun c12 => (ret ((e4 eS eI eI eI) (("put" : Str), x3, x7, c12)))) (ItG.is (w' := (bnd (opt (atI table_1 x3)) fun x11 => opt (atI x11 x7))) (it_tup (ev_opF (ev_opF (ev_f (e := (eT (eT (eT eI)))) table_1 rfl) (ev_f (e := eI) x3 rfl) (fun _ _ => o_ixT _ _)) (ev_f (e := eI) x7 rfl) (fun _ _ => o_ixT _ _))) rfl) (fun c12 => (tg_name (ltb rfl))) (fun c12 => (EvT.is (w' := (ret true)) et_yes rfl)) (fun c12 => (EvG.is (w' := (ret ((e4 eS eI eI eI) (("put" : Str), x3, x7, c12)))) (ev_data (e := (e4 eS eI eI eI)) (ev_tupS (fun x => (x.1, x.2.1, x.2.2.1, x.2.2.2.1)) (e4 eS eI eI eI) (es_f ev_str (es_f (ev_f (e := eI) x3 rfl) (es_f (ev_f (e := eI) x7 rfl) (es_f (ev_f (e := eI) c12 rfl) es_nil)))) (fun _ => (AllF.cons (AllF.cons (AllF.cons (AllF.cons AllF.nil))))) (fun _ => rfl) (fun _ => rfl))) rfl)))) (fun _ _ => o_catX _ _)) (by simp only [ret_bnd, bnd_bnd, mapW_bnd, mapW_ret] <;> rfl)) (ltb rfl) (fun steps_15 => (Lands.wk (la_at steps_15) (wk_mask [true, true, true, true, true, false, true, true, true] _))))) (fun s8 => (Lands.wk (la_at s8) (wk_mask [true, true, true, true, false, true, true, true, true] _))))) (fun s4 => (la_in (sb_seq (sb_for (S := ((List PyData))) (e := eI) (Γh := fun s18 => [.sl (fz K ((e2 (e2 eI (eT (e3 eI eI eI))) (eT (eT (eT eI)))) fabric)), .sl (fz K ((e2 eI (eT (eT (e2 eI eI)))) state)), .sl (fz K ((eT (eT (eT eI))) table_1)), .sl (ls K (List.map eD s18)), .un, .un, .un, .un, .un]) s4 (ItG.is (w' := (grd (Rng (state.2.length : Int)) (ret (span 0 ((state.2.length : Int)).toNat)))) (it_range1 (ev_b1F (ev_ixW (e' := (eT (eT (e2 eI eI)))) (fun a => a.2) 1 (ev_f (e := (e2 eI (eT (eT (e2 eI eI))))) state rfl) rfl (fun _ => ⟨_, rfl, rfl⟩)) (fun _ => c_lenT _))) rfl) (fun _ h => nomatch h) (wk_mask [true, true, true, true, true, true, true, true, true] _) (fun x17 s18 => (tg_name (ltb rfl))) (fun x17 s18 kc19 => (sb_setN (S := fun r => ls K (List.map eD r)) (EvG.is (w' := (bnd (bnd (noX (p_next_options fabric state x17)) fun l22 => lcG (fun c21 => (ret true)) (fun c21 => (ret ((e3 eS eI eI) (("go" : Str), x17, c21)))) l22) fun x23 => grd (s18.length + x23.length ≤ 16777216) (ret (s18 ++ x23)))) (ev_opXX (ev_lX (e := eD) s18 (.inl rfl)) (EvG.rx (ev_lc (e := eI) (c := fun c21 => (ret true)) (f := fun c21 => (ret ((e3 eS eI eI) (("go" : Str), x17, c21)))) (ItG.is (w' := (noX (p_next_options fabric state x17))) (it_tup (ev_callS (eT eI) (es_f (ev_f (e := (e2 (e2 eI (eT (e3 eI eI eI))) (eT (eT (eT eI))))) fabric rfl) (es_f (ev_f (e := (e2 eI (eT (eT (e2 eI eI))))) state rfl) (es_f (ev_f (e := eI) x17 rfl) es_nil))) (fun _ => rfl))) rfl) (fun c21 => (tg_name (ltb rfl))) (fun c21 => (EvT.is (w' := (ret true)) et_yes rfl)) (fun c21 => (EvG.is (w' := (ret ((e3 eS eI eI) (("go" : Str), x17, c21)))) (ev_data (e := (e3 eS eI eI)) (ev_tupS (fun x => (x.1, x.2.1, x.2.2.1)) (e3 eS eI eI) (es_f ev_str (es_f (ev_f (e := eI) x17 rfl) (es_f (ev_f (e := eI) c21 rfl) es_nil))) (fun _ => (AllF.cons (AllF.cons (AllF.cons AllF.nil)))) (fun _ => rfl) (fun _ => rfl))) rfl)))) (fun _ _ => o_catX _ _)) rfl) (ltb rfl) (fun steps_24 => (Lands.wk (la_at steps_24) (wk_mask [true, true, true, true, true, true, false, true, true] _))))) (fun s18 => (la_in (sb_seq (sb_setN (S := fun r => ls K (List.map eD r)) (EvG.is (w' := (bnd (bnd (grd (Rng (state.2.length : Int)) (ret (span 0 ((state.2.length : Int)).toNat))) fun l26 => lcG (fun c25 => (ret true)) (fun c25 => (ret ((e2 eS eI) (("out" : Str), c25)))) l26) fun x27 => grd (s18.length + x27.length ≤ 16777216) (ret (s18 ++ x27)))) (ev_opXX (ev_lX (e := eD) s18 (.inl rfl)) (EvG.rx (ev_lc (e := eI) (c := fun c25 => (ret true)) (f := fun c25 => (ret ((e2 eS eI) (("out" : Str), c25)))) (ItG.is (w' := (grd (Rng (state.2.length : Int)) (ret (span 0 ((state.2.length : Int)).toNat)))) (it_range1 (ev_b1F (ev_ixW (e' := (eT (eT (e2 eI eI)))) (fun a => a.2) 1 (ev_f (e := (e2 eI (eT (eT (e2 eI eI))))) state rfl) rfl (fun _ => ⟨_, rfl, rfl⟩)) (fun _ => c_lenT _))) rfl) (fun c25 => (tg_name (ltb rfl))) (fun c25 => (EvT.is (w' := (ret true)) et_yes rfl)) (fun c25 => (EvG.is (w' := (ret ((e2 eS eI) (("out" : Str), c25)))) (ev_data (e := (e2 eS eI)) (ev_tupS (fun x => (x.1, x.2.1)) (e2 eS eI) (es_f ev_str (es_f (ev_f (e := eI) c25 rfl) es_nil)) (fun _ => (AllF.cons (AllF.cons AllF.nil))) (fun _ => rfl) (fun _ => rfl))) rfl)))) (fun _ _ => o_catX _ _)) rfl) (ltb rfl) (fun steps_28 => (la_in (sb_retSS (S := fun r => ls K (List.map eD r)) (ev_lc (e := eD) (c := fun c29 => (noX (p_is_possible fabric state c29))) (f := fun c29 => (ret c29)) (ItG.is (w' := (ret steps_28)) (it_var (e := eD) steps_28 rfl) rfl) (fun c29 => (tg_name (ltb rfl))) (fun c29 => (EvT.is (w' := (noX (p_is_possible fabric state c29))) (et_B (ev_callS eB (es_f (ev_f (e := (e2 (e2 eI (eT (e3 eI eI eI))) (eT (eT (eT eI))))) fabric rfl) (es_f (ev_f (e := (e2 eI (eT (eT (e2 eI eI))))) state rfl) (es_f (ev_f (e := eD) c29 rfl) es_nil))) (fun _ => rfl))) rfl)) (fun c29 => (EvG.is (w' := (ret c29)) (ev_f (e := eD) c29 rfl) rfl))) (fun _ => rfl))))))))))))))))))))))
end
end Cf
namespace Cf
open PySem PySem.Spec PyProof.Rows L2 WL
section
variable {P : Program} {w : World} {K : PySem.W.Frag} {mg : Str → Option Value} {base : Heap}
set_option maxHeartbeats 4000000
theorem ok_law30 (T : Tx P K mg) (hn : ∀ ns z, 1 ≤ z → z ≤ 1000 → l_numbers ns z (fun v => v ≠ [] ∧ v.length ≤ 1000 ∧ ∀ c ∈ v, 0 ≤ c) (fun _ => False)) (hm : law30 (fun b => b = true) (fun _ => False)) : FnOk P w K mg base CX0 6 T.f_law30 T.d_law30 ["_law_script"] (spLaw K) := by
  have S := sc_law30
  refine T.F_law30.ok S (fun vs H Q E h => by obtain ⟨p, ns, rfl, _⟩ := h; rfl) (fun cdv A outer s H vs Q E hr h => ?_)
  obtain ⟨p, ns, rfl, hs, q⟩ := h
  refine ⟨_, (pss_cons (ps_set (i := 1) S.nd rfl (by first | exact .inl rfl | exact .inr rfl) (pe_call (ok_l_draws T hn) (hr.mono (by decide)) (by rfl) T.g_l_draws T.F_l_draws.kp T.b_l_draws .nil pass0 (pa_cons (pv 0) (pa_cons pe_int pa_nil))))
    (pss_cons (ps_set (i := 2) S.nd rfl (by first | exact .inl rfl | exact .inr rfl) (pe_call (ok_l_fabric2 T) (hr.mono (by decide)) (by rfl) T.g_l_fabric2 T.F_l_fabric2.kp T.b_l_fabric2 .nil pass0 (pa_cons (pv 1) (pa_cons pe_int (pa_cons pe_int pa_nil)))))
      (pss_cons (ps_set (i := 3) S.nd rfl (by first | exact .inl rfl | exact .inr rfl) (pe_tup (pa_cons pe_int (pa_cons (pe_op (op_repTK (K := K) rfl) (pe_tup (pa_cons (pe_tup pa_nil) pa_nil)) (pe_callB (call_lenK (K := K) rfl) (by rfl) T.z_len (by decide +kernel) (pa_cons (pe_ix (ix_tupK (K := K) rfl) (pe_ix (ix_tupK (K := K) rfl) (pv 2) pe_int (fun _ _ => rfl)) pe_int (fun _ _ => rfl)) pa_nil))) pa_nil))))
      (pss_cons (ps_if (pt_cmpR (op_neDK (K := K) rfl hr.units) (pe_call (ok_p_empty_state T) (hr.mono (by decide)) (by rfl) T.g_p_empty_state T.F_p_empty_state.kp T.b_p_empty_state .nil pass0 (pa_cons (pv 2) pa_nil)) (pv 3) (nomark _)) (pss_one (ps_ret pe_bl)) pss_nil)
      (pss_cons (ps_set (i := 4) S.nd rfl (by first | exact .inl rfl | exact .inr rfl) (pe_lst pa_nil))
      (pss_cons (ps_for PassesOwn.never rfl (pi_range1 (by rfl) T.z_range (pa_cons (pe_call (ok_l_take T) (hr.mono (by decide)) (by rfl) T.g_l_take T.F_l_take.kp T.b_l_take .nil pass0 (pa_cons (pv 1) (pa_cons pe_int pa_nil))) pa_nil)) (pg_name (i := 5) S.nd rfl (by first | exact .inl rfl | exact .inr rfl)) (pss_cons (ps_set (i := 6) S.nd rfl (by first | exact .inl rfl | exact .inr rfl) (pe_call (ok_l_steps T) (hr.mono (by decide)) (by rfl) T.g_l_steps T.F_l_steps.kp T.b_l_steps .nil pass0 (pa_cons (pv 2) (pa_cons (pv 3) pa_nil))))
      (pss_cons (ps_if (PW.pt (pw_or (pt_cmpR (op_neDK (K := K) rfl hr.units) (pe_call (ok_p_possible_steps T) (hr.mono (by decide)) (by rfl) T.g_p_possible_steps T.F_p_possible_steps.kp T.b_p_possible_steps .nil pass0 (pa_cons (pv 2) (pa_cons (pv 3) pa_nil))) (pv 6) (nomark _)) (pw_or1 (pt_not (pt_val (pe_call (ok_l_seen T) (hr.mono (by decide)) (by rfl) T.g_l_seen T.F_l_seen.kp T.b_l_seen .nil pass0 (pa_cons (pv 2) (pa_cons (pv 3) pa_nil)))))))) (pss_one (ps_ret pe_bl)) pss_nil)
      (pss_cons (ps_set (i := 7) S.nd rfl (by first | exact .inl rfl | exact .inr rfl) (pe_call (ok_l_any_step T) (hr.mono (by decide)) (by rfl) T.g_l_any_step T.F_l_any_step.kp T.b_l_any_step .nil pass0 (pa_cons (pv 1) (pa_cons (pv 2) pa_nil))))
      (pss_cons (ps_if (PW.pt (pw_and (pt_cmpR (op_neDK (K := K) rfl hr.units) (pv 6) (pe_lst pa_nil) (nomark _)) (pw_and1 (pt_cmpR op_gt (pe_call (ok_l_take T) (hr.mono (by decide)) (by rfl) T.g_l_take T.F_l_take.kp T.b_l_take .nil pass0 (pa_cons (pv 1) (pa_cons pe_int pa_nil))) pe_int (nomark _))))) (pss_one (ps_set (i := 7) S.nd rfl (by first | exact .inl rfl | exact .inr rfl) (pe_ix (ix_listK (K := K) rfl) (pv 6) (pe_call (ok_l_take T) (hr.mono (by decide)) (by rfl) T.g_l_take T.F_l_take.kp T.b_l_take .nil pass0 (pa_cons (pv 1) (pa_cons (pe_callB (call_lenK (K := K) rfl) (by rfl) T.z_len (by decide +kernel) (pa_cons (pv 6) pa_nil)) pa_nil))) (fun _ _ => rfl)))) pss_nil)
      (pss_cons (ps_set (i := 8) S.nd rfl (by first | exact .inl rfl | exact .inr rfl) (pe_call (ok_l_allowed T) (hr.mono (by decide)) (by rfl) T.g_l_allowed T.F_l_allowed.kp T.b_l_allowed .nil pass0 (pa_cons (pv 2) (pa_cons (pv 3) (pa_cons (pv 7) pa_nil)))))
      (pss_cons (ps_if (pt_cmpR op_ne (pe_call (ok_p_is_possible T) (hr.mono (by decide)) (by rfl) T.g_p_is_possible T.F_p_is_possible.kp T.b_p_is_possible .nil pass0 (pa_cons (pv 2) (pa_cons (pv 3) (pa_cons (pv 7) pa_nil)))) (pv 8) (nomark _)) (pss_one (ps_ret pe_bl)) pss_nil)
      (pss_one (ps_if (pt_not (pt_val (pv 8))) (pss_cons (ps_if (pt_not (pt_val (pe_call (ok_l_refused T) (hr.mono (by decide)) (by rfl) T.g_l_refused T.F_l_refused.kp T.b_l_refused .nil pass0 (pa_cons (pv 2) (pa_cons (pv 3) (pa_cons (pv 7) pa_nil)))))) (pss_one (ps_ret pe_bl)) pss_nil)
      (pss_one (ps_tryN (K := K) (Dc := T.xa_NotPossible) (i := 9) rfl rfl rfl S.nd rfl (by rfl) ⟨by exact rfl, by decide, Or.inl T.sg_NotPossible⟩ (fun W pn xe tk => (pss_cons (ps_expr (pe_callS (ok_p_playX T) (hr.mono (by decide)) (by rfl) T.g_p_playX T.F_p_playX.kp T.b_p_playX (fun σ => passAt tk σ) (pa_cons (pv 2) (pa_cons (pe_call (ok_p_empty_state T) (hr.mono (by decide)) (by rfl) T.g_p_empty_state T.F_p_empty_state.kp T.b_p_empty_state .nil pass0 (pa_cons (pv 2) pa_nil)) (pa_cons (pe_op (op_catK (K := K) rfl) (pe_callTy (call_tupK (K := K) rfl) (by rfl) T.z_tuple (by decide +kernel) (pa_cons (pv 4) pa_nil)) (pe_tup (pa_cons (pv 7) (pa_cons (pe_tup (pa_cons pe_str (pa_cons pe_int pa_nil))) pa_nil)))) pa_nil)))))
      (pss_one (ps_ret pe_bl)))) (fun a oe dd pn hz hf => (pss_one (ps_if (PW.pt (pw_or (pt_cmpR op_ne (pe_xfK (K := K) rfl T.sxf_NotPossible T.sn_NotPossible hz hf (pv 9)) (pe_callB (call_lenK (K := K) rfl) (by rfl) T.z_len (by decide +kernel) (pa_cons (pv 4) pa_nil)) (nomark _)) (pw_or1 (pt_not (pt_val (pe_callB (call_isN (K := K) rfl T.xq_NotPossible hz hf) (by rfl) T.z_isinstance (by decide +kernel) (pa_cons (pv 9) (pa_cons (pe_glob (by rfl) T.xc_FabricError.g (show RelV (.ref T.xa_FabricError) _ from rfl)) pa_nil)))))))) (pss_one (ps_ret pe_bl)) pss_nil)))))) (pss_cons (ps_expr (pe_bm PySem.F.plainAttrs_list PySem.F.slot_list_append PySem.F.type_list_append mt_append (pv 4) (pa_cons (pv 7) pa_nil)))
      (pss_cons (ps_if (pt_cmpR (op_neDK (K := K) rfl hr.units) (pe_callS (ok_p_afterX T) (hr.mono (by decide)) (by rfl) T.g_p_afterX T.F_p_afterX.kp T.b_p_afterX (fun σ => passAt takes0 σ) (pa_cons (pv 2) (pa_cons (pv 3) (pa_cons (pv 7) pa_nil)))) (pe_call (ok_l_behind T) (hr.mono (by decide)) (by rfl) T.g_l_behind T.F_l_behind.kp T.b_l_behind .nil pass0 (pa_cons (pv 3) (pa_cons (pv 7) pa_nil))) (nomark _)) (pss_one (ps_ret pe_bl)) pss_nil)
      (pss_one (ps_set (i := 3) S.nd rfl (by first | exact .inl rfl | exact .inr rfl) (pe_call (ok_l_behind T) (hr.mono (by decide)) (by rfl) T.g_l_behind T.F_l_behind.kp T.b_l_behind .nil pass0 (pa_cons (pv 3) (pa_cons (pv 7) pa_nil))))))))))))))))
      (pss_one (ps_ret (pe_cmpR (op_eqDK (K := K) rfl hr.units) (pe_callS (ok_p_playX T) (hr.mono (by decide)) (by rfl) T.g_p_playX T.F_p_playX.kp T.b_p_playX (fun σ => passAt takes0 σ) (pa_cons (pv 2) (pa_cons (pe_call (ok_p_empty_state T) (hr.mono (by decide)) (by rfl) T.g_p_empty_state T.F_p_empty_state.kp T.b_p_empty_state .nil pass0 (pa_cons (pv 2) pa_nil)) (pa_cons (pe_callTy (call_tupK (K := K) rfl) (by rfl) T.z_tuple (by decide +kernel) (pa_cons (pv 4) pa_nil)) pa_nil)))) (pv 3) (nomark _)))))))))), ?_⟩
  refine seq_via (fun σ' H' => ∃ a fq, σ' = some (.ref p) :: some (.ref a) :: List.replicate 8 none ∧ tape2.own H' (.ref a) fq) (fun N hN => ⟨_, rfl, p, ns, (260 : Int), rfl, hs, by decide, by decide, fun H' a fq _ ho => hN _ _ ⟨a, fq, rfl, ho⟩⟩) ?_
  rintro σ' H' ⟨a, fq, rfl, ho⟩
  refine law_runS (S := tape2) (K := K) (n := 8) (m := law30) ?_ hm True.intro ho q
  show SimB _ _ _ _ _ _ [.un, .tp tape2, .un, .un, .un, .un, .un, .un, .un, .un] (law30)
  unfold law30
  exact (sb_seq (sb_set (e := (e2 (e2 eI (eT (e3 eI eI eI))) (eT (eT (eT eI))))) (EvG.is (w' := (noX (l_fabric2 (9 : Int) (3 : Int)))) (ev_callS (e2 (e2 eI (eT (e3 eI eI eI))) (eT (eT (eT eI)))) (es_t (ev_t (S := tape2) rfl) (es_f ev_int (es_f ev_int es_nil))) (fun _ => rfl)) rfl) (ltb rfl) (fun fabric_here_1 => (la_in (sb_seq (sb_set (e := (e2 eI (eT (eT (e2 eI eI))))) (EvG.is (w' := (bnd (grd ([([] : (List (Int × Int)))] ≠ [] ∧ 2 ≤ (fabric_here_1.1.2.length : Int) ∧ (fabric_here_1.1.2.length : Int) ≤ 1000 ∧ [([] : (List (Int × Int)))].length ≤ 1000) (ret (repL [([] : (List (Int × Int)))] (fabric_here_1.1.2.length : Int)))) fun x2 => ret ((0 : Int), x2))) (ev_tupS (fun x => (x.1, x.2.1)) (e2 eI (eT (eT (e2 eI eI)))) (es_f ev_int (es_f (ev_opF (ev_tupS (fun x => [x.1]) (eT (eT (e2 eI eI))) (es_f (ev_tupS (fun x => []) (eT (e2 eI eI)) es_nil (fun _ => AllF.nil) (fun _ => rfl) (fun _ => rfl)) es_nil) (fun _ => (AllF.cons AllF.nil)) (fun _ => rfl) (fun _ => rfl)) (ev_b1F (ev_ixW (e' := (eT (e3 eI eI eI))) (fun a => a.2) 1 (ev_ixW (e' := (e2 eI (eT (e3 eI eI eI)))) (fun a => a.1) 0 (ev_f (e := (e2 (e2 eI (eT (e3 eI eI eI))) (eT (eT (eT eI))))) fabric_here_1 rfl) rfl (fun _ => ⟨_, rfl, rfl⟩)) rfl (fun _ => ⟨_, rfl, rfl⟩)) (fun _ => c_lenT _)) (fun _ _ => o_repT _ _)) es_nil)) (fun _ => (AllF.cons (AllF.cons AllF.nil))) (fun _ => rfl) (fun _ => rfl)) rfl) (ltb rfl) (fun state_here_3 => (la_in (sb_seq (sb_if (EvT.is (w' := (bnd (noX (p_empty_state fabric_here_1)) fun x4 => eqWN ((e2 eI (eT (eT (e2 eI eI)))) x4) ((e2 eI (eT (eT (e2 eI eI)))) state_here_3))) (et_test (ev_opF (ev_callS (e2 eI (eT (eT (e2 eI eI)))) (es_f (ev_f (e := (e2 (e2 eI (eT (e3 eI eI eI))) (eT (eT (eT eI))))) fabric_here_1 rfl) es_nil) (fun _ => rfl)) (ev_f (e := (e2 eI (eT (eT (e2 eI eI))))) state_here_3 rfl) (fun _ _ => o_neDW _ _))) rfl) (sb_retF (EvG.is (w' := (ret false)) ev_bl rfl) (fun _ => rfl)) (sb_next (la_in (sb_seq (sb_setN (S := fun r => ls K (List.map eD r)) (EvG.is (w' := (ret ([] : List PyData))) (ev_lstS (fun _ => ([] : List PyData)) eD es_nil (fun _ => AllF.nil) (fun _ => rfl) (fun _ => rfl)) rfl) (ltb rfl) (fun played_6 => (la_in (sb_seq (sb_for (S := ((List PyData) × (Int × (List (List (Int × Int)))))) (e := eI) (Γh := fun s9 => [.un, .tp tape2, .sl (fz K ((e2 (e2 eI (eT (e3 eI eI eI))) (eT (eT (eT eI)))) fabric_here_1)), .sl (fz K ((e2 eI (eT (eT (e2 eI eI)))) s9.2)), .sl (ls K (List.map eD s9.1)), .un, .un, .un, .un, .un]) (played_6, state_here_3) (ItG.is (w' := (bnd (noX (l_take (41 : Int))) fun x7 => grd (Rng x7) (ret (span 0 (x7).toNat)))) (it_range1 (ev_callS eI (es_t (ev_t (S := tape2) rfl) (es_f ev_int es_nil)) (fun _ => rfl))) rfl) (fun _ h => nomatch h) (wk_mask [true, true, true, true, true, true, true, true, true, true] _) (fun x8 s9 => (tg_name (ltb rfl))) (fun x8 s9 kc10 => (sb_seq (sb_setN (S := fun r => ls K (List.map eD r)) (EvG.is (w' := (noX (l_steps fabric_here_1 s9.2))) (ev_callNS (fun r => ls K (List.map eD r)) (es_f (ev_f (e := (e2 (e2 eI (eT (e3 eI eI eI))) (eT (eT (eT eI))))) fabric_here_1 rfl) (es_f (ev_f (e := (e2 eI (eT (eT (e2 eI eI))))) s9.2 rfl) es_nil)) (fun _ => rfl)) rfl) (ltb rfl) (fun steps_here_12 => (la_in (sb_seq (sb_if (EvT.is (w' := (bnd (bnd (noX (p_possible_steps fabric_here_1 s9.2)) fun x13 => eqLN (List.map eD x13) (List.map eD steps_here_12)) fun x15 => sel x15 (ret true) (bnd (noX (l_seen fabric_here_1 s9.2)) fun x14 => ret (!x14)))) (et_or (et_test (ev_opLL (EvG.rl (ev_callNS (fun r => ls K (List.map eD r)) (es_f (ev_f (e := (e2 (e2 eI (eT (e3 eI eI eI))) (eT (eT (eT eI))))) fabric_here_1 rfl) (es_f (ev_f (e := (e2 eI (eT (eT (e2 eI eI))))) s9.2 rfl) es_nil)) (fun _ => rfl))) (ev_l (e := eD) steps_here_12 rfl) (fun _ _ => o_neLW _ _))) (et_not (et_B (ev_callS eB (es_f (ev_f (e := (e2 (e2 eI (eT (e3 eI eI eI))) (eT (eT (eT eI))))) fabric_here_1 rfl) (es_f (ev_f (e := (e2 eI (eT (eT (e2 eI eI))))) s9.2 rfl) es_nil)) (fun _ => rfl))))) (by simp only [ret_bnd, bnd_bnd, mapW_bnd, mapW_ret] <;> rfl)) (sb_retF (EvG.is (w' := (ret false)) ev_bl rfl) (fun _ => rfl)) (sb_next (la_in (sb_seq (sb_set (e := eD) (EvG.is (w' := (noX (l_any_step fabric_here_1))) (ev_callS eD (es_t (ev_t (S := tape2) rfl) (es_f (ev_f (e := (e2 (e2 eI (eT (e3 eI eI eI))) (eT (eT (eT eI))))) fabric_here_1 rfl) es_nil)) (fun _ => rfl)) rfl) (ltb rfl) (fun step_17 => (la_in (sb_join (S := (PyData)) (Γf := fun s21 => [.un, .tp tape2, .sl (fz K ((e2 (e2 eI (eT (e3 eI eI eI))) (eT (eT (eT eI)))) fabric_here_1)), .sl (fz K ((e2 eI (eT (eT (e2 eI eI)))) s9.2)), .sl (ls K (List.map eD s9.1)), .sl (fz K (eI x8)), .sl (ls K (List.map eD steps_here_12)), .sl (fz K (eD s21)), .un, .un]) (k := fun s21 => bnd (noX (l_allowed fabric_here_1 s9.2 s21)) fun due_25 =>
  bnd (bnd (noX (p_is_possible fabric_here_1 s9.2 s21)) fun x26 => ret (!decide (x26 = due_25))) fun b27 => sel b27
  (ret false)
  (bnd (ret (!due_25)) fun b28 => sel b28
  (bnd (bnd (noX (l_refused fabric_here_1 s9.2 s21)) fun x29 => ret (!x29)) fun b30 => sel b30
  (ret false)
  (tryN (bnd (noX (p_empty_state fabric_here_1)) fun x31 => bnd (grd (s9.1.length + [s21, ((e2 eS eI) (("out" : Str), (0 : Int)))].length ≤ 16777216) (ret (s9.1 ++ [s21, ((e2 eS eI) (("out" : Str), (0 : Int)))]))) fun x32 => ret (fabric_here_1, x31, x32, ())) (fun x => p_playX x.1 x.2.1 x.2.2.1) (ret false) (fun xn33 =>
  bnd (sel (!decide (xn33 = (s9.1.length : Int))) (ret true) (ret (!true))) fun b34 => sel b34
  (ret false)
  (kc10 (s9.1, s9.2)))))
  (appW s9.1 (ret s21) fun s35 =>
  bnd (bnd (noX (p_afterX fabric_here_1 s9.2 s21)) fun x36 => bnd (noX (l_behind s9.2 s21)) fun x37 => eqWN ((e2 eI (eT (eT (e2 eI eI)))) x36) ((e2 eI (eT (eT (e2 eI eI)))) x37)) fun b38 => sel b38
  (ret false)
  (bnd (noX (l_behind s9.2 s21)) fun state_here_39 =>
  kc10 (s35, state_here_39))))) (sb_if (EvT.is (w' := (bnd (eqLN (List.map eD steps_here_12) (List.map eD ([] : List PyData))) fun x19 => sel x19 (bnd (noX (l_take (3 : Int))) fun x18 => ret (decide ((0 : Int) < x18))) (ret false))) (et_and (et_test (ev_opLL (ev_l (e := eD) steps_here_12 rfl) (EvG.rl (ev_lstS (fun _ => ([] : List PyData)) eD es_nil (fun _ => AllF.nil) (fun _ => rfl) (fun _ => rfl))) (fun _ _ => o_neLW _ _))) (et_test (ev_opF (ev_callS eI (es_t (ev_t (S := tape2) rfl) (es_f ev_int es_nil)) (fun _ => rfl)) ev_int (fun _ _ => o_gt _ _)))) rfl) (sb_set (e := eD) (EvG.is (w' := (bnd (noX (l_take (steps_here_12.length : Int))) fun x23 => opt (atI steps_here_12 x23))) (ev_opLF (ev_l (e := eD) steps_here_12 rfl) (ev_callS eI (es_t (ev_t (S := tape2) rfl) (es_f (ev_b1L (ev_l (e := eD) steps_here_12 rfl) (fun _ => c_lenL _)) es_nil)) (fun _ => rfl)) (fun _ _ => o_ixL _ _)) rfl) (ltb rfl) (fun step_24 => (Lands.wk (la_at step_24) (wk_mask [true, true, true, true, true, true, true, true, true, true] _)))) (sb_next (Lands.wk (la_at step_17) (wk_mask [true, true, true, true, true, true, true, true, true, true] _)))) (fun s21 => (sb_seq (sb_set (e := eB) (EvG.is (w' := (noX (l_allowed fabric_here_1 s9.2 s21))) (ev_callS eB (es_f (ev_f (e := (e2 (e2 eI (eT (e3 eI eI eI))) (eT (eT (eT eI))))) fabric_here_1 rfl) (es_f (ev_f (e := (e2 eI (eT (eT (e2 eI eI))))) s9.2 rfl) (es_f (ev_f (e := eD) s21 rfl) es_nil))) (fun _ => rfl)) rfl) (ltb rfl) (fun due_25 => (la_in (sb_seq (sb_if (EvT.is (w' := (bnd (noX (p_is_possible fabric_here_1 s9.2 s21)) fun x26 => ret (!decide (x26 = due_25)))) (et_test (ev_opF (ev_callS eB (es_f (ev_f (e := (e2 (e2 eI (eT (e3 eI eI eI))) (eT (eT (eT eI))))) fabric_here_1 rfl) (es_f (ev_f (e := (e2 eI (eT (eT (e2 eI eI))))) s9.2 rfl) (es_f (ev_f (e := eD) s21 rfl) es_nil))) (fun _ => rfl)) (ev_f (e := eB) due_25 rfl) (fun _ _ => o_neB _ _))) rfl) (sb_retF (EvG.is (w' := (ret false)) ev_bl rfl) (fun _ => rfl)) (sb_next (la_in (sb_if (EvT.is (w' := (ret (!due_25))) (et_not (et_B (ev_f (e := eB) due_25 rfl))) rfl) (sb_seq (sb_if (EvT.is (w' := (bnd (noX (l_refused fabric_here_1 s9.2 s21)) fun x29 => ret (!x29))) (et_not (et_B (ev_callS eB (es_f (ev_f (e := (e2 (e2 eI (eT (e3 eI eI eI))) (eT (eT (eT eI))))) fabric_here_1 rfl) (es_f (ev_f (e := (e2 eI (eT (eT (e2 eI eI))))) s9.2 rfl) (es_f (ev_f (e := eD) s21 rfl) es_nil))) (fun _ => rfl)))) rfl) (sb_retF (EvG.is (w' := (ret false)) ev_bl rfl) (fun _ => rfl)) (sb_next (la_in (SimB.is (m' := tryN (bnd (noX (p_empty_state fabric_here_1)) fun x31 => bnd (grd (s9.1.length + [s21, ((e2 eS eI) (("out" : Str), (0 : Int)))].length ≤ 16777216) (ret (s9.1 ++ [s21, ((e2 eS eI) (("out" : Str), (0 : Int)))]))) fun x32 => ret (fabric_here_1, x31, x32, ())) (fun x => p_playX x.1 x.2.1 x.2.2.1) (ret false) (fun xn33 =>
  bnd (sel (!decide (xn33 = (s9.1.length : Int))) (ret true) (ret (!true))) fun b34 => sel b34
  (ret false)
  (kc10 (s9.1, s9.2)))) (sb_tryN (i := 9) (Dc := T.xa_NotPossible) (fld := "number") (ltb rfl) (ctN1 T.se_NotPossible) (fun _ => rfl) (EvA.is (w' := (bnd (noX (p_empty_state fabric_here_1)) fun x31 => bnd (grd (s9.1.length + [s21, ((e2 eS eI) (("out" : Str), (0 : Int)))].length ≤ 16777216) (ret (s9.1 ++ [s21, ((e2 eS eI) (("out" : Str), (0 : Int)))]))) fun x32 => ret (fabric_here_1, x31, x32, ()))) (EvS.ev (es_f (ev_f (e := (e2 (e2 eI (eT (e3 eI eI eI))) (eT (eT (eT eI))))) fabric_here_1 rfl) (es_f (ev_callS (e2 eI (eT (eT (e2 eI eI)))) (es_f (ev_f (e := (e2 (e2 eI (eT (e3 eI eI eI))) (eT (eT (eT eI))))) fabric_here_1 rfl) es_nil) (fun _ => rfl)) (es_f (ev_opF (ev_b1L (ev_l (e := eD) s9.1 rfl) (fun _ => c_tupL _)) (ev_tupS (fun x => [x.1, x.2.1]) (eT eD) (es_f (ev_f (e := eD) s21 rfl) (es_f (ev_data (e := (e2 eS eI)) (ev_tupS (fun x => (x.1, x.2.1)) (e2 eS eI) (es_f ev_str (es_f ev_int es_nil)) (fun _ => (AllF.cons (AllF.cons AllF.nil))) (fun _ => rfl) (fun _ => rfl))) es_nil)) (fun _ => (AllF.cons (AllF.cons AllF.nil))) (fun _ => rfl) (fun _ => rfl)) (fun _ _ => o_catT _ _)) es_nil)))) rfl) (sb_retF (EvG.is (w' := (ret false)) ev_bl rfl) (fun _ => rfl)) (fun a d xn33 => (sb_if (EvT.is (w' := (sel (!decide (xn33 = (s9.1.length : Int))) (ret true) (ret (!true)))) (et_or (et_test (ev_opF (ev_num rfl) (ev_b1L (ev_l (e := eD) s9.1 rfl) (fun _ => c_lenL _)) (fun _ _ => o_neI _ _))) (et_not (et_B (ev_isN rfl T.xi_NotPossible_FabricError)))) rfl) (sb_retF (EvG.is (w' := (ret false)) ev_bl rfl) (fun _ => rfl)) (sb_next (la_unN rfl (Lands.wk (la_at (s9.1, s9.2)) (wk_mask [true, true, true, true, true, false, false, false, false, true] _))))))) rfl))))) (sb_seq (sb_appendK (e := eD) (xs := s9.1) rfl (EvG.is (w' := (ret s21)) (ev_f (e := eD) s21 rfl) rfl) (fun s35 => (la_in (sb_seq (sb_if (EvT.is (w' := (bnd (noX (p_afterX fabric_here_1 s9.2 s21)) fun x36 => bnd (noX (l_behind s9.2 s21)) fun x37 => eqWN ((e2 eI (eT (eT (e2 eI eI)))) x36) ((e2 eI (eT (eT (e2 eI eI)))) x37))) (et_test (ev_opF (ev_callX0S (e2 eI (eT (eT (e2 eI eI)))) (es_f (ev_f (e := (e2 (e2 eI (eT (e3 eI eI eI))) (eT (eT (eT eI))))) fabric_here_1 rfl) (es_f (ev_f (e := (e2 eI (eT (eT (e2 eI eI))))) s9.2 rfl) (es_f (ev_f (e := eD) s21 rfl) es_nil))) (fun _ => rfl)) (ev_callS (e2 eI (eT (eT (e2 eI eI)))) (es_f (ev_f (e := (e2 eI (eT (eT (e2 eI eI))))) s9.2 rfl) (es_f (ev_f (e := eD) s21 rfl) es_nil)) (fun _ => rfl)) (fun _ _ => o_neDW _ _))) (by first | rfl | (simp only [ret_bnd, bnd_bnd, mapW_bnd, mapW_ret] <;> rfl))) (sb_retF (EvG.is (w' := (ret false)) ev_bl rfl) (fun _ => rfl)) (sb_next (la_in (sb_set (e := (e2 eI (eT (eT (e2 eI eI))))) (EvG.is (w' := (noX (l_behind s9.2 s21))) (ev_callS (e2 eI (eT (eT (e2 eI eI)))) (es_f (ev_f (e := (e2 eI (eT (eT (e2 eI eI))))) s9.2 rfl) (es_f (ev_f (e := eD) s21 rfl) es_nil)) (fun _ => rfl)) rfl) (ltb rfl) (fun state_here_39 => (Lands.wk (la_at (s35, state_here_39)) (wk_mask [true, true, true, true, true, false, false, false, false, true] _)))))))))))))))))))))))))))))))))))) (fun s9 => (la_in (sb_retF (EvG.is (w' := (bnd (bnd (noX (p_empty_state fabric_here_1)) fun x40 => noX (p_playX fabric_here_1 x40 s9.1)) fun x41 => eqW ((e2 eI (eT (eT (e2 eI eI)))) x41) ((e2 eI (eT (eT (e2 eI eI)))) s9.2))) (ev_opF (ev_callX0S (e2 eI (eT (eT (e2 eI eI)))) (es_f (ev_f (e := (e2 (e2 eI (eT (e3 eI eI eI))) (eT (eT (eT eI))))) fabric_here_1 rfl) (es_f (ev_callS (e2 eI (eT (eT (e2 eI eI)))) (es_f (ev_f (e := (e2 (e2 eI (eT (e3 eI eI eI))) (eT (eT (eT eI))))) fabric_here_1 rfl) es_nil) (fun _ => rfl)) (es_f (ev_b1L (ev_l (e := eD) s9.1 rfl) (fun _ => c_tupL _)) es_nil))) (fun _ => rfl)) (ev_f (e := (e2 eI (eT (eT (e2 eI eI))))) s9.2 rfl) (fun _ _ => o_eqDW _ _)) (by first | rfl | (simp only [ret_bnd, bnd_bnd, mapW_bnd, mapW_ret] <;> rfl))) (fun _ => rfl))))))))))))))))))))))
end
end Cf
/-! GL: helpers of the plain laws. -/
namespace WL
open PySem L2
/-! ### a typed thing as data: its form, equality -/
structure EE {α : Type} [DecidableEq α] (e : α → PyData) (k : Nat) : Prop where
  lay : ∀ x, (e x).canLay0 = true
  dep : ∀ x, (e x).depth ≤ k
  eq : ∀ x y, PyData.eqv (e x) (e y) = decide (x = y)
section
variable {α β γ δ : Type} [DecidableEq α] [DecidableEq β] [DecidableEq γ] [DecidableEq δ]
theorem ee_I : EE eI 0 := ⟨fun x => by simp [eI, PyData.canLay0], fun x => by simp [eI, PyData.depth], fun x y => by
  by_cases h : x = y
  · simp [eI, PyData.eqv, h]
  · simp [eI, PyData.eqv, h]⟩
theorem ee_all {e : α → PyData} {k : Nat} (h : EE e k) : ∀ l : List α, PyData.canLayAll0 (l.map e) = true ∧ PyData.depthAll (l.map e) ≤ k
  | [] => by simp [PyData.canLayAll0, PyData.depthAll]
  | a :: l => by
    obtain ⟨i1, i2⟩ := ee_all h l
    have h1 := h.lay a
    have h2 := h.dep a
    rw [List.map_cons]
    constructor
    · simp [PyData.canLayAll0, i1, h1]
    · simp only [PyData.depthAll]
      omega
theorem ee_eqAll {e : α → PyData} {k : Nat} (h : EE e k) : ∀ l m : List α, PyData.eqvAll (l.map e) (m.map e) = decide (l = m)
  | [], [] => by simp [PyData.eqvAll]
  | [], _ :: _ => by simp [PyData.eqvAll]
  | _ :: _, [] => by simp [PyData.eqvAll]
  | a :: l, b :: m => by
    rw [List.map_cons, List.map_cons, PyData.eqvAll, h.eq, ee_eqAll h l m]
    by_cases e1 : a = b
    · by_cases e2 : l = m
      · simp [e1, e2]
      · simp [e1, e2]
    · simp [e1]
theorem ee_T {e : α → PyData} {k : Nat} (h : EE e k) : EE (eT e) (k + 1) := ⟨fun x => by
  have := (ee_all h x).1
  simp [eT, PyData.canLay0, this], fun x => by
  have := (ee_all h x).2
  simp only [eT, PyData.depth]
  omega, fun x y => by
  have := ee_eqAll h x y
  simp [eT, PyData.eqv, this]⟩
theorem ee_2 {a : α → PyData} {b : β → PyData} {k : Nat} (ha : EE a k) (hb : EE b k) : EE (e2 a b) (k + 1) := ⟨fun x => by
  simp [e2, PyData.canLay0, PyData.canLayAll0, ha.lay, hb.lay], fun x => by
  have := ha.dep x.1
  have := hb.dep x.2
  simp only [e2, PyData.depth, PyData.depthAll]
  omega, fun x y => by
  obtain ⟨x1, x2⟩ := x
  obtain ⟨y1, y2⟩ := y
  simp only [e2, PyData.eqv, PyData.eqvAll, ha.eq, hb.eq, Prod.mk.injEq, Bool.and_true]
  simp⟩
theorem EE.up {e : α → PyData} {k j : Nat} (h : EE e k) (hj : k ≤ j) : EE e j := ⟨h.lay, fun x => Nat.le_trans (h.dep x) hj, h.eq⟩
theorem ee_O {e : α → PyData} {k : Nat} (h : EE e k) (hn : ∀ x, PyData.eqv .none (e x) = false) (hn' : ∀ x, PyData.eqv (e x) .none = false) : EE (eO e) k := ⟨fun x => by
  cases x with
  | none => simp [eO, PyData.canLay0]
  | some a => exact h.lay a, fun x => by
  cases x with
  | none => simp [eO, PyData.depth]
  | some a => exact h.dep a, fun x y => by
  cases x with
  | none =>
    cases y with
    | none => simp [eO, PyData.eqv]
    | some b => simp [eO, hn]
  | some a =>
    cases y with
    | none => simp [eO, hn']
    | some b => simp [eO, h.eq]⟩
theorem EE.sh {e : α → PyData} {k : Nat} (h : EE e k) (hk : k ≤ 64) (x : α) : SeqAt.shaped (e x) = true := by
  show ((e x).canLay0 && decide ((e x).depth ≤ 64)) = true
  rw [h.lay x, decide_eq_true (by have := h.dep x; omega)]
  rfl
theorem EE.shL {e : α → PyData} {k : Nat} (h : EE e k) (hk : k < 64) (l : List α) : SeqAt.shaped (.list (l.map e)) = true := by
  obtain ⟨i1, i2⟩ := ee_all h l
  show (PyData.canLay0 (.list (l.map e)) && decide (PyData.depth (.list (l.map e)) ≤ 64)) = true
  have : PyData.depthAll (l.map e) + 1 ≤ 64 := by omega
  simp only [PyData.canLay0, PyData.depth, i1, this]
  decide
theorem en_eqW {e : α → PyData} {k : Nat} (h : EE e k) (hk : k ≤ 64) (x y : α) : Ens (eqW (e x) (e y)) (fun v => v = decide (x = y)) := en_grd ⟨h.sh hk x, h.sh hk y⟩ (en_ret (h.eq x y))
theorem en_eqWN {e : α → PyData} {k : Nat} (h : EE e k) (hk : k ≤ 64) (x y : α) : Ens (eqWN (e x) (e y)) (fun v => v = !decide (x = y)) := en_grd ⟨h.sh hk x, h.sh hk y⟩ (en_ret (by rw [h.eq x y]))
theorem en_eqLW {e : α → PyData} {k : Nat} (h : EE e k) (hk : k < 64) (x y : List α) : Ens (eqL (x.map e) (y.map e)) (fun v => v = decide (x = y)) := en_grd ⟨h.shL hk x, h.shL hk y⟩ (en_ret (by
  have := ee_eqAll h x y
  simp [PyData.eqv, this]))
theorem en_eqLNW {e : α → PyData} {k : Nat} (h : EE e k) (hk : k < 64) (x y : List α) : Ens (eqLN (x.map e) (y.map e)) (fun v => v = !decide (x = y)) := en_grd ⟨h.shL hk x, h.shL hk y⟩ (en_ret (by
  have := ee_eqAll h x y
  simp [PyData.eqv, this]))
theorem any_eqv {e : α → PyData} {k : Nat} (h : EE e k) (x : α) (l : List α) : ((l.map e).any fun z => PyData.eqv z (e x)) = decide (x ∈ l) := by
  induction l with
  | nil => simp
  | cons a l ih =>
    rw [List.map_cons, List.any_cons, ih, h.eq]
    by_cases e1 : a = x
    · subst e1; simp
    · have : ¬ x = a := fun z => e1 z.symm
      simp [e1, this]
theorem en_inD {e : α → PyData} {k : Nat} (h : EE e k) (hk : k < 64) (x : α) (l : List α) : Ens (inD (e x) (l.map e)) (fun v => v = decide (x ∈ l)) := en_grd ⟨h.sh (Nat.le_of_lt hk) x, h.shL hk l⟩ (en_ret (any_eqv h x l))
end
/-! ### what a transformer is sure of -/
section
variable {α β γ S F : Type}
theorem ft {l : List α} : l.filter (fun _ => true) = l := List.filter_eq_self.mpr fun _ _ => rfl
/-- [g x for x in xs] -/
theorem en_lcM {f : α → Wp β} (g : α → β) (xs : List α) (hl : xs.length ≤ 16777216) (h2 : ∀ x ∈ xs, Ens (f x) (fun v => v = g x)) : Ens (lcG (fun _ => ret true) f xs) (fun v => v = xs.map g) :=
  (en_lc (fun _ => true) g xs hl (fun _ _ => en_eq _) fun x hx _ => h2 x hx).mono fun v e => by rw [e, ft]
/-- two for -/
theorem en_lc2W {c : α → Wp Bool} {w1 : α → Wp (List γ)} {c1 : α → γ → Wp Bool} {f : α → γ → Wp β} {p : α → Bool} {us : α → List γ} {p1 : α → γ → Bool} {g : α → γ → β} {B : Nat} : ∀ (xs : List α) (n : Nat), n + xs.length * B ≤ 16777216 → (∀ x ∈ xs, Ens (c x) (fun v => v = p x)) → (∀ x ∈ xs, p x = true → Ens (w1 x) (fun v => v = us x)) → (∀ x ∈ xs, (us x).length ≤ B) →
    (∀ x ∈ xs, p x = true → ∀ y ∈ us x, Ens (c1 x y) (fun v => v = p1 x y)) → (∀ x ∈ xs, p x = true → ∀ y ∈ us x, p1 x y = true → Ens (f x y) (fun v => v = g x y)) →
    Ens (lc2W c w1 c1 f n xs) (fun v => v = (xs.filter p).flatMap fun x => ((us x).filter (p1 x)).map (g x))
  | [], _, _, _, _, _, _, _ => en_eq _
  | x :: xs, n, hb, h1, h2, h3, h4, h5 => by
    have hB := h3 x List.mem_cons_self
    rw [List.length_cons, Nat.succ_mul] at hb
    have ih := fun (m : Nat) (hm : m + xs.length * B ≤ 16777216) => en_lc2W (c := c) (w1 := w1) (c1 := c1) (f := f) xs m hm (fun y hy => h1 y (List.mem_cons_of_mem _ hy)) (fun y hy => h2 y (List.mem_cons_of_mem _ hy)) (fun y hy => h3 y (List.mem_cons_of_mem _ hy)) (fun y hy => h4 y (List.mem_cons_of_mem _ hy)) (fun y hy => h5 y (List.mem_cons_of_mem _ hy))
    refine en_bndE (h1 x List.mem_cons_self) (en_sel (fun e => ?_) fun e => ?_)
    · rw [List.filter_cons_of_pos e, List.flatMap_cons]
      refine en_bndE (h2 x List.mem_cons_self e) (en_grd (by omega) (en_bndE (en_lcW (us x) (h4 x List.mem_cons_self e) (h5 x List.mem_cons_self e)) (en_bndE (ih (n + (us x).length) (by omega)) (en_eq _))))
    · rw [List.filter_cons_of_neg (by rw [e]; decide)]
      exact ih n (by omega)
theorem en_lc2 {c : α → Wp Bool} {w1 : α → Wp (List γ)} {c1 : α → γ → Wp Bool} {f : α → γ → Wp β} (p : α → Bool) (us : α → List γ) (p1 : α → γ → Bool) (g : α → γ → β) (B : Nat) (xs : List α) (hb : xs.length * B ≤ 16777216) (h1 : ∀ x ∈ xs, Ens (c x) (fun v => v = p x)) (h2 : ∀ x ∈ xs, p x = true → Ens (w1 x) (fun v => v = us x)) (h3 : ∀ x ∈ xs, (us x).length ≤ B)
    (h4 : ∀ x ∈ xs, p x = true → ∀ y ∈ us x, Ens (c1 x y) (fun v => v = p1 x y)) (h5 : ∀ x ∈ xs, p x = true → ∀ y ∈ us x, p1 x y = true → Ens (f x y) (fun v => v = g x y)) :
    Ens (lc2G c w1 c1 f xs) (fun v => v = (xs.filter p).flatMap fun x => ((us x).filter (p1 x)).map (g x)) := en_noX (en_lc2W xs 0 (by omega) h1 h2 h3 h4 h5)
end
/-! ### lists, dicts -/
section
variable {α : Type}
theorem at_getD {xs : List α} {i : Int} (z : α) (h0 : 0 ≤ i) (h1 : i < xs.length) : atI xs i = some (xs.getD i.toNat z) := by
  have hi : i.toNat < xs.length := by omega
  have := atI_nat (xs := xs) (j := i.toNat) (v := xs.getD i.toNat z) (by rw [List.getD_eq_getElem?_getD, List.getElem?_eq_getElem hi]; rfl)
  rwa [show ((i.toNat : Nat) : Int) = i by omega] at this
theorem at_zero (a : α) (l : List α) : atI (a :: l) 0 = some a := atI_nat (j := 0) rfl
end
end WL
namespace Cf
open PySem PySem.Spec PyProof.Rows L2 WL
/-! nested lists of the def's own, at their addresses -/
theorem All2.snoc {α β : Type} {R : α → β → Prop} : ∀ {a : List α} {b : List β} {x : α} {y : β}, All2 R a b → R x y → All2 R (a ++ [x]) (b ++ [y])
  | _, _, _, _, .nil, h => .cons h .nil
  | _, _, _, _, .cons h t, h' => .cons h (All2.snoc t h')
theorem All2.mono {α β : Type} {R R' : α → β → Prop} (m : ∀ x y, R x y → R' x y) : ∀ {a : List α} {b : List β}, All2 R a b → All2 R' a b
  | _, _, .nil => .nil
  | _, _, .cons h t => .cons (m _ _ h) (All2.mono m t)
theorem All2.length {α β : Type} {R : α → β → Prop} : ∀ {a : List α} {b : List β}, All2 R a b → a.length = b.length
  | _, _, .nil => rfl
  | _, _, .cons _ t => congrArg Nat.succ (All2.length t)
theorem All2.get {α β : Type} {R : α → β → Prop} : ∀ {a : List α} {b : List β} {i : Nat} {y : β}, All2 R a b → b[i]? = some y → ∃ x, a[i]? = some x ∧ R x y
  | _, _, 0, _, .cons h _, e => ⟨_, rfl, by cases e; exact h⟩
  | _, _, i + 1, _, .cons _ t, e => All2.get (i := i) t e
  | _, _, 0, _, .nil, e => by cases e
  | _, _, _ + 1, _, .nil, e => by cases e
/-- a cell: a list of the def's own, with part of e -/
def Ent (H0 H : Hp) (o : Addr) (e : List Int) : Prop := H0 o = none ∧ H o = some (.lst (e.map V.int))
def RowR (H0 H : Hp) (z : Addr × List Addr) (row : List (List Int)) : Prop := H0 z.1 = none ∧ H z.1 = some (.lst (z.2.map V.ref)) ∧ All2 (Ent H0 H) z.2 row
def Old (H0 H : Hp) : Prop := ∀ x o, H0 x = some o → H x = some o
theorem Ent.up {H0 H H' : Hp} {o : Addr} {e : List Int} (k : Old H H') (h : Ent H0 H o e) : Ent H0 H' o e := ⟨h.1, k _ _ h.2⟩
theorem RowR.up {H0 H H' : Hp} {z : Addr × List Addr} {e : List (List Int)} (k : Old H H') (h : RowR H0 H z e) : RowR H0 H' z e := ⟨h.1, k _ _ h.2.1, h.2.2.mono fun _ _ => Ent.up k⟩
theorem Ent.set {H0 H : Hp} {o D : Addr} {e : List Int} {ob ox : HO} (hD : H0 D = some ob) (h : Ent H0 H o e) : Ent H0 (upd H D ox) o e := ⟨h.1, by rw [upd_ne (ne_of_none hD h.1).symm]; exact h.2⟩
theorem RowR.set {H0 H : Hp} {z : Addr × List Addr} {D : Addr} {e : List (List Int)} {ob ox : HO} (hD : H0 D = some ob) (h : RowR H0 H z e) : RowR H0 (upd H D ox) z e := ⟨h.1, by rw [upd_ne (ne_of_none hD h.1).symm]; exact h.2.1, h.2.2.mono fun _ _ => Ent.set hD⟩
theorem Old.new {H : Hp} {a : Addr} {o : HO} (h : H a = none) : Old H (upd H a o) := fun x o' e => by
  rw [upd_ne (ne_of_none e h)]
  exact e
theorem Old.trans {H H' H'' : Hp} (h : Old H H') (k : Old H' H'') : Old H H'' := fun x o e => k x o (h x o e)
theorem Old.stay {H H' : Hp} (h : Old H H') : Stay H H' := fun x o e _ => h x o e
def flatA (zs : List (Addr × List Addr)) : List Addr := (zs.map (·.2)).flatten
/-! tables by their cells -/
theorem getD_lt {α : Type} {l : List α} {i : Nat} {z : α} (h : i < l.length) : l.getD i z = l[i] := by
  rw [List.getD_eq_getElem?_getD, List.getElem?_eq_getElem h]
  rfl
theorem getD_set {α : Type} {l : List α} {i j : Nat} {x z : α} (h : i < l.length) : (l.set i x).getD j z = if i = j then x else l.getD j z := by
  rw [List.getD_eq_getElem?_getD, List.getElem?_set]
  by_cases e : i = j
  · rw [if_pos e, if_pos e, if_pos h]
    rfl
  · rw [if_neg e, if_neg e, List.getD_eq_getElem?_getD]
theorem Shp.rowD {n : Nat} {t : List (List (List Int))} (s : Shp n t) {i : Nat} (h : i < n) : (t.getD i []).length = n := by
  rw [getD_lt (by rw [s.len]; exact h)]
  exact s.row _ (List.getElem_mem _)
theorem cell_set {n : Nat} {t : List (List (List Int))} (s : Shp n t) {i j : Nat} (hi : i < n) (hj : j < n) (e : List Int) (i' j' : Nat) : cell (setC t i j e) i' j' = if i' = i ∧ j' = j then e else cell t i' j' := by
  unfold cell setC
  rw [getD_set (by rw [s.len]; exact hi)]
  by_cases h : i = i'
  · subst h
    rw [if_pos rfl, getD_set (by rw [s.rowD hi]; exact hj)]
    by_cases h' : j = j'
    · rw [if_pos h', if_pos ⟨rfl, h'.symm⟩]
    · rw [if_neg h', if_neg (fun z => h' z.2.symm)]
  · rw [if_neg h, if_neg (fun z => h z.1.symm)]
theorem shp_set {n : Nat} {t : List (List (List Int))} (s : Shp n t) {i : Nat} (hi : i < n) (j : Nat) (e : List Int) : Shp n (setC t i j e) := by
  refine ⟨by unfold setC; rw [List.length_set]; exact s.len, fun r hr => ?_⟩
  unfold setC at hr
  rcases List.mem_or_eq_of_mem_set hr with h | h
  · exact s.row r h
  · rw [h, List.length_set, s.rowD hi]
theorem sum_set : ∀ {l : List Nat} {i : Nat} (x : Nat) (h : i < l.length), (l.set i x).sum + l[i] = l.sum + x
  | [], i, _, h => by simp at h
  | a :: l, 0, x, h => by simp; omega
  | a :: l, i + 1, x, h => by
    have := sum_set (l := l) (i := i) x (by simpa using h)
    simp
    omega
theorem size_set {n : Nat} {t : List (List (List Int))} (s : Shp n t) {i j : Nat} (hi : i < n) (hj : j < n) (e : List Int) : sizeT (setC t i j e) + (cell t i j).length = sizeT t + e.length := by
  have hi' : i < t.length := by rw [s.len]; exact hi
  have hr : (t.getD i []) = t[i] := getD_lt hi'
  have hj' : j < t[i].length := by rw [s.row _ (List.getElem_mem _)]; exact hj
  have e1 := sum_set (l := t.map fun r => (r.map List.length).sum) (i := i) (((t[i].set j e).map List.length).sum) (by rw [List.length_map]; exact hi')
  have e2 := sum_set (l := t[i].map List.length) (i := j) e.length (by rw [List.length_map]; exact hj')
  unfold sizeT setC cell
  rw [hr, getD_lt hj', List.map_set]
  rw [List.getElem_map] at e1 e2
  rw [← List.map_set] at e2
  omega
structure Tc (n : Nat) (H0 H : Hp) (p : Addr) (zs : List (Addr × List Addr)) (cur : List (List (List Int))) : Prop where
  old : Old H0 H
  top : H p = some (.lst ((zs.map (·.1)).map V.ref))
  shp : Shp n cur
  len : zs.length = n
  row : ∀ z ∈ zs, H z.1 = some (.lst (z.2.map V.ref)) ∧ z.2.length = n
  ent : ∀ i j z o, zs[i]? = some z → z.2[j]? = some o → H0 o = none ∧ H o = some (.lst ((cell cur i j).map V.int))
  nd : (flatA zs).Nodup
theorem Tc.up {n : Nat} {H0 H H' : Hp} {p : Addr} {zs : List (Addr × List Addr)} {cur : List (List (List Int))} (h : Tc n H0 H p zs cur) (k : Old H H') : Tc n H0 H' p zs cur :=
  ⟨h.old.trans k, k _ _ h.top, h.shp, h.len, fun z hz => ⟨k _ _ (h.row z hz).1, (h.row z hz).2⟩, fun i j z o h1 h2 => ⟨(h.ent i j z o h1 h2).1, k _ _ (h.ent i j z o h1 h2).2⟩, h.nd⟩
end Cf
namespace Cf
open PySem WL L2
open Classical
abbrev Tab := List (List (List Int))
abbrev Chs := List (Int × Int × Int)
structure NG (n : Nat) (chs : Chs) : Prop where
  n5 : n ≤ 5
  ml : chs.length ≤ 12
  ch : ∀ c ∈ chs, 0 ≤ c.1 ∧ c.1 < n ∧ 0 ≤ c.2.1 ∧ c.2.1 < n ∧ 0 ≤ c.2.2 ∧ c.2.2 ≤ 3
structure TG (n : Nat) (chs : Chs) (t : Tab) : Prop where
  shp : Shp n t
  nd : ∀ i j, i < n → j < n → (cell t i j).Nodup
  len : ∀ i j, i < n → j < n → (cell t i j).length ≤ 12
  rng : ∀ i j, i < n → j < n → ∀ c ∈ cell t i j, 0 ≤ c ∧ c < chs.length
theorem atI_getD {α : Type} {xs : List α} {i : Int} (z : α) (h0 : 0 ≤ i) (h1 : i < xs.length) : atI xs i = some (xs.getD i.toNat z) := by
  have hi : i.toNat < xs.length := by omega
  have := atI_nat (xs := xs) (j := i.toNat) (v := xs.getD i.toNat z) (by rw [List.getD_eq_getElem?_getD, List.getElem?_eq_getElem hi]; rfl)
  rwa [show ((i.toNat : Nat) : Int) = i by omega] at this
theorem getD_mem {α : Type} {xs : List α} {i : Nat} (z : α) (h : i < xs.length) : xs.getD i z ∈ xs := by
  rw [getD_lt h]
  exact List.getElem_mem h
theorem span_at : ∀ {n : Nat} {lo x : Int} {pre post : List Int}, span lo n = pre ++ x :: post → x = lo + pre.length := fun {n lo x pre post} e => by
  have h : (span lo n)[pre.length]? = some x := by
    rw [e, List.getElem?_append_right (Nat.le_refl _)]
    simp
  unfold span at h
  rw [List.getElem?_map] at h
  have hl : pre.length < n := by
    have := congrArg List.length e
    rw [span_length, List.length_append, List.length_cons] at this
    omega
  rw [List.getElem?_range hl] at h
  exact (Option.some.inj h).symm
theorem span_nodup (lo : Int) (n : Nat) : (span lo n).Nodup := by
  unfold span
  induction n with
  | zero => simp
  | succ n ih =>
    rw [List.range_succ, List.map_append, List.nodup_append]
    refine ⟨ih, by simp, fun a ha b hb e => ?_⟩
    obtain ⟨k, hk, rfl⟩ := List.mem_map.mp ha
    rw [List.mem_range] at hk
    have : b = lo + (n : Nat) := by simpa using hb
    omega
theorem en_lcSub {α : Type} {c : α → Wp Bool} : ∀ (xs : List α), (∀ x ∈ xs, Ens (c x) (fun _ => True)) → Ens (lcW c (fun x => ret x) xs) (fun ys => ys.Sublist xs)
  | [], _ => en_ret (List.Sublist.refl _)
  | x :: xs, h1 => by
    have ih := en_lcSub xs fun y hy => h1 y (List.mem_cons_of_mem _ hy)
    exact en_bnd (h1 x List.mem_cons_self) fun b _ => en_sel (fun _ => en_bndE (en_eq x) (en_bnd ih fun ys h => en_ret (h.cons₂ x))) (fun _ => ih.mono fun ys h => h.cons x)
theorem en_lcGS {α : Type} {c : α → Wp Bool} (xs : List α) (hl : xs.length ≤ 16777216) (h1 : ∀ x ∈ xs, Ens (c x) (fun _ => True)) : Ens (lcG c (fun x => ret x) xs) (fun ys => ys.Sublist xs) := en_grd hl (en_noX (en_lcSub xs h1))
theorem TG.part {n : Nat} {chs : Chs} {s t : Tab} (h : TG n chs t) (hs : Shp n s) (sub : ∀ i j, i < n → j < n → (cell s i j).Sublist (cell t i j)) : TG n chs s :=
  ⟨hs, fun i j hi hj => (h.nd i j hi hj).sublist (sub i j hi hj), fun i j hi hj => Nat.le_trans (sub i j hi hj).length_le (h.len i j hi hj), fun i j hi hj c hc => h.rng i j hi hj c ((sub i j hi hj).subset hc)⟩
theorem sum_le {l : List Nat} {B : Nat} (h : ∀ x ∈ l, x ≤ B) : l.sum ≤ l.length * B := by
  induction l with
  | nil => simp
  | cons a l ih =>
    have h1 := h a List.mem_cons_self
    have h2 := ih fun x hx => h x (List.mem_cons_of_mem _ hx)
    rw [List.sum_cons, List.length_cons, Nat.succ_mul]
    omega
theorem TG.size {n : Nat} {chs : Chs} {t : Tab} (h : TG n chs t) (hn : n ≤ 5) : sizeT t ≤ 300 := by
  unfold sizeT
  have h1 := sum_le (l := t.map fun r => (r.map List.length).sum) (B := 60) fun x hx => by
    obtain ⟨r, hr, rfl⟩ := List.mem_map.mp hx
    have h2 := sum_le (l := r.map List.length) (B := 12) fun y hy => by
      obtain ⟨e, he, rfl⟩ := List.mem_map.mp hy
      obtain ⟨i, hi, rfl⟩ := List.getElem_of_mem hr
      obtain ⟨j, hj, rfl⟩ := List.getElem_of_mem he
      have h3 := h.len i j (by rw [← h.shp.len]; exact hi) (by rw [← h.shp.row _ hr]; exact hj)
      unfold cell at h3
      rwa [getD_lt hi, getD_lt hj] at h3
    rw [List.length_map, h.shp.row r hr] at h2
    have : n * 12 ≤ 60 := by omega
    omega
  rw [List.length_map, h.shp.len] at h1
  have : n * 60 ≤ 300 := by omega
  omega
theorem tab_at {n : Nat} {t : Tab} (s : Shp n t) {u d : Int} (hu0 : 0 ≤ u) (hu1 : u < n) (hd0 : 0 ≤ d) (hd1 : d < n) : ∃ row, atI t u = some row ∧ atI row d = some (cell t u.toNat d.toNat) := by
  refine ⟨t.getD u.toNat [], atI_getD [] hu0 (by rw [s.len]; exact hu1), ?_⟩
  have := s.rowD (i := u.toNat) (by omega)
  exact atI_getD [] hd0 (by omega)
theorem ch_at {n : Nat} {chs : Chs} (g : NG n chs) {c : Int} (h0 : 0 ≤ c) (h1 : c < chs.length) : ∃ ch, atI chs c = some ch ∧ ch ∈ chs ∧ ch.2.1 = tgt chs c ∧ ch.1 = (chs.getD c.toNat (0, 0, 0)).1 :=
  ⟨_, atI_getD (0, 0, 0) h0 h1, getD_mem _ (by omega), rfl, rfl⟩
theorem tgt_rng {n : Nat} {chs : Chs} (g : NG n chs) {c : Int} (h0 : 0 ≤ c) (h1 : c < chs.length) : 0 ≤ tgt chs c ∧ tgt chs c < n := by
  have := g.ch _ (getD_mem (0, 0, 0) (show c.toNat < chs.length by omega))
  exact ⟨this.2.2.1, this.2.2.2.1⟩
end Cf
namespace Cf
open PySem WL L2
open Classical
theorem cut_lo {α : Type} (xs : List α) {d : Int} (h0 : 0 ≤ d) : cutA xs none (some d) = xs.take d.toNat := by
  have e : d = ((d.toNat : Nat) : Int) := by omega
  unfold cutA
  rw [e, HT.sIx_nat, HT.sIx_none, List.drop_zero, Nat.sub_zero, Int.toNat_natCast]
  rcases Nat.le_total d.toNat xs.length with h | h
  · rw [Nat.min_eq_left h]
  · rw [Nat.min_eq_right h, List.take_length, List.take_of_length_le h]
theorem cut_hi {α : Type} (xs : List α) {d : Int} (h0 : 0 ≤ d) : cutA xs (some d) none = xs.drop d.toNat := by
  have e : d = ((d.toNat : Nat) : Int) := by omega
  unfold cutA
  rw [e, HT.sIx_nat, HT.sIx_none, Int.toNat_natCast]
  rcases Nat.le_total d.toNat xs.length with h | h
  · rw [Nat.min_eq_left h, List.take_of_length_le (by rw [List.length_drop]; exact Nat.le_refl _)]
  · rw [Nat.min_eq_right h, Nat.sub_self, List.take_zero, List.drop_of_length_le h]
theorem set_cut {α : Type} {xs : List α} {i : Nat} (h : i < xs.length) (a : α) : xs.take i ++ [a] ++ xs.drop (i + 1) = xs.set i a := by
  rw [List.set_eq_take_append_cons_drop, if_pos h, List.append_assoc]
  rfl
end Cf
namespace Cf
open PySem WL L2
open Classical
theorem en_take {n : Int} (h0 : 0 < n) (h1 : n < 1073741824) : Ens (noX (l_take n)) (fun v => 0 ≤ v ∧ v < n) := en_noX (en_grd ⟨h0, h1⟩ (en_any fun a h => h))
def ChOk (n : Int) (c : Int × Int × Int) : Prop := 0 ≤ c.1 ∧ c.1 < n ∧ 0 ≤ c.2.1 ∧ c.2.1 < n ∧ 0 ≤ c.2.2 ∧ c.2.2 ≤ 3
theorem fmod_in {a n : Int} (h : 0 < n) : 0 ≤ Int.fmod a n ∧ Int.fmod a n < n := by
  rw [Int.fmod_eq_emod_of_nonneg _ (by omega)]
  exact ⟨Int.emod_nonneg _ (by omega), Int.emod_lt_of_pos _ h⟩
def srcC (chs : Chs) (c : Int) : Int := (chs.getD c.toNat (0, 0, 0)).1
structure EnOk (chs : Chs) (u : Int) (e : List Int) : Prop where
  len : e.length ≤ 12
  nd : e.Nodup
  ok : ∀ c ∈ e, 0 ≤ c ∧ c < chs.length ∧ srcC chs c = u
structure TbOk (n : Nat) (chs : Chs) (tab : Tab) : Prop where
  row : ∀ (i : Nat) row, tab[i]? = some row → row.length = n ∧ ∀ e ∈ row, EnOk chs i e
theorem TbOk.snoc {n : Nat} {chs : Chs} {tab : Tab} {row : List (List Int)} (h : TbOk n chs tab) (hl : row.length = n) (he : ∀ e ∈ row, EnOk chs tab.length e) : TbOk n chs (tab ++ [row]) := ⟨fun i r hr => by
  by_cases hi : i < tab.length
  · rw [List.getElem?_append_left hi] at hr
    exact h.row i r hr
  · rw [List.getElem?_append_right (by omega)] at hr
    by_cases e : i = tab.length
    · subst e
      rw [Nat.sub_self] at hr
      have : row = r := by simpa using hr
      subst this
      exact ⟨hl, he⟩
    · rw [List.getElem?_eq_none (by rw [List.length_singleton]; omega)] at hr
      cases hr⟩
theorem TbOk.cell {n : Nat} {chs : Chs} {tab : Tab} (h : TbOk n chs tab) (hl : tab.length = n) {i j : Nat} (hi : i < n) (hj : j < n) : EnOk chs i (cell tab i j) := by
  have hi' : i < tab.length := by omega
  obtain ⟨h1, h2⟩ := h.row i _ (List.getElem?_eq_getElem hi')
  unfold Cf.cell
  rw [getD_lt hi', getD_lt (by omega)]
  exact h2 _ (List.getElem_mem _)
theorem TbOk.tg {n : Nat} {chs : Chs} {tab : Tab} (h : TbOk n chs tab) (hl : tab.length = n) : TG n chs tab :=
  ⟨⟨hl, fun r hr => by obtain ⟨i, hi, rfl⟩ := List.getElem_of_mem hr; exact (h.row i _ (List.getElem?_eq_getElem hi)).1⟩, fun i j hi hj => (h.cell hl hi hj).nd, fun i j hi hj => (h.cell hl hi hj).len, fun i j hi hj c hc => ⟨((h.cell hl hi hj).ok c hc).1, ((h.cell hl hi hj).ok c hc).2.1⟩⟩
structure FG (n : Nat) (chs : Chs) (t : Tab) : Prop where
  ng : NG n chs
  tg : TG n chs t
  src : ∀ i j, i < n → j < n → ∀ c ∈ cell t i j, srcC chs c = i
  n2 : 2 ≤ n
  m0 : 0 < chs.length
  live : Live n chs t
end Cf
/-! The draws family: numbers that are drawn, the thinned table, the fabric. -/
namespace Cf
open PySem WL L2
theorem fmod_nn {a n : Int} (h : 0 < n) : 0 ≤ Int.fmod a n := (fmod_in h).1
theorem en_mix2 (a b : Int) : Ens (noX (l_mix2 a b)) (fun v => 0 ≤ v) := en_noX (en_bndE (en_eq _) (en_ret (fmod_nn (by decide))))
theorem pre_lt {α : Type} {xs pre post : List α} {x : α} (e : xs = pre ++ x :: post) : pre.length < xs.length := by
  rw [e, List.length_append, List.length_cons]
  omega
theorem dr_numbers (ns : List Int) (z : Int) (z1 : 1 ≤ z) (z2 : z ≤ 1000) : Ens (l_numbers ns z) (fun v => v ≠ [] ∧ v.length ≤ 1000 ∧ ∀ c ∈ v, 0 ≤ c) := by
  refine en_bndE (en_eq _) (en_bndE (en_eq _) (en_bndE (en_eq _) ?_))
  have hc : (cutA ns none (some (63 : Int))).length ≤ 63 := by
    rw [cut_lo _ (by decide), List.length_take]
    exact Nat.min_le_left _ _
  generalize cutA ns none (some (63 : Int)) = cs at hc
  have app : ∀ {s : List Int} {a : Int}, (∀ c ∈ s, 0 ≤ c) → 0 ≤ a → ∀ c ∈ s ++ [a], 0 ≤ c := fun {s a} h ha c hc => by
    rcases List.mem_append.mp hc with hc | hc
    · exact h c hc
    · rw [List.mem_singleton.mp hc]; exact ha
  refine en_for (fun pre s => s.2.length ≤ 60 * pre.length ∧ ∀ c ∈ s.2, 0 ≤ c) cs ⟨Nat.zero_le _, fun c h => (by cases h)⟩ (fun pre x post s k e ⟨h1, h2⟩ hk => ?_) (fun s ⟨h1, h2⟩ => ?_)
  · have hp := pre_lt e
    refine en_bndE (en_eq _) (en_bnd (en_mix2 _ _) fun tot _ => en_bndE (en_eq _) (en_sel (fun _ => ?_) fun _ => ?_))
    · refine en_bndE (en_grd (rng_small (by decide) (by decide)) (en_eq _)) ?_
      refine en_for (fun pre2 s2 => s2.1.length ≤ 60 * pre.length + pre2.length ∧ ∀ c ∈ s2.1, 0 ≤ c) _ ⟨h1, h2⟩ (fun pre2 y post2 s2 k2 e2 ⟨i1, i2⟩ hk2 => ?_) (fun s2 ⟨i1, i2⟩ => ?_)
      · have hp2 := pre_lt e2
        rw [span_length] at hp2
        have hp2 : pre2.length < 60 := hp2
        refine en_bndE (en_eq _) (en_sel (fun _ => ?_) fun _ => ?_)
        · refine en_app (R := fun v => 0 ≤ v) (en_ret (fmod_nn (by decide))) (by omega) fun a ha => en_bndE (en_eq _) (hk2 _ ⟨?_, app i2 ha⟩)
          show (s2.1 ++ [a]).length ≤ _
          rw [List.length_append, List.length_append, List.length_singleton, List.length_singleton]; omega
        · refine hk2 _ ⟨?_, i2⟩
          rw [List.length_append, List.length_singleton]
          show s2.1.length ≤ _
          omega
      · refine hk _ ⟨?_, i2⟩
        rw [span_length] at i1
        rw [List.length_append, List.length_singleton]
        show s2.1.length ≤ _
        have : (60 : Int).toNat = 60 := rfl
        omega
    · refine en_bndE (en_grd (rng_small (by decide) (by decide)) (en_eq _)) ?_
      refine en_for (fun pre2 s2 => s2.length ≤ 60 * pre.length + pre2.length ∧ ∀ c ∈ s2, 0 ≤ c) _ ⟨h1, h2⟩ (fun pre2 y post2 s2 k2 e2 ⟨i1, i2⟩ hk2 => ?_) (fun s2 ⟨i1, i2⟩ => ?_)
      · have hp2 := pre_lt e2
        rw [span_length] at hp2
        have hp2 : pre2.length < 6 := hp2
        refine en_app (R := fun v => 0 ≤ v) (en_bnd (en_mix2 _ _) fun v _ => en_ret (fmod_nn (by decide))) (by omega) fun a ha => hk2 _ ⟨?_, app i2 ha⟩
        rw [List.length_append, List.length_append, List.length_singleton, List.length_singleton]; omega
      · refine hk _ ⟨?_, i2⟩
        rw [span_length] at i1
        rw [List.length_append, List.length_singleton]
        show s2.length ≤ _
        have : (6 : Int).toNat = 6 := rfl
        omega
  · refine en_bndE (en_grd (rng_small (by omega) (by omega)) (en_eq _)) ?_
    refine en_for (fun pre s2 => pre.length ≤ s2.2.length ∧ s2.2.length ≤ 3780 + pre.length ∧ ∀ c ∈ s2.2, 0 ≤ c) _ ⟨Nat.zero_le _, (by show s.2.length ≤ 3780 + 0; omega), h2⟩ (fun pre x post s2 k e ⟨i1, i2, i3⟩ hk => ?_) (fun s2 ⟨i1, i2, i3⟩ => ?_)
    · have hp := pre_lt e
      rw [span_length] at hp
      refine en_bndE (en_eq _) (en_sel (fun _ => ?_) fun q => ?_)
      · refine en_bnd (en_mix2 _ _) fun tot _ => en_app (R := fun v => 0 ≤ v) (en_ret (fmod_nn (by decide))) (by omega) fun a ha => hk _ ⟨?_, ?_, app i3 ha⟩
        · show _ ≤ (s2.2 ++ [a]).length
          rw [List.length_append, List.length_append, List.length_singleton, List.length_singleton]; omega
        · show (s2.2 ++ [a]).length ≤ _
          rw [List.length_append, List.length_append, List.length_singleton, List.length_singleton]; omega
      · have := of_decide_eq_false q
        refine hk _ ⟨?_, ?_, i3⟩
        · rw [List.length_append, List.length_singleton]
          show _ ≤ s2.2.length
          omega
        · rw [List.length_append, List.length_singleton]
          show s2.2.length ≤ _
          omega
    · rw [span_length] at i1
      refine en_ret ?_
      rw [cut_lo _ (by omega)]
      refine ⟨fun z0 => ?_, ?_, fun c hc => i3 c (List.take_subset _ _ hc)⟩
      · have := congrArg List.length z0
        rw [List.length_take, List.length_nil] at this
        omega
      · rw [List.length_take]
        omega
theorem dr_hyp : ∀ ns z, 1 ≤ z → z ≤ 1000 → l_numbers ns z (fun v => v ≠ [] ∧ v.length ≤ 1000 ∧ ∀ c ∈ v, 0 ≤ c) (fun _ => False) := fun ns z z1 z2 => dr_numbers ns z z1 z2 _ _ fun _ h => h
open Classical in
theorem en_set3 {F : Type} {n : Nat} {t : Tab} (s : Shp n t) {u d : Int} {x : List Int} {k : Tab → Wp F} {Q : F → Prop} (u0 : 0 ≤ u) (u1 : u < n) (d0 : 0 ≤ d) (d1 : d < n) (hk : Ens (k (setC t u.toNat d.toNat x)) Q) : Ens (set3W t x (ret u) (ret d) k) Q := by
  have hl := s.len
  have hu : u.toNat < t.length := by omega
  have hr := s.row _ (List.getElem_mem hu)
  refine en_bndE (en_eq _) (en_bndE (en_optE (a := u.toNat) (by unfold ixN; rw [if_pos u0, if_pos (by omega)])) (en_bndE (en_optE (List.getElem?_eq_getElem hu)) (en_bndE (en_eq _) (en_bndE (en_optE (a := d.toNat) (by unfold ixN; rw [if_pos d0, if_pos (by omega)])) ?_))))
  have : t.set u.toNat (t[u.toNat].set d.toNat x) = setC t u.toNat d.toNat x := by
    unfold setC
    rw [getD_lt hu]
  rw [this]
  exact hk
open Classical in
theorem en_thinned2 {n : Nat} {chs : Chs} {tab : Tab} (g : NG n chs) (ht : TG n chs tab) : Ens (l_thinned2 chs n tab) (fun t => ThMax chs t tab) := by
  have hn := g.n5
  have hlen := ht.shp.len
  have rngn : Rng (n : Int) := rng_small (by omega) (by omega)
  refine en_bndE (en_eq _) ?_
  refine en_while (fun s => Shp n s.2 ∧ (∀ i j, i < n → j < n → (cell s.2 i j).Sublist (cell tab i j)) ∧ (∀ s', SubT n s' tab → Live n chs s' → SubT n s' s.2) ∧ (s.1 = false → Live n chs s.2)) (fun s => s.1) (fun s => sizeT s.2 + if s.1 then 1 else 0)
    ⟨ht.shp, fun _ _ _ _ => List.Sublist.refl _, fun s h _ => h, fun h => (by cases h)⟩ (fun s _ => en_eq _) (fun s k ⟨h1, h2, h3, _⟩ hb hk => ?_) (fun s ⟨h1, h2, h3, h4⟩ hb => ?_)
  · obtain ⟨gn, cur⟩ := s
    have hb : gn = true := hb
    subst hb
    have h1 : Shp n cur := h1
    have hcur : TG n chs cur := ht.part h1 h2
    refine en_bndE (en_eq _) (en_bndE (en_grd rngn (en_eq _)) ?_)
    refine en_for (fun pre s => Shp n s.1 ∧ (∀ i j, i < n → j < n → (cell s.1 i j).Sublist (cell tab i j)) ∧ (∀ s', SubT n s' tab → Live n chs s' → SubT n s' s.1) ∧ sizeT s.1 ≤ sizeT cur ∧ (s.2 = true → sizeT s.1 < sizeT cur) ∧ (s.2 = false → s.1 = cur ∧ ∀ u ∈ pre, ∀ d, d < n → ∀ c ∈ cell cur u.toNat d, OkC chs cur d c)) _
      ⟨h1, h2, h3, Nat.le_refl _, fun h => (by cases h), fun _ => ⟨rfl, fun u h => (by cases h)⟩⟩ (fun pre u post s k1 e ⟨i1, i2, i3, i4, i5, i6⟩ hk1 => ?_) (fun s ⟨i1, i2, i3, i4, i5, i6⟩ => ?_)
    · have hu : u ∈ span 0 n := by rw [show span 0 n = pre ++ u :: post from e]; simp
      obtain ⟨u0, u1⟩ := mem_span.mp hu
      have u1 : u < (n : Int) := by omega
      refine en_bndE (en_grd rngn (en_eq _)) ?_
      refine en_for (fun pre2 s => Shp n s.1 ∧ (∀ i j, i < n → j < n → (cell s.1 i j).Sublist (cell tab i j)) ∧ (∀ s', SubT n s' tab → Live n chs s' → SubT n s' s.1) ∧ sizeT s.1 ≤ sizeT cur ∧ (s.2 = true → sizeT s.1 < sizeT cur) ∧ (s.2 = false → s.1 = cur ∧ (∀ u ∈ pre, ∀ d, d < n → ∀ c ∈ cell cur u.toNat d, OkC chs cur d c) ∧ ∀ d ∈ pre2, ∀ c ∈ cell cur u.toNat d.toNat, OkC chs cur d.toNat c)) _
        ⟨i1, i2, i3, i4, i5, fun h => ⟨(i6 h).1, (i6 h).2, fun d h => (by cases h)⟩⟩ (fun pre2 d post2 s k2 e2 ⟨j1, j2, j3, j4, j5, j6⟩ hk2 => ?_) (fun s ⟨j1, j2, j3, j4, j5, j6⟩ => ?_)
      · have hd : d ∈ span 0 n := by rw [show span 0 n = pre2 ++ d :: post2 from e2]; simp
        obtain ⟨d0, d1⟩ := mem_span.mp hd
        have d1 : d < (n : Int) := by omega
        have hun : u.toNat < n := by omega
        have hdn : d.toNat < n := by omega
        obtain ⟨t, gn⟩ := s
        have j1 : Shp n t := j1
        have tt : TG n chs t := ht.part j1 j2
        obtain ⟨row, e3, e4⟩ := tab_at j1 u0 u1 d0 d1
        have hcl := tt.len _ _ hun hdn
        refine en_bndE (a := (cell t u.toNat d.toNat).filter fun c => decide (OkC chs t d.toNat c)) (en_bndE (a := cell t u.toNat d.toNat) (en_bndE (en_optE e3) (en_optE e4)) (en_lcF _ _ (by omega) (fun c hc => ?_) (fun c _ _ => en_eq _))) ?_
        · obtain ⟨c0, c1⟩ := tt.rng _ _ hun hdn c hc
          obtain ⟨ch, a1, _, a2, _⟩ := ch_at g c0 c1
          have v := tgt_rng g c0 c1
          obtain ⟨r2, b1, b2⟩ := tab_at j1 v.1 v.2 d0 d1
          refine en_bndE (a := decide (tgt chs c = d)) (en_bndE (a := tgt chs c) (en_bndE (en_optE a1) (en_ret a2)) (en_eq _)) (en_sel (fun h => en_ret ?_) (fun h => ?_))
          · symm
            refine decide_eq_true (.inl ?_)
            have := of_decide_eq_true h
            omega
          · refine en_bndE (a := cell t (tgt chs c).toNat d.toNat) (en_bndE (a := tgt chs c) (en_bndE (en_optE a1) (en_ret a2)) (en_bndE (en_optE b1) (en_optE b2))) ((en_eqLNW ee_I (by decide) _ _).mono fun v e => ?_)
            rw [e]
            have := of_decide_eq_false h
            by_cases q : cell t (tgt chs c).toNat d.toNat = []
            · rw [decide_eq_true q, decide_eq_false (fun z => z.elim (fun z => this (by omega)) fun z => z q)]
              rfl
            · rw [decide_eq_false q, decide_eq_true (show OkC chs t d.toNat c from .inr q)]
              rfl
        · generalize hkp : ((cell t u.toNat d.toNat).filter fun c => decide (OkC chs t d.toNat c)) = kept
          refine en_bndE (en_bndE (a := cell t u.toNat d.toNat) (en_bndE (en_optE e3) (en_optE e4)) (en_eqLNW ee_I (by decide) _ _)) (en_sel (fun h => ?_) (fun h => ?_))
          · have hne : kept ≠ cell t u.toNat d.toNat := by simpa using h
            refine en_set3 j1 u0 u1 d0 d1 (en_bndE (en_eq _) (hk2 _ ?_))
            have hcs := cell_set (e := kept) j1 hun hdn
            have hsz := size_set (e := kept) j1 hun hdn
            have hsub : kept.Sublist (cell t u.toNat d.toNat) := by rw [← hkp]; exact List.filter_sublist
            have hlt : kept.length < (cell t u.toNat d.toNat).length := by
              have h1 := hsub.length_le
              rcases Nat.lt_or_ge kept.length (cell t u.toNat d.toNat).length with h | h
              · exact h
              · exact absurd (hsub.eq_of_length_le h) hne
            refine ⟨shp_set j1 hun _ _, fun i j hi hj => ?_, fun s' hs hl i j hi hj c hc => ?_, (by show sizeT (setC t u.toNat d.toNat kept) ≤ _; have : sizeT t ≤ sizeT cur := j4; omega), fun _ => (by show sizeT (setC t u.toNat d.toNat kept) < _; have : sizeT t ≤ sizeT cur := j4; omega), fun h => (by cases h)⟩
            · show (cell (setC t u.toNat d.toNat kept) i j).Sublist _
              rw [hcs]
              split
              · rename_i h
                rw [h.1, h.2]
                exact hsub.trans (j2 _ _ hun hdn)
              · exact j2 i j hi hj
            · have hin : c ∈ cell t i j := j3 s' hs hl i j hi hj c hc
              show c ∈ cell (setC t u.toNat d.toNat kept) i j
              rw [hcs]
              split
              · rename_i h
                rw [← hkp, List.mem_filter, ← h.1, ← h.2]
                refine ⟨hin, decide_eq_true ?_⟩
                rcases hl i j hi hj c hc with q | q
                · exact .inl q
                · refine .inr fun z => q ?_
                  have hr := tt.rng _ _ hi hj _ hin
                  have hv := tgt_rng g hr.1 hr.2
                  cases hcs2 : cell s' (tgt chs c).toNat j with
                  | nil => rfl
                  | cons a as =>
                    have : a ∈ cell t (tgt chs c).toNat j := j3 s' hs hl (tgt chs c).toNat j (by omega) hj a (by rw [hcs2]; exact List.mem_cons_self)
                    rw [z] at this
                    cases this
              · exact hin
          · have heq : kept = cell t u.toNat d.toNat := by simpa using h
            refine hk2 _ ⟨j1, j2, j3, j4, j5, fun h => ?_⟩
            obtain ⟨q1, q2, q3⟩ := j6 h
            have q1 : t = cur := q1
            subst q1
            refine ⟨rfl, q2, fun d' hd' c hc => ?_⟩
            rcases List.mem_append.mp hd' with hd' | hd'
            · exact q3 d' hd' c hc
            · rw [List.mem_singleton.mp hd'] at hc ⊢
              rw [← heq, ← hkp, List.mem_filter] at hc
              exact of_decide_eq_true hc.2
      · refine hk1 _ ⟨j1, j2, j3, j4, j5, fun h => ⟨(j6 h).1, fun u' hu' d hd c hc => ?_⟩⟩
        rcases List.mem_append.mp hu' with hu' | hu'
        · exact (j6 h).2.1 u' hu' d hd c hc
        · rw [List.mem_singleton.mp hu'] at hc
          exact (j6 h).2.2 (d : Int) (mem_span.mpr (by omega)) c hc
    · obtain ⟨t, gn⟩ := s
      refine hk _ ⟨i1, i2, i3, fun h => ?_⟩ ?_
      · obtain ⟨q1, q2⟩ := i6 h
        have q1 : t = cur := q1
        subst q1
        intro i j hi hj c hc
        exact q2 (i : Int) (mem_span.mpr (by omega)) j hj c hc
      · show sizeT t + (if gn then 1 else 0) < sizeT cur + 1
        cases gn with
        | true =>
          have : sizeT t < sizeT cur := i5 rfl
          simp
          omega
        | false =>
          have : sizeT t ≤ sizeT cur := i4
          simp
          omega
  · obtain ⟨gn, cur⟩ := s
    have hb : gn = false := hb
    subst hb
    have h1 : Shp n cur := h1
    have hl1 := h1.len
    refine en_bndE (en_eq _) ((en_lcM (fun r => r) _ (by show cur.length ≤ _; omega) (fun r hr => en_bndE (en_eq _) ((en_lcM (fun x => x) _ (by rw [h1.row r hr]; omega) (fun x _ => en_eq _)).mono fun v e => by rw [e, List.map_id']))).mono fun v e => ?_)
    have e : v = cur := by rw [e, List.map_id']
    subst e
    exact ⟨by rw [hlen]; exact h1, by rw [hlen]; exact h2, (by rw [hlen]; exact h4 rfl), by rw [hlen]; exact h3⟩
end Cf
/-! The draws family: the fabric. -/
namespace Cf
open PySem WL L2
structure FG2 (n : Nat) (chs : Chs) (t : Tab) : Prop where
  fg : FG n chs t
  rm : ∀ c ∈ chs, 1 ≤ c.2.2
  m2 : 2 ≤ chs.length
  ne : ∀ c ∈ chs, c.2.1 ≠ c.1
end Cf
/-! k31: what is_count, is_queue, is_state, is_step answer, of any data. -/
namespace Cf
open PySem WL L2
theorem sh_str {a : Str} (h : PyData.strOk a = true) : SeqAt.shaped (.str a) = true := by
  show (PyData.canLay0 (.str a) && decide (PyData.depth (.str a) ≤ 64)) = true
  simp [PyData.canLay0, PyData.depth, h]
theorem en_eqS {a b : Str} (ha : PyData.strOk a = true) (hb : PyData.strOk b = true) : Ens (eqW (eD (.str a)) (eS b)) (fun v => v = decide (a = b)) := en_grd ⟨sh_str ha, sh_str hb⟩ (en_ret (by
  by_cases h : a = b
  · simp [eD, eS, PyData.eqv, h]
  · simp [eD, eS, PyData.eqv, h]))
abbrev fab2 (n : Nat) (chs : Chs) (t : Tab) : (Int × Chs) × Tab := (((n : Int), chs), t)
def roomC (chs : Chs) (c : Int) : Int := (chs.getD c.toNat (0, 0, 0)).2.2
section
variable {n : Nat} {chs : Chs} {t : Tab} (g : FG n chs t)
include g
theorem room_rng {c : Int} (h0 : 0 ≤ c) (h1 : c < chs.length) : 0 ≤ roomC chs c ∧ roomC chs c ≤ 3 := by
  have := g.ng.ch _ (getD_mem (0, 0, 0) (show c.toNat < chs.length by omega))
  exact ⟨this.2.2.2.2.1, this.2.2.2.2.2⟩
end
/-! ### distinct -/
end Cf
/-! k31: what is_state, is_step answer, of any data. -/
/-! k31: states, steps. -/
namespace Cf
open PySem WL L2
abbrev Pk := Int × Int
abbrev St2 := Int × List (List Pk)
def cntq (qs : List (List Pk)) (x : Int) : Nat := (qs.map fun q => (q.map (·.1)).count x).sum
structure GSt (n : Nat) (chs : Chs) (t : Tab) (B : Int) (st : St2) : Prop where
  len : st.2.length = chs.length
  c0 : 0 ≤ st.1
  cB : st.1 ≤ B
  row : ∀ (j : Nat) q, st.2[j]? = some q → (q.length : Int) ≤ roomC chs (j : Int) ∧ ∀ p ∈ q, 0 ≤ p.1 ∧ p.1 < st.1 ∧ 0 ≤ p.2 ∧ p.2 < (n : Int) ∧ (j : Int) ∈ cell t (srcC chs (j : Int)).toNat p.2.toNat
  nd : ∀ x, cntq st.2 x ≤ 1
inductive StepOk (n : Nat) (chs : Chs) (t : Tab) (st : St2) : PyData → Prop
  | put (u d c : Int) (q : List Pk) : 0 ≤ u → u < (n : Int) → 0 ≤ d → d < (n : Int) → c ∈ cell t u.toNat d.toNat → 0 ≤ c → st.2[c.toNat]? = some q → (q.length : Int) < roomC chs c → StepOk n chs t st (.tuple [.str "put", .int u, .int d, .int c])
  | go (c c2 : Int) (p : Pk) (q q2 : List Pk) : 0 ≤ c → st.2[c.toNat]? = some (p :: q) → 0 ≤ c2 → c2 ∈ cell t (tgt chs c).toNat p.2.toNat → st.2[c2.toNat]? = some q2 → (q2.length : Int) < roomC chs c2 → StepOk n chs t st (.tuple [.str "go", .int c, .int c2])
  | out (c : Int) (p : Pk) (q : List Pk) : 0 ≤ c → st.2[c.toNat]? = some (p :: q) → tgt chs c = p.2 → StepOk n chs t st (.tuple [.str "out", .int c])
theorem en_hd {w w' : Str} {rest : List PyData} (h : PyData.strOk w = true) (h' : PyData.strOk w' = true) : Ens (bnd (bnd (opt (asT (.tuple (.str w :: rest)))) fun x3 => opt (atI x3 (0 : Int))) fun x4 => eqW (eD x4) (eS w')) (fun v => v = decide (w = w')) :=
  en_bndE (en_bndE (en_optE (a := PyData.str w :: rest) rfl) (en_optE (at_zero _ _))) (en_eqS h h')
theorem ok_put : PyData.strOk ("put" : Str) = true := by decide +kernel
theorem ok_go : PyData.strOk ("go" : Str) = true := by decide +kernel
theorem ok_out : PyData.strOk ("out" : Str) = true := by decide +kernel
theorem pp : decide (("put" : Str) = "put") = true := by decide +kernel
theorem gp : decide (("go" : Str) = "put") = false := by decide +kernel
theorem op : decide (("out" : Str) = "put") = false := by decide +kernel
theorem go_ : decide (("go" : Str) = "out") = false := by decide +kernel
theorem oo : decide (("out" : Str) = "out") = true := by decide +kernel
theorem gg : decide (("go" : Str) = "go") = true := by decide +kernel
theorem og : decide (("out" : Str) = "go") = false := by decide +kernel
section
variable {n : Nat} {chs : Chs} {t : Tab} (g : FG n chs t)
include g
theorem room_at {c : Int} (h0 : 0 ≤ c) (h1 : c < chs.length) : Ens (bnd (opt (atI chs c)) fun x => ret x.2.2) (fun v => v = roomC chs c) := en_bndE (en_optE (atI_getD (0, 0, 0) h0 h1)) (en_ret rfl)
end
end Cf
/-! k31: what a step makes of a state; the drawn state. -/
namespace Cf
open PySem WL L2
section
variable {F β : Type}
theorem en_app2 {xss : List (List β)} {wi : Wp Int} {w : Wp β} {k : List (List β) → Wp F} {Q : F → Prop} {i : Int} {row : List β} {x : β} (hi : Ens wi (fun v => v = i)) (h0 : 0 ≤ i) (hrow : xss[i.toNat]? = some row) (hw : Ens w (fun v => v = x)) (hl : row.length < 16777216) (hk : Ens (k (xss.set i.toNat (row ++ [x]))) Q) : Ens (app2W xss wi w k) Q := by
  have hlt := (List.getElem?_eq_some_iff.mp hrow).1
  unfold app2W rowW
  exact en_bndE hi (en_bndE (en_optE (a := i.toNat) (by unfold ixN; rw [if_pos h0, if_pos (by omega)])) (en_bndE (en_optE hrow) (en_bndE hw (en_grd hl hk))))
theorem en_pop2 {xss : List (List β)} {wi wz : Wp Int} {k : β → List (List β) → Wp F} {Q : F → Prop} {i : Int} {row : List β} {x : β} (hi : Ens wi (fun v => v = i)) (h0 : 0 ≤ i) (hrow : xss[i.toNat]? = some (x :: row)) (hz : Ens wz (fun v => v = 0)) (hk : Ens (k x (xss.set i.toNat row)) Q) : Ens (pop2W xss wi wz k) Q := by
  have hlt := (List.getElem?_eq_some_iff.mp hrow).1
  unfold pop2W rowW
  exact en_bndE hi (en_bndE (en_optE (a := i.toNat) (by unfold ixN; rw [if_pos h0, if_pos (by omega)])) (en_bndE (en_optE hrow) (en_bndE hz (en_grd (by decide) (en_bndE (en_optE (a := 0) (by unfold ixN; rw [if_pos (by decide), if_pos (by rw [List.length_cons]; omega)]; rfl)) (en_bndE (en_optE (a := x) rfl) hk))))))
end
theorem cntq_set {qs : List (List Pk)} {j : Nat} {q q' : List Pk} (h : qs[j]? = some q) (x : Int) : cntq (qs.set j q') x + (q.map (·.1)).count x = cntq qs x + (q'.map (·.1)).count x := by
  obtain ⟨hj, hq⟩ := List.getElem?_eq_some_iff.mp h
  have e := sum_set (l := qs.map fun q => (q.map (·.1)).count x) (i := j) ((q'.map (·.1)).count x) (by rw [List.length_map]; exact hj)
  unfold cntq
  rw [List.map_set]
  rw [List.getElem_map, hq] at e
  exact e
theorem cntq_zero {x : Int} : ∀ {qs : List (List Pk)}, (∀ q ∈ qs, ∀ p ∈ q, p.1 ≠ x) → cntq qs x = 0
  | [], _ => rfl
  | q :: qs, h => by
    have ih := cntq_zero fun r hr => h r (List.mem_cons_of_mem _ hr)
    unfold cntq at ih ⊢
    rw [List.map_cons, List.sum_cons, ih, Nat.add_zero]
    refine List.count_eq_zero.mpr fun hx => ?_
    obtain ⟨p, hp, e⟩ := List.mem_map.mp hx
    exact h q List.mem_cons_self p hp e
theorem GSt.mono {n : Nat} {chs : Chs} {t : Tab} {B B' : Int} {st : St2} (h : GSt n chs t B st) {a : Int} (ha : st.1 ≤ a) (hB : a ≤ B') : GSt n chs t B' (a, st.2) :=
  ⟨h.len, Int.le_trans h.c0 ha, hB, fun j q hq => ⟨(h.row j q hq).1, fun p hp => by
    obtain ⟨a1, a2, a3⟩ := (h.row j q hq).2 p hp
    exact ⟨a1, Int.lt_of_lt_of_le a2 ha, a3⟩⟩, h.nd⟩
theorem GSt.set {n : Nat} {chs : Chs} {t : Tab} {B B' : Int} {st : St2} (h : GSt n chs t B st) {k : Nat} {q q' : List Pk} (hq : st.2[k]? = some q) {a : Int} (ha : st.1 ≤ a) (hB : a ≤ B') (hl : (q'.length : Int) ≤ roomC chs (k : Int))
    (hp : ∀ p ∈ q', 0 ≤ p.1 ∧ p.1 < a ∧ 0 ≤ p.2 ∧ p.2 < (n : Int) ∧ (k : Int) ∈ cell t (srcC chs (k : Int)).toNat p.2.toNat) (hn : ∀ x, cntq (st.2.set k q') x ≤ 1) : GSt n chs t B' (a, st.2.set k q') :=
  ⟨by show (st.2.set k q').length = _; rw [List.length_set]; exact h.len, Int.le_trans h.c0 ha, hB, fun j r hr => by
    replace hr : (st.2.set k q')[j]? = some r := hr
    rw [List.getElem?_set] at hr
    split at hr
    · rename_i e
      subst e
      split at hr
      · replace hr := Option.some.inj hr
        subst hr
        exact ⟨hl, hp⟩
      · cases hr
    · refine ⟨(h.row j r hr).1, fun p hp => ?_⟩
      obtain ⟨a1, a2, a3⟩ := (h.row j r hr).2 p hp
      exact ⟨a1, Int.lt_of_lt_of_le a2 ha, a3⟩, hn⟩
theorem tuple_rows {chs : Chs} {qs : List (List Pk)} (h : qs.length ≤ 12) (hq : ∀ q ∈ qs, q.length ≤ 16777216) : Ens (bnd (ret qs) fun l30 => lcG (fun c29 => (ret true)) (fun c29 => (ret c29)) l30) (fun v => v = qs) := en_bndE (en_eq _) ((en_lcM (fun x => x) _ (by omega) fun x _ => en_eq _).mono fun v e => by rw [e, List.map_id'])
/-! ### lists of steps -/
theorem StepOk.lay {n : Nat} {chs : Chs} {t : Tab} {st : St2} {y : PyData} (h : StepOk n chs t st y) : y.canLay0 = true ∧ y.depth ≤ 1 := by
  cases h with
  | put => exact ⟨by simp [PyData.canLay0, PyData.canLayAll0, ok_put], by simp [PyData.depth, PyData.depthAll]⟩
  | go => exact ⟨by simp [PyData.canLay0, PyData.canLayAll0, ok_go], by simp [PyData.depth, PyData.depthAll]⟩
  | out => exact ⟨by simp [PyData.canLay0, PyData.canLayAll0, ok_out], by simp [PyData.depth, PyData.depthAll]⟩
theorem repL_one {α : Type} (x : α) (k : Int) : repL [x] k = List.replicate k.toNat x := by
  unfold repL
  induction k.toNat with
  | zero => rfl
  | succ m ih => rw [List.replicate_succ, List.flatten_cons, ih]; rfl
end Cf
/-! k31: good states, bad states, the law. -/
/-! k38: a state's queues; jams. -/
namespace Cf
open PySem WL L2
def rowS (st : St2) (c : Int) : List Pk := st.2.getD c.toNat []
def hdS (st : St2) (c : Int) : Option Pk := (rowS st c).head?
def fullS (chs : Chs) (st : St2) (c : Int) : Bool := decide (((rowS st c).length : Int) = roomC chs c)
def nxS (chs : Chs) (t : Tab) (st : St2) (c : Int) : List Int := match hdS st c with
  | none => []
  | some p => cell t (tgt chs c).toNat p.2.toNat
section
variable {n : Nat} {chs : Chs} {t : Tab} {B : Int} {st : St2} (g : FG2 n chs t) (gs : GSt n chs t B st)
include g gs
theorem row_get {c : Int} (c0 : 0 ≤ c) (c1 : c < chs.length) : st.2[c.toNat]? = some (rowS st c) := by
  have hl := gs.len
  have hc : c.toNat < st.2.length := by omega
  unfold rowS
  rw [getD_lt hc, List.getElem?_eq_getElem hc]
theorem row_at {c : Int} (c0 : 0 ≤ c) (c1 : c < chs.length) : atI st.2 c = some (rowS st c) := by
  have hl := gs.len
  exact at_getD ([] : List Pk) c0 (by omega)
theorem row_ok {c : Int} (c0 : 0 ≤ c) (c1 : c < chs.length) : ((rowS st c).length : Int) ≤ roomC chs c ∧ ∀ p ∈ rowS st c, 0 ≤ p.1 ∧ p.1 < st.1 ∧ 0 ≤ p.2 ∧ p.2 < (n : Int) ∧ c ∈ cell t (srcC chs c).toNat p.2.toNat := by
  have := gs.row c.toNat _ (row_get g gs c0 c1)
  rw [show ((c.toNat : Nat) : Int) = c by omega] at this
  exact this
theorem row_len {c : Int} (c0 : 0 ≤ c) (c1 : c < chs.length) : (rowS st c).length ≤ 3 := by
  have h1 := (row_ok g gs c0 c1).1
  have h2 := (room_rng g.fg c0 c1).2
  omega
theorem hd_mem {c : Int} {p : Pk} (h : hdS st c = some p) : p ∈ rowS st c := List.mem_of_mem_head? (by unfold hdS at h; rw [h]; rfl)
theorem hd_ok {c : Int} (c0 : 0 ≤ c) (c1 : c < chs.length) {p : Pk} (h : hdS st c = some p) : 0 ≤ p.2 ∧ p.2 < (n : Int) := by
  have := (row_ok g gs c0 c1).2 p (hd_mem g gs h)
  exact ⟨this.2.2.1, this.2.2.2.1⟩
theorem nx_rng {c x : Int} (c0 : 0 ≤ c) (c1 : c < chs.length) (hx : x ∈ nxS chs t st c) : 0 ≤ x ∧ x < chs.length := by
  unfold nxS at hx
  split at hx
  · cases hx
  · rename_i p h
    have := hd_ok g gs c0 c1 h
    have v := tgt_rng g.fg.ng c0 c1
    exact g.fg.tg.rng _ _ (by omega) (by omega) x hx
theorem nx_len {c : Int} (c0 : 0 ≤ c) (c1 : c < chs.length) : (nxS chs t st c).length ≤ 12 := by
  unfold nxS
  split
  · exact Nat.zero_le _
  · rename_i p h
    have := hd_ok g gs c0 c1 h
    have v := tgt_rng g.fg.ng c0 c1
    exact g.fg.tg.len _ _ (by omega) (by omega)
theorem en_home {c d : Int} (c0 : 0 ≤ c) (c1 : c < chs.length) : Ens (noX (p_is_home (fab2 n chs t) c d)) (fun v => v = decide (tgt chs c = d)) := by
  obtain ⟨ch, e1, _, e2, _⟩ := ch_at g.fg.ng c0 c1
  exact en_noX (en_bndE (en_bndE (en_optE e1) (en_ret e2)) (en_eq _))
theorem en_lhome {c d : Int} (c0 : 0 ≤ c) (c1 : c < chs.length) : Ens (noX (l_home (fab2 n chs t) c d)) (fun v => v = decide (tgt chs c = d)) := by
  obtain ⟨ch, e1, _, e2, _⟩ := ch_at g.fg.ng c0 c1
  exact en_noX (en_bndE (en_bndE (en_optE e1) (en_ret e2)) (en_eq _))
theorem en_opts {c d : Int} (c0 : 0 ≤ c) (c1 : c < chs.length) (d0 : 0 ≤ d) (d1 : d < (n : Int)) : Ens (noX (p_options (fab2 n chs t) c d)) (fun v => v = cell t (tgt chs c).toNat d.toNat) := by
  obtain ⟨ch, e1, _, e2, _⟩ := ch_at g.fg.ng c0 c1
  have v := tgt_rng g.fg.ng c0 c1
  obtain ⟨row, e3, e4⟩ := tab_at g.fg.tg.shp v.1 v.2 d0 d1
  exact en_noX (en_bndE (en_eq _) (en_bndE (en_bndE (en_bndE (en_optE e1) (en_ret e2)) (en_optE e3)) (en_optE e4)))
theorem en_lopts {c d : Int} (c0 : 0 ≤ c) (c1 : c < chs.length) (d0 : 0 ≤ d) (d1 : d < (n : Int)) : Ens (noX (l_options (fab2 n chs t) c d)) (fun v => v = cell t (tgt chs c).toNat d.toNat) := by
  obtain ⟨ch, e1, _, e2, _⟩ := ch_at g.fg.ng c0 c1
  have v := tgt_rng g.fg.ng c0 c1
  obtain ⟨row, e3, e4⟩ := tab_at g.fg.tg.shp v.1 v.2 d0 d1
  exact en_noX (en_bndE (en_bndE (en_bndE (en_optE e1) (en_ret e2)) (en_optE e3)) (en_optE e4))
theorem en_first {c : Int} (c0 : 0 ≤ c) (c1 : c < chs.length) : Ens (noX (p_first_of st c)) (fun v => v = hdS st c) := by
  have e := row_at g gs c0 c1
  refine en_noX (en_bndE (en_bndE (a := ((rowS st c).length : Int)) (en_bndE (en_optE e) (en_eq _)) (en_eq _)) ?_)
  unfold hdS
  cases h : rowS st c with
  | nil => exact en_sel (fun z => absurd (of_decide_eq_true z) (by simp)) (fun _ => en_eq _)
  | cons p q =>
    rw [h] at e
    exact en_sel (fun _ => en_bndE (a := p) (en_bndE (en_optE e) (en_optE (at_zero p q))) (en_eq _)) (fun z => absurd (of_decide_eq_false z) (by rw [List.length_cons]; omega))
theorem en_full {c : Int} (c0 : 0 ≤ c) (c1 : c < chs.length) : Ens (noX (p_is_full (fab2 n chs t) st c)) (fun v => v = fullS chs st c) :=
  en_noX (en_bndE (a := ((rowS st c).length : Int)) (en_bndE (en_optE (row_at g gs c0 c1)) (en_eq _)) (en_bndE (room_at g.fg c0 c1) (en_eq _)))
theorem en_next {c : Int} (c0 : 0 ≤ c) (c1 : c < chs.length) : Ens (noX (p_next_options (fab2 n chs t) st c)) (fun v => v = nxS chs t st c) := by
  refine en_noX (en_bndE (en_first g gs c0 c1) ?_)
  unfold nxS
  cases h : hdS st c with
  | none => exact en_sel (fun _ => en_eq _) (fun z => by cases z)
  | some p =>
    have := hd_ok g gs c0 c1 h
    exact en_sel (fun z => (by cases z)) (fun _ => en_bndE (en_bndE (en_optE (a := p) rfl) (en_eq _)) (en_opts g gs c0 c1 this.1 this.2))
end
/-! ### jams -/
end Cf
/-! k38: stages, the greatest jam, stops, ways out. -/
/-! the least of pairs of ints -/
/-! k38: ways out. -/
/-! k38: is_jam, the law's own, is_stop. -/
namespace Cf
open PySem WL L2
theorem asc_uniq : ∀ {a b : List Int}, a.Pairwise (· < ·) → b.Pairwise (· < ·) → (∀ k, k ∈ a ↔ k ∈ b) → a = b
  | [], [], _, _, _ => rfl
  | [], y :: ys, _, _, h => absurd ((h y).mpr List.mem_cons_self) (by simp)
  | x :: xs, [], _, _, h => absurd ((h x).mp List.mem_cons_self) (by simp)
  | x :: xs, y :: ys, ha, hb, h => by
    rw [List.pairwise_cons] at ha hb
    have e : x = y := by
      rcases List.mem_cons.mp ((h x).mp List.mem_cons_self) with e | e
      · exact e
      · rcases List.mem_cons.mp ((h y).mpr List.mem_cons_self) with e2 | e2
        · exact e2.symm
        · have := hb.1 x e
          have := ha.1 y e2
          omega
    subst e
    rw [asc_uniq ha.2 hb.2 fun k => ?_]
    have hk := h k
    rw [List.mem_cons, List.mem_cons] at hk
    constructor
    · intro m
      rcases hk.mp (.inr m) with e | e
      · have := ha.1 k m
        omega
      · exact e
    · intro m
      rcases hk.mpr (.inr m) with e | e
      · have := hb.1 k m
        omega
      · exact e
end Cf
/-! k38: moves. -/
namespace Cf
open PySem WL L2
inductive Mv where
  | go (a b : Int)
  | out (a : Int)
def mvD : Mv → PyData
  | .go a b => .tuple [.str "go", .int a, .int b]
  | .out a => .tuple [.str "out", .int a]
def Mv.ok : Mv → Prop
  | .go a b => 0 ≤ a ∧ 0 ≤ b
  | .out a => 0 ≤ a
def Mv.ch : Mv → Int
  | .go a _ => a
  | .out a => a
def alwM (chs : Chs) (t : Tab) (st : St2) : Mv → Bool
  | .go a b => decide (b ∈ nxS chs t st a) && !fullS chs st b
  | .out a => match hdS st a with
    | none => false
    | some p => decide (tgt chs a = p.2)
def nxtM (st : St2) : Mv → St2
  | .go a b => (st.1, (st.2.set a.toNat (rowS st a).tail).set b.toNat (rowS st b ++ (hdS st a).toList))
  | .out a => (st.1, st.2.set a.toNat (rowS st a).tail)
theorem hd_rng {chs : Chs} {st : St2} (hl : st.2.length = chs.length) {a : Int} (a0 : 0 ≤ a) {p : Pk} (h : hdS st a = some p) : a < chs.length ∧ rowS st a = p :: (rowS st a).tail := by
  unfold hdS at h
  have hne : rowS st a ≠ [] := fun z => by rw [z] at h; cases h
  constructor
  · rcases Int.lt_or_le a chs.length with q | q
    · exact q
    · refine absurd ?_ hne
      unfold rowS
      rw [List.getD_eq_getElem?_getD, List.getElem?_eq_none (by omega)]
      rfl
  · cases hr : rowS st a with
    | nil => exact absurd hr hne
    | cons x xs =>
      rw [hr] at h
      cases h
      rfl
section
variable {n : Nat} {chs : Chs} {t : Tab} {B : Int} {st : St2} (g : FG2 n chs t) (gs : GSt n chs t B st)
include g gs
theorem go_facts {a b : Int} (a0 : 0 ≤ a) (h : alwM chs t st (.go a b) = true) : ∃ p, hdS st a = some p ∧ a < chs.length ∧ rowS st a = p :: (rowS st a).tail ∧ 0 ≤ b ∧ b < chs.length ∧ b ∈ cell t (tgt chs a).toNat p.2.toNat ∧ ((rowS st b).length : Int) < roomC chs b ∧ a ≠ b := by
  have h : (decide (b ∈ nxS chs t st a) && !fullS chs st b) = true := h
  rw [Bool.and_eq_true, Bool.not_eq_true'] at h
  have hb := of_decide_eq_true h.1
  cases hp : hdS st a with
  | none =>
    unfold nxS at hb
    rw [hp] at hb
    cases hb
  | some p =>
    obtain ⟨a1, ha⟩ := hd_rng (chs := chs) gs.len a0 hp
    obtain ⟨b0, b1⟩ := nx_rng g gs a0 a1 hb
    have hc : b ∈ cell t (tgt chs a).toNat p.2.toNat := by
      unfold nxS at hb
      rw [hp] at hb
      exact hb
    refine ⟨p, rfl, a1, ha, b0, b1, hc, ?_, fun e => ?_⟩
    · have h1 := (row_ok g gs b0 b1).1
      have h2 := of_decide_eq_false h.2
      omega
    · subst e
      have hd := hd_ok g gs a0 a1 hp
      have v := tgt_rng g.fg.ng a0 a1
      have hs := g.fg.src (tgt chs a).toNat p.2.toNat (by omega) (by omega) _ hc
      have := g.ne _ (getD_mem (0, 0, 0) (show a.toNat < chs.length by omega))
      have : tgt chs a ≠ srcC chs a := this
      omega
theorem nxt_ok {m : Mv} (hm : m.ok) (h : alwM chs t st m = true) : GSt n chs t B (nxtM st m) := by
  have hl := gs.len
  cases m with
  | go a b =>
    obtain ⟨p, hp, a1, ha, b0, b1, hc, hroom, hne⟩ := go_facts g gs hm.1 h
    have a0 : 0 ≤ a := hm.1
    obtain ⟨k, rfl⟩ := Int.eq_ofNat_of_zero_le a0
    obtain ⟨k2, rfl⟩ := Int.eq_ofNat_of_zero_le b0
    have hq := row_get g gs a0 a1
    have hq2 := row_get g gs b0 b1
    have hq : st.2[k]? = some (rowS st (k : Int)) := hq
    have hq2 : st.2[k2]? = some (rowS st (k2 : Int)) := hq2
    show GSt n chs t B (st.1, (st.2.set k (rowS st (k : Int)).tail).set k2 (rowS st (k2 : Int) ++ (hdS st (k : Int)).toList))
    rw [hp]
    show GSt n chs t B (st.1, (st.2.set k (rowS st (k : Int)).tail).set k2 (rowS st (k2 : Int) ++ [p]))
    rw [ha] at hq
    generalize (rowS st (k : Int)).tail = q at hq ha
    generalize rowS st (k2 : Int) = q2 at hq2 hroom
    have v := tgt_rng g.fg.ng (c := (k : Int)) (by omega) (by omega)
    obtain ⟨hroom1, hps⟩ := gs.row k _ hq
    obtain ⟨x1, x2, x3, x4, x5⟩ := hps p List.mem_cons_self
    have hs := g.fg.src (tgt chs (k : Int)).toNat p.2.toNat (by omega) (by omega) _ hc
    have g1 : GSt n chs t B (st.1, st.2.set k q) := by
      refine gs.set hq (Int.le_refl _) gs.cB (by rw [List.length_cons] at hroom1; omega) (fun p' hp' => hps p' (List.mem_cons_of_mem _ hp')) (fun x => ?_)
      have e := cntq_set (q' := q) hq x
      simp only [List.map_cons, List.count_cons] at e
      have hx := gs.nd x
      omega
    have hq3 : (st.2.set k q)[k2]? = some q2 := by rw [List.getElem?_set, if_neg (by omega)]; exact hq2
    refine g1.set (k := k2) (q := q2) hq3 (Int.le_refl _) gs.cB (by rw [List.length_append, List.length_singleton]; omega) (fun p' hp' => ?_) (fun x => ?_)
    · rcases List.mem_append.mp hp' with hp' | hp'
      · exact (g1.row k2 q2 hq3).2 p' hp'
      · rw [List.mem_singleton.mp hp']
        refine ⟨x1, x2, x3, x4, ?_⟩
        rw [hs]
        exact hc
    · have e1 := cntq_set (q' := q) hq x
      have e2 := cntq_set (q' := q2 ++ [p]) hq3 x
      simp only [List.map_append, List.map_cons, List.map_nil, List.count_append, List.count_cons, List.count_nil] at e1 e2
      have hx := gs.nd x
      show cntq ((st.2.set k q).set k2 (q2 ++ [p])) x ≤ 1
      generalize (if (p.1 == x) = true then 1 else 0) = z at e1 e2
      omega
  | out a =>
    have a0 : 0 ≤ a := hm
    cases hp : hdS st a with
    | none =>
      have h : (match hdS st a with | none => false | some p => decide (tgt chs a = p.2)) = true := h
      rw [hp] at h
      cases h
    | some p =>
      obtain ⟨a1, ha⟩ := hd_rng (chs := chs) gs.len a0 hp
      have hq := row_get g gs a0 a1
      obtain ⟨k, rfl⟩ := Int.eq_ofNat_of_zero_le a0
      have hq : st.2[k]? = some (rowS st (k : Int)) := hq
      show GSt n chs t B (st.1, st.2.set k (rowS st (k : Int)).tail)
      rw [ha] at hq
      generalize (rowS st (k : Int)).tail = q at hq ha
      obtain ⟨hroom1, hps⟩ := gs.row k _ hq
      refine gs.set hq (Int.le_refl _) gs.cB (by rw [List.length_cons] at hroom1; omega) (fun p' hp' => hps p' (List.mem_cons_of_mem _ hp')) (fun x => ?_)
      have e := cntq_set (q' := q) hq x
      simp only [List.map_cons, List.count_cons] at e
      have hx := gs.nd x
      omega
omit g gs in
theorem mv_at1 {m : Mv} : Ens (bnd (bnd (opt (asT (mvD m))) fun x => opt (atI x (1 : Int))) fun x => opt (asI x)) (fun v => v = m.ch) := by
  cases m with
  | go a b => exact en_bndE (en_bndE (en_optE (a := [PyData.str "go", PyData.int a, PyData.int b]) rfl) (en_optE rfl)) (en_optE rfl)
  | out a => exact en_bndE (en_bndE (en_optE (a := [PyData.str "out", PyData.int a]) rfl) (en_optE rfl)) (en_optE rfl)
omit g gs in
theorem go_at2 {a b : Int} : Ens (bnd (bnd (opt (asT (mvD (.go a b)))) fun x => opt (atI x (2 : Int))) fun x => opt (asI x)) (fun v => v = b) := en_bndE (en_bndE (en_optE (a := [PyData.str "go", PyData.int a, PyData.int b]) rfl) (en_optE rfl)) (en_optE rfl)
omit g gs in
theorem mv_put {m : Mv} : Ens (bnd (bnd (opt (asT (mvD m))) fun x3 => opt (atI x3 (0 : Int))) fun x4 => eqW (eD x4) (eS ("put" : Str))) (fun v => v = false) := by
  cases m with
  | go a b => exact (en_hd ok_go ok_put).mono fun v e => e.trans gp
  | out a => exact (en_hd ok_out ok_put).mono fun v e => e.trans op
theorem nx_out {a : Int} (h : (chs.length : Int) ≤ a) : hdS st a = none := by
  have hl := gs.len
  unfold hdS rowS
  rw [List.getD_eq_getElem?_getD, List.getElem?_eq_none (by omega)]
  rfl
theorem en_possible {m : Mv} (hm : m.ok) : Ens (noX (p_is_possible (fab2 n chs t) st (mvD m))) (fun v => v = alwM chs t st m) := by
  have hl := gs.len
  refine en_noX (en_bndE (en_eq _) (en_bndE (en_eq _) (en_bndE mv_put (en_sel (fun h => (by cases h)) fun _ => en_bndE (en_bndE mv_at1 (en_eq _)) (en_sel (fun h => en_ret ?_) (fun h => ?_))))))
  · have h := of_decide_eq_true h
    have hn := nx_out g gs (a := m.ch) (by omega)
    cases m with
    | go a b =>
      have hn : hdS st a = none := hn
      show false = (decide (b ∈ nxS chs t st a) && _)
      unfold nxS
      rw [hn]
      simp
    | out a =>
      have hn : hdS st a = none := hn
      show false = match hdS st a with | none => false | some p => decide (tgt chs a = p.2)
      rw [hn]
  · have h := of_decide_eq_false h
    cases m with
    | go a b =>
      have a0 : 0 ≤ a := hm.1
      have b0 : 0 ≤ b := hm.2
      have a1 : a < chs.length := by
        have h : ¬ ((st.2.length : Int) ≤ a) := h
        omega
      refine en_bndE ((en_hd ok_go ok_out).mono fun v e => e.trans go_) (en_sel (fun h => (by cases h)) fun _ => ?_)
      refine en_bndE (a := decide (b ∈ nxS chs t st a)) (en_bndE (a := PyData.int b) (en_bndE (en_optE (a := [PyData.str "go", PyData.int a, PyData.int b]) rfl) (en_optE rfl)) (en_bndE (en_bndE (a := a) mv_at1 (en_next g gs a0 a1)) (en_inD ee_I (by decide) b _))) (en_sel (fun z => ?_) (fun z => en_ret ?_))
      · have hb := nx_rng g gs a0 a1 (of_decide_eq_true z)
        refine en_bndE (en_bndE go_at2 (en_full g gs hb.1 hb.2)) (en_ret ?_)
        show _ = (decide (b ∈ nxS chs t st a) && _)
        rw [z, Bool.true_and]
      · show _ = (decide (b ∈ nxS chs t st a) && _)
        rw [z, Bool.false_and]
    | out a =>
      have a0 : 0 ≤ a := hm
      have a1 : a < chs.length := by
        have h : ¬ ((st.2.length : Int) ≤ a) := h
        omega
      refine en_bndE ((en_hd ok_out ok_out).mono fun v e => e.trans oo) (en_sel (fun _ => ?_) (fun h => by cases h))
      refine en_bndE (a := hdS st a) (en_bndE (a := a) mv_at1 (en_first g gs a0 a1)) ?_
      show Ens _ (fun v => v = match hdS st a with | none => false | some p => decide (tgt chs a = p.2))
      cases hp : hdS st a with
      | none => exact en_sel (fun h => (by cases h)) (fun _ => en_eq _)
      | some p => exact en_sel (fun _ => en_bndE (a := a) mv_at1 (en_bndE (en_bndE (en_optE (a := p) rfl) (en_eq _)) (en_home g gs a0 a1))) (fun h => by cases h)
theorem en_allowedM {m : Mv} (hm : m.ok) : Ens (noX (l_allowed (fab2 n chs t) st (mvD m))) (fun v => v = alwM chs t st m) := by
  have hl := gs.len
  refine en_noX (en_bndE (en_eq _) (en_bndE (en_eq _) (en_bndE mv_put (en_sel (fun h => (by cases h)) fun _ => en_bndE mv_at1 ?_))))
  by_cases hin : m.ch < (chs.length : Int)
  · have m0 : 0 ≤ m.ch := by
      cases m with
      | go a b => exact hm.1
      | out a => exact hm
    have e := row_at g gs m0 hin
    refine en_bndE (a := decide (rowS st m.ch = [])) (en_sel (fun h => absurd (of_decide_eq_true h) (show ¬ ((chs.length : Int) ≤ m.ch) by omega)) fun _ => en_bndE (en_optE e) (en_eqW (ee_T (ee_2 ee_I ee_I)) (by decide) _ _)) (en_sel (fun h => en_ret ?_) (fun h => ?_))
    · have hn : hdS st m.ch = none := by
        unfold hdS
        rw [of_decide_eq_true h]
        rfl
      cases m with
      | go a b =>
        have hn : hdS st a = none := hn
        show false = (decide (b ∈ nxS chs t st a) && _)
        unfold nxS
        rw [hn]
        simp
      | out a =>
        have hn : hdS st a = none := hn
        show false = match hdS st a with | none => false | some p => decide (tgt chs a = p.2)
        rw [hn]
    · have hne := of_decide_eq_false h
      obtain ⟨p, q, hr⟩ : ∃ p q, rowS st m.ch = p :: q := by
        cases hr : rowS st m.ch with
        | nil => exact absurd hr hne
        | cons p q => exact ⟨p, q, rfl⟩
      have hp : hdS st m.ch = some p := by
        unfold hdS
        rw [hr]
        rfl
      rw [hr] at e
      have hd := hd_ok g gs m0 hin hp
      refine en_bndE (a := p.2) (en_bndE (en_bndE (en_optE e) (en_optE (at_zero p q))) (en_eq _)) ?_
      cases m with
      | go a b =>
        have a0 : 0 ≤ a := hm.1
        have a1 : a < chs.length := hin
        have hp : hdS st a = some p := hp
        have hnx : nxS chs t st a = cell t (tgt chs a).toNat p.2.toNat := by unfold nxS; rw [hp]
        refine en_bndE ((en_hd ok_go ok_out).mono fun v e => e.trans go_) (en_sel (fun h => (by cases h)) fun _ => en_bndE go_at2 ?_)
        refine en_bndE (a := decide (b ∈ nxS chs t st a)) (en_bndE (en_lopts g gs a0 a1 hd.1 hd.2) (en_ret (by rw [hnx]; rfl))) (en_sel (fun z => ?_) (fun z => en_ret ?_))
        · have hb := nx_rng g gs a0 a1 (of_decide_eq_true z)
          have hro := (row_ok g gs hb.1 hb.2).1
          refine en_bndE (a := ((rowS st b).length : Int)) (en_bndE (en_optE (row_at g gs hb.1 hb.2)) (en_eq _)) (en_bndE (room_at g.fg hb.1 hb.2) (en_ret ?_))
          show _ = (decide (b ∈ nxS chs t st a) && !decide (((rowS st b).length : Int) = roomC chs b))
          rw [z, Bool.true_and]
          by_cases w : ((rowS st b).length : Int) = roomC chs b
          · rw [decide_eq_true w, decide_eq_false (by omega)]
            rfl
          · rw [decide_eq_false w, decide_eq_true (by omega)]
            rfl
        · show _ = (decide (b ∈ nxS chs t st a) && _)
          rw [z, Bool.false_and]
      | out a =>
        have hp : hdS st a = some p := hp
        refine en_bndE ((en_hd ok_out ok_out).mono fun v e => e.trans oo) (en_sel (fun _ => (en_lhome g gs hm hin).mono fun v e => ?_) (fun h => by cases h))
        rw [e]
        show _ = match hdS st a with | none => false | some p => decide (tgt chs a = p.2)
        rw [hp]
  · have hn := nx_out g gs (a := m.ch) (by omega)
    refine en_bndE (a := true) (en_sel (fun _ => en_eq _) (fun h => absurd (of_decide_eq_false h) (show ¬ ¬ ((chs.length : Int) ≤ m.ch) by omega))) (en_sel (fun _ => en_ret ?_) (fun h => by cases h))
    cases m with
    | go a b =>
      have hn : hdS st a = none := hn
      show false = (decide (b ∈ nxS chs t st a) && _)
      unfold nxS
      rw [hn]
      simp
    | out a =>
      have hn : hdS st a = none := hn
      show false = match hdS st a with | none => false | some p => decide (tgt chs a = p.2)
      rw [hn]
end
end Cf
/-! k38: what a move makes, ways. -/
namespace Cf
open PySem WL L2
theorem en_changed {qs : List (List Pk)} {c : Int} (c0 : 0 ≤ c) (c1 : c < qs.length) (hl : qs.length ≤ 12) (q : List Pk) : Ens (noX (p_changed qs c q)) (fun v => v = qs.set c.toNat q) := by
  have hc : c.toNat < qs.length := by omega
  refine en_noX (en_bndE (a := qs.take c.toNat ++ [q]) (en_grd ?_ (en_ret (by rw [cut_lo _ c0]))) (en_grd ?_ (en_ret ?_)))
  · rw [cut_lo _ c0, List.length_take, List.length_singleton]
    omega
  · rw [cut_hi _ (by omega), List.length_append, List.length_take, List.length_singleton, List.length_drop]
    omega
  · rw [cut_hi _ (by omega), show (c + 1).toNat = c.toNat + 1 by omega, set_cut hc]
section
variable {n : Nat} {chs : Chs} {t : Tab} {B : Int} {st : St2} (g : FG2 n chs t) (gs : GSt n chs t B st)
include g gs
theorem mv_facts {m : Mv} (hm : m.ok) (h : alwM chs t st m = true) : ∃ p, hdS st m.ch = some p ∧ 0 ≤ m.ch ∧ m.ch < chs.length ∧ rowS st m.ch = p :: (rowS st m.ch).tail := by
  cases m with
  | go a b =>
    obtain ⟨p, hp, a1, ha, _⟩ := go_facts g gs hm.1 h
    exact ⟨p, hp, hm.1, a1, ha⟩
  | out a =>
    have h : (match hdS st a with | none => false | some p => decide (tgt chs a = p.2)) = true := h
    cases hp : hdS st a with
    | none =>
      rw [hp] at h
      cases h
    | some p =>
      obtain ⟨a1, ha⟩ := hd_rng (chs := chs) gs.len hm hp
      exact ⟨p, hp, hm, a1, ha⟩
theorem en_moved {m : Mv} (hm : m.ok) (h : alwM chs t st m = true) : Ens (noX (p_moved st (mvD m))) (fun v => v = nxtM st m) := by
  have hl := gs.len
  have hm12 := g.fg.ng.ml
  obtain ⟨p, hp, m0, m1, hr⟩ := mv_facts g gs hm h
  have e := row_at g gs m0 m1
  have hlen := row_len g gs m0 m1
  refine en_noX (en_bndE (en_eq _) (en_bndE mv_put (en_sel (fun h => (by cases h)) fun _ => ?_)))
  refine en_bndE (a := p) (en_bndE (a := rowS st m.ch) (en_bndE mv_at1 (en_optE e)) (en_optE (by rw [hr]; exact at_zero p _))) ?_
  refine en_bndE (a := st.2.set m.ch.toNat (rowS st m.ch).tail) (en_bndE mv_at1 (en_bndE (a := (rowS st m.ch).tail) (en_bndE (a := rowS st m.ch) (en_bndE mv_at1 (en_optE e)) (en_ret (by rw [cut_hi _ (by decide)]; exact List.drop_one))) (en_changed m0 (by omega) (by omega) _))) ?_
  refine en_letK (I := fun s => (st.1, s) = nxtM st m) (fun s hs => en_ret hs) (fun k' hk' => ?_)
  cases m with
  | go a b =>
    obtain ⟨p', hp', a1, ha, b0, b1, hc, hroom, hne⟩ := go_facts g gs hm.1 h
    have a0 : 0 ≤ a := hm.1
    have ep : p' = p := by
      have hp : hdS st a = some p := hp
      rw [hp'] at hp
      exact Option.some.inj hp
    subst ep
    have hbl := row_len g gs b0 b1
    refine en_bndE ((en_hd ok_go ok_go).mono fun v e => e.trans gg) (en_sel (fun _ => ?_) (fun h => by cases h))
    have hget : atI (st.2.set a.toNat (rowS st a).tail) b = some (rowS st b) := by
      have hb := row_get g gs b0 b1
      have hb2 : (st.2.set a.toNat (rowS st a).tail)[b.toNat]? = some (rowS st b) := by
        rw [List.getElem?_set, if_neg (by omega)]
        exact hb
      have := atI_nat hb2
      rwa [show ((b.toNat : Nat) : Int) = b by omega] at this
    refine en_bndE (a := (st.2.set a.toNat (rowS st a).tail).set b.toNat (rowS st b ++ [p'])) (en_bndE go_at2 (en_bndE (a := rowS st b ++ [p']) (en_bndE (a := rowS st b) (en_bndE go_at2 (en_optE hget)) (en_grd (by rw [List.length_singleton]; omega) (en_eq _))) (en_changed b0 (by show b < (((st.2.set a.toNat (rowS st a).tail).length : Nat) : Int); rw [List.length_set]; omega) (by show (st.2.set a.toNat (rowS st a).tail).length ≤ 12; rw [List.length_set]; omega) _))) (hk' _ ?_)
    show _ = (st.1, (st.2.set a.toNat (rowS st a).tail).set b.toNat (rowS st b ++ (hdS st a).toList))
    rw [hp']
    rfl
  | out a =>
    exact en_bndE ((en_hd ok_out ok_go).mono fun v e => e.trans og) (en_sel (fun h => (by cases h)) (fun _ => hk' _ rfl))
theorem en_behindM {m : Mv} (hm : m.ok) (h : alwM chs t st m = true) : Ens (noX (l_behind st (mvD m))) (fun v => v = nxtM st m) := by
  have hl := gs.len
  have hm12 := g.fg.ng.ml
  have gn := nxt_ok g gs hm h
  obtain ⟨p, hp, m0, m1, hr⟩ := mv_facts g gs hm h
  have hq := row_get g gs m0 m1
  rw [hr] at hq
  have rows : ∀ {s : St2}, GSt n chs t B s → ∀ q ∈ s.2, q.length ≤ 16777216 := fun {s} hs q hq => by
    obtain ⟨j, hj, rfl⟩ := List.getElem_of_mem hq
    have h1 := (hs.row j _ (List.getElem?_eq_getElem hj)).1
    have hlen := hs.len
    have h2 := (room_rng g.fg (c := (j : Int)) (by omega) (by omega)).2
    omega
  refine en_noX (en_bndE (en_eq _) (en_bndE (a := st.2) (tuple_rows (chs := chs) (by omega) (rows gs)) ?_))
  refine en_letK (I := fun s => (s.2, s.1) = nxtM st m) (fun s hs => ?_) (fun k' hk' => ?_)
  · have e1 : s.1 = (nxtM st m).2 := by rw [← hs]
    refine en_bndE (a := s.1) (tuple_rows (chs := chs) (by rw [e1, gn.len]; omega) (by rw [e1]; exact rows gn)) (en_ret hs)
  refine en_bndE mv_put (en_sel (fun h => (by cases h)) fun _ => ?_)
  refine en_pop2 (i := m.ch) (row := (rowS st m.ch).tail) (x := p) mv_at1 m0 hq (en_eq _) ?_
  cases m with
  | go a b =>
    obtain ⟨p', hp', a1, ha, b0, b1, hc, hroom, hne⟩ := go_facts g gs hm.1 h
    have a0 : 0 ≤ a := hm.1
    have ep : p' = p := by
      have hp : hdS st a = some p := hp
      rw [hp'] at hp
      exact Option.some.inj hp
    subst ep
    have hbl := row_len g gs b0 b1
    refine en_bndE ((en_hd ok_go ok_go).mono fun v e => e.trans gg) (en_sel (fun _ => ?_) (fun h => by cases h))
    have hb := row_get g gs b0 b1
    have hb2 : (st.2.set a.toNat (rowS st a).tail)[b.toNat]? = some (rowS st b) := by
      rw [List.getElem?_set, if_neg (by omega)]
      exact hb
    refine en_app2 (i := b) (row := rowS st b) (x := p') go_at2 b0 hb2 (en_eq _) (by omega) (hk' _ ?_)
    show _ = (st.1, (st.2.set a.toNat (rowS st a).tail).set b.toNat (rowS st b ++ (hdS st a).toList))
    rw [hp']
    rfl
  | out a =>
    exact en_bndE ((en_hd ok_out ok_go).mono fun v e => e.trans og) (en_sel (fun h => (by cases h)) (fun _ => hk' _ rfl))
end
/-! ### a way -/
end Cf
/-! k32: steps that are allowed are possible; what they make. -/
namespace Cf
open PySem WL L2
theorem repL_st {n : Nat} {chs : Chs} {t : Tab} (g : FG2 n chs t) : Ens (noX (p_empty_state (fab2 n chs t))) (fun v => v = ((0 : Int), List.replicate chs.length ([] : List Pk)) ∧ GSt n chs t 0 v) := by
  have hm := g.fg.ng.ml
  have hm2 := g.m2
  refine en_noX (en_bndE (a := List.replicate chs.length ([] : List Pk)) (en_grd ⟨by simp, by show (2 : Int) ≤ (chs.length : Int); omega, by show (chs.length : Int) ≤ 1000; omega, by decide⟩ (en_ret (repL_one _ _))) (en_ret ⟨rfl, by simp, Int.le_refl _, Int.le_refl _, fun j q hq => ?_, fun x => ?_⟩))
  · have hq : (List.replicate chs.length ([] : List Pk))[j]? = some q := hq
    have hj := (List.getElem?_eq_some_iff.mp hq).1
    rw [List.length_replicate] at hj
    rw [List.getElem?_replicate, if_pos hj] at hq
    cases hq
    exact ⟨(room_rng g.fg (c := (j : Int)) (by omega) (by omega)).1, fun p hp => (by cases hp)⟩
  · rw [show cntq ((0 : Int), List.replicate chs.length ([] : List Pk)).2 x = 0 from cntq_zero fun q hq p hp => by
      rw [(List.mem_replicate.mp hq).2] at hp
      cases hp]
    omega
section
variable {n : Nat} {chs : Chs} {t : Tab} {B : Int} {st : St2} (g : FG2 n chs t) (gs : GSt n chs t B st)
include g gs
theorem en_movput {u d c : Int} (c0 : 0 ≤ c) (c1 : c < chs.length) : Ens (noX (p_moved st (.tuple [.str "put", .int u, .int d, .int c]))) (fun v => v = (st.1 + 1, st.2.set c.toNat (rowS st c ++ [(st.1, d)]))) := by
  have hl := gs.len
  have hm := g.fg.ng.ml
  have hrl := row_len g gs c0 c1
  refine en_noX (en_bndE (en_eq _) (en_bndE (en_hd ok_put ok_put) (en_sel (fun _ => ?_) (fun h => by rw [pp] at h; cases h))))
  refine en_bndE (en_optE (a := (("put" : Str), u, d, c)) rfl) ?_
  exact en_bndE (en_bndE (a := rowS st c ++ [(st.1, d)]) (en_bndE (en_optE (row_at g gs c0 c1)) (en_grd (by rw [List.length_singleton]; show (rowS st c).length + 1 ≤ _; omega) (en_eq _))) (en_changed c0 (by show c < ((st.2.length : Nat) : Int); omega) (by omega) _)) (en_eq _)
theorem put_ok {d c : Int} (c0 : 0 ≤ c) (c1 : c < chs.length) (d0 : 0 ≤ d) (d1 : d < (n : Int)) (hc : c ∈ cell t (srcC chs c).toNat d.toNat) (hr : ((rowS st c).length : Int) < roomC chs c) : GSt n chs t (B + 1) (st.1 + 1, st.2.set c.toNat (rowS st c ++ [(st.1, d)])) := by
  have hq := row_get g gs c0 c1
  obtain ⟨k, rfl⟩ := Int.eq_ofNat_of_zero_le c0
  have hq : st.2[k]? = some (rowS st (k : Int)) := hq
  show GSt n chs t (B + 1) (st.1 + 1, st.2.set k (rowS st (k : Int) ++ [(st.1, d)]))
  generalize rowS st (k : Int) = q at hq hr
  refine gs.set (k := k) (q := q) hq (by omega) (by have := gs.cB; omega) (by rw [List.length_append, List.length_singleton]; omega) (fun p hp => ?_) (fun x => ?_)
  · rcases List.mem_append.mp hp with hp | hp
    · obtain ⟨a1, a2, a3⟩ := (gs.row k q hq).2 p hp
      exact ⟨a1, by omega, a3⟩
    · rw [List.mem_singleton.mp hp]
      exact ⟨gs.c0, by show st.1 < st.1 + 1; omega, d0, d1, hc⟩
  · have e := cntq_set (q' := q ++ [(st.1, d)]) hq x
    simp only [List.map_append, List.map_cons, List.map_nil, List.count_append, List.count_cons, List.count_nil] at e
    have hx := gs.nd x
    show cntq (st.2.set k (q ++ [(st.1, d)])) x ≤ 1
    by_cases z : st.1 = x
    · have z0 : cntq st.2 x = 0 := cntq_zero fun r hr p hp => by
        obtain ⟨j, hj, rfl⟩ := List.getElem_of_mem hr
        have := ((gs.row j _ (List.getElem?_eq_getElem hj)).2 p hp).2.1
        omega
      have : (if (st.1 == x) = true then 1 else 0) ≤ 1 := by split <;> omega
      omega
    · rw [if_neg (by simpa using z)] at e
      omega
end
end Cf
/-! k32: packets sorted, numbers. -/
namespace Cf
open PySem WL L2
def pkRows (chs : Chs) (st : St2) : List (List Int) := (span 0 chs.length).flatMap fun c => (rowS st c).map fun p => [p.1, p.2, c]
section
variable {n : Nat} {chs : Chs} {t : Tab} {B : Int} {st : St2} (g : FG2 n chs t) (gs : GSt n chs t B st)
include g gs
theorem pk_len : (pkRows chs st).length ≤ 40 := by
  have hm := g.fg.ng.ml
  have key : ∀ l : List Int, (∀ c ∈ l, 0 ≤ c ∧ c < (chs.length : Int)) → (l.flatMap fun c => (rowS st c).map fun p => [p.1, p.2, c]).length ≤ l.length * 3 := by
    intro l
    induction l with
    | nil => intro _; exact Nat.le_refl _
    | cons a l ih =>
      intro h
      have h1 := row_len g gs (h a List.mem_cons_self).1 (h a List.mem_cons_self).2
      have h2 := ih fun c hc => h c (List.mem_cons_of_mem _ hc)
      rw [List.flatMap_cons, List.length_append, List.length_map, List.length_cons]
      omega
  have := key (span 0 chs.length) fun c hc => by have := mem_span.mp hc; omega
  rw [span_length] at this
  unfold pkRows
  omega
omit g gs in
theorem pk_form {r : List Int} (h : r ∈ pkRows chs st) : ∃ a b c, r = [a, b, c] := by
  obtain ⟨c, _, hr⟩ := List.mem_flatMap.mp h
  obtain ⟨p, _, rfl⟩ := List.mem_map.mp hr
  exact ⟨_, _, _, rfl⟩
end
end Cf
/-! k38: the two judges of ways; a held channel has none. -/
namespace Cf
open PySem WL L2
theorem eqv_str (a b : Str) : PyData.eqv (.str a) (.str b) = decide (a = b) := by
  by_cases h : a = b
  · simp [PyData.eqv, h]
  · simp [PyData.eqv, h]
end Cf
/-! The draws family's fabric: its rows ascend, none from a node to itself. -/
namespace Cf
open PySem WL L2
structure FG3 (n : Nat) (chs : Chs) (t : Tab) : Prop where
  g2 : FG2 n chs t
  asc : ∀ i j, i < n → j < n → (cell t i j).Pairwise (· < ·)
  own : ∀ i, i < n → cell t i i = []
def Ext (u : Int) (row : List (List Int)) : Prop := ∀ (j : Nat) e, row[j]? = some e → e.Pairwise (· < ·) ∧ (u = (j : Int) → e = [])
def ExtT (tab : Tab) : Prop := ∀ (i : Nat) row, tab[i]? = some row → Ext (i : Int) row
theorem get_snoc {α : Type} {l : List α} {a e : α} {j : Nat} (h : (l ++ [a])[j]? = some e) : l[j]? = some e ∨ (j = l.length ∧ a = e) := by
  by_cases hj : j < l.length
  · rw [List.getElem?_append_left hj] at h
    exact .inl h
  · rw [List.getElem?_append_right (by omega)] at h
    by_cases ej : j = l.length
    · subst ej
      rw [Nat.sub_self] at h
      exact .inr ⟨rfl, by simpa using h⟩
    · rw [List.getElem?_eq_none (by rw [List.length_singleton]; omega)] at h
      cases h
theorem span_asc (lo : Int) (n : Nat) : (span lo n).Pairwise (· < ·) := by
  unfold span
  rw [List.pairwise_map]
  exact List.pairwise_lt_range.imp fun h => by omega
theorem ext_cell {tab : Tab} (h : ExtT tab) {i j n : Nat} (hi : i < tab.length) (hl : (tab[i]).length = n) (hj : j < n) : (cell tab i j).Pairwise (· < ·) ∧ (i = j → cell tab i j = []) := by
  have := h i _ (List.getElem?_eq_getElem hi) j _ (List.getElem?_eq_getElem (by omega))
  unfold Cf.cell
  rw [getD_lt hi, getD_lt (by omega)]
  exact ⟨this.1, fun z => this.2 (by rw [z])⟩
theorem en_fabric3 {most room : Int} (hm5 : 5 ≤ most) (hm : most ≤ 12) (hr1 : 1 ≤ room) (hr3 : room ≤ 3) : Ens (l_fabric2 most room) (fun f => ∃ (n : Nat) (chs : Chs) (t : Tab), f = (((n : Int), chs), t) ∧ FG3 n chs t ∧ chs.length ≤ most) := by
  refine en_bnd (R := fun n => 2 ≤ n ∧ n ≤ 5) (en_bnd (en_take (by decide) (by decide)) fun a ha => en_ret ⟨by omega, by omega⟩) fun n0 ⟨hn2, hn5⟩ => ?_
  obtain ⟨n, rfl⟩ : ∃ n : Nat, n0 = (n : Int) := ⟨n0.toNat, by omega⟩
  refine en_bndE (en_eq _) ?_
  have rngn : Rng (n : Int) := rng_small (by omega) (by omega)
  refine en_bnd (R := fun l => ∃ m : Nat, n ≤ m ∧ (m : Int) ≤ most ∧ l = span 0 m) (en_bnd (R := fun x => (n : Int) ≤ x ∧ x ≤ most) (en_bnd (en_take (by omega) (by omega)) fun a ha => en_ret ⟨by omega, by omega⟩) fun x hx => en_grd (rng_small (by omega) (by omega)) (en_ret ⟨x.toNat, by omega, by omega, rfl⟩)) fun l ⟨m, hm1, hm2, hl⟩ => ?_
  subst hl
  refine en_for (fun pre s => s.length = pre.length ∧ ∀ c ∈ s, ChOk n c ∧ 1 ≤ c.2.2 ∧ c.2.1 ≠ c.1) _ ⟨rfl, fun c hc => (by cases hc)⟩ (fun pre x post s k e ⟨h1, h2⟩ hk => ?_) (fun chs ⟨h1, h2⟩ => ?_)
  · have hp := pre_lt e
    rw [span_length] at hp
    have hx : x = 0 + (pre.length : Int) := span_at e
    refine en_bnd (R := fun v => 0 ≤ v ∧ v < (n : Int)) (en_sel (fun q => en_ret ⟨by omega, of_decide_eq_true q⟩) fun _ => en_take (by omega) (by omega)) fun u hu => ?_
    refine en_bnd (R := fun v => 0 ≤ v ∧ v < (n : Int) ∧ v ≠ u) (en_bnd (R := fun y => u < y ∧ y < u + n) (en_bnd (en_take (by omega) (by omega)) fun a ha => en_ret ⟨by omega, by omega⟩) fun y hy => en_grd (by omega) (en_ret ?_)) fun v hv => ?_
    · have := fmod_in (a := y) (n := (n : Int)) (by omega)
      refine ⟨this.1, this.2, fun z => ?_⟩
      rw [Int.fmod_eq_emod_of_nonneg _ (by omega)] at z
      rcases Int.lt_or_le y n with q | q
      · rw [Int.emod_eq_of_lt (by omega) q] at z
        omega
      · have : y % (n : Int) = (y - n) % (n : Int) := by rw [Int.sub_emod_right]
        rw [this, Int.emod_eq_of_lt (by omega) (by omega)] at z
        omega
    · refine en_app (R := fun c => ChOk n c ∧ 1 ≤ c.2.2 ∧ c.2.1 ≠ c.1) (en_bnd (R := fun r => 1 ≤ r ∧ r ≤ 3) (en_bnd (en_take (by omega) (by omega)) fun a ha => en_ret ⟨by omega, by omega⟩) fun r hr => en_ret ⟨⟨hu.1, hu.2, hv.1, hv.2.1, (by show (0 : Int) ≤ r; omega), hr.2⟩, hr.1, hv.2.2⟩) (by omega) fun a ha => hk _ ⟨by rw [List.length_append, List.length_append, h1]; rfl, fun c hc => ?_⟩
      rcases List.mem_append.mp hc with hc | hc
      · exact h2 c hc
      · rw [List.mem_singleton.mp hc]
        exact ha
  · rw [span_length] at h1
    have hm : chs.length ≤ 12 := by omega
    have rngm : Rng (chs.length : Int) := rng_small (by omega) (by omega)
    refine en_bndE (en_eq _) (en_bnd (R := fun r => 1 ≤ r ∧ r ≤ 3) (en_bnd (en_take (by decide) (by decide)) fun a ha => en_ret ⟨by omega, by omega⟩) fun rate hrate => ?_)
    refine en_bndE (en_grd rngn (en_eq _)) ?_
    refine en_for (fun pre tab => tab.length = pre.length ∧ TbOk n chs tab ∧ ExtT tab) _ ⟨rfl, ⟨fun i row h => (by simp at h)⟩, fun i row h => (by simp at h)⟩ (fun pre u post tab k e ⟨h3, h4, h4x⟩ hk => ?_) (fun tab ⟨h3, h4, h4x⟩ => ?_)
    · have eu := span_at e
      have hul : pre.length < 5 := by
        have := congrArg List.length e
        rw [span_length, List.length_append, List.length_cons] at this
        omega
      refine en_bndE (en_eq _) (en_bndE (en_grd rngn (en_eq _)) ?_)
      refine en_for (fun pre2 row => row.length = pre2.length ∧ (∀ e ∈ row, EnOk chs u e) ∧ Ext u row) _ ⟨rfl, fun e he => (by cases he), fun j e h => (by simp at h)⟩ (fun pre2 d post2 row k2 e2 ⟨h5, h6, h6x⟩ hk2 => ?_) (fun row ⟨h5, h6, h6x⟩ => ?_)
      · have hdl : pre2.length < 5 := by
          have := congrArg List.length e2
          rw [span_length, List.length_append, List.length_cons] at this
          omega
        refine en_bndE (a := (span 0 chs.length).filter fun c => decide (srcC chs c = u) && !decide (u = d)) (en_bndE (en_grd rngm (en_eq _)) (en_lcF _ _ (by rw [span_length]; omega) (fun c hc => ?_) (fun c _ _ => en_eq _))) ?_
        · obtain ⟨hc0, hc1⟩ := mem_span.mp hc
          refine en_bndE (en_bndE (en_bndE (en_optE (atI_getD (0, 0, 0) hc0 (by omega))) (en_eq _)) (en_eq _)) (en_sel (fun h => en_ret ?_) (fun h => en_ret ?_))
          · have : srcC chs c = u := of_decide_eq_true h
            rw [decide_eq_true this]
            rfl
          · have : ¬ srcC chs c = u := of_decide_eq_false h
            rw [decide_eq_false this]
            rfl
        · generalize hown : ((span 0 chs.length).filter fun c => decide (srcC chs c = u) && !decide (u = d)) = own
          have own1 : ∀ c ∈ own, 0 ≤ c ∧ c < chs.length ∧ srcC chs c = u := fun c hc => by
            rw [← hown, List.mem_filter, Bool.and_eq_true] at hc
            have := mem_span.mp hc.1
            exact ⟨this.1, by omega, of_decide_eq_true hc.2.1⟩
          have ownl : own.length ≤ 12 := by
            have := List.length_filter_le (fun c => decide (srcC chs c = u) && !decide (u = d)) (span 0 chs.length)
            rw [span_length, hown] at this
            exact Nat.le_trans this hm
          have ownn : own.Nodup := by
            rw [← hown]
            exact (span_nodup 0 _).sublist List.filter_sublist
          have owna : own.Pairwise (· < ·) := by
            rw [← hown]
            exact (span_asc 0 _).sublist List.filter_sublist
          have own0 : u = d → own = [] := fun z => by
            rw [← hown, z]
            simp
          have ed := span_at e2
          refine en_app (R := fun e => EnOk chs u e ∧ e.Pairwise (· < ·) ∧ (u = d → e = [])) (en_bndE (en_eq _) ((en_lcGS _ (by omega) (fun c hc => ?_)).mono fun ys hy => ⟨⟨Nat.le_trans hy.length_le ownl, ownn.sublist hy, fun c hc => own1 c (hy.subset hc)⟩, owna.sublist hy, fun z => by rw [own0 z] at hy; exact List.sublist_nil.mp hy⟩)) (by omega) fun a ⟨ha, ha2, ha3⟩ => hk2 _ ⟨by rw [List.length_append, List.length_append, h5]; rfl, fun e he => ?_, fun j e he => ?_⟩
          · exact en_bnd ((en_take (by omega) (by omega)).mono fun _ _ => trivial) fun _ (_ : True) => en_ret trivial
          · rcases List.mem_append.mp he with he | he
            · exact h6 e he
            · rw [List.mem_singleton.mp he]
              exact ha
          · rcases get_snoc he with he | ⟨ej, ee⟩
            · exact h6x j e he
            · subst ee
              exact ⟨ha2, fun z => ha3 (by omega)⟩
      · refine en_app (R := fun r => r = row) (en_eq _) (by omega) fun a ha => hk _ ⟨by rw [List.length_append, List.length_append, h3]; rfl, ?_, ?_⟩
        rotate_left
        · subst ha
          intro i r hr
          rcases get_snoc hr with hr | ⟨ei, er⟩
          · exact h4x i r hr
          · subst er
            rw [ei, h3]
            rw [eu, show (0 : Int) + (pre.length : Int) = (pre.length : Int) by omega] at h6x
            exact h6x
        subst ha
        rw [span_length] at h5
        refine h4.snoc (by omega) fun e he => ?_
        have := h6 e he
        rw [eu] at this
        rw [h3]
        rw [show (0 : Int) + (pre.length : Int) = (pre.length : Int) by omega] at this
        exact this
    · rw [span_length] at h3
      have hl : tab.length = n := by omega
      have ng : NG n chs := ⟨by omega, hm, fun c hc => (h2 c hc).1⟩
      refine en_bndE (en_eq _) (en_bndE (en_eq _) (en_bnd (R := fun t => ThMax chs t tab) (en_noX (en_thinned2 ng (h4.tg hl))) fun t ht => en_ret ⟨n, chs, t, rfl, ⟨⟨⟨ng, (h4.tg hl).part (by have := ht.shp; rw [hl] at this; exact this) (fun i j hi hj => ht.sub i j (by omega) (by omega)), fun i j hi hj c hc => ((h4.cell hl hi hj).ok c ((ht.sub i j (by omega) (by omega)).subset hc)).2.2, by omega, by omega, by have := ht.live; rw [hl] at this; exact this⟩, fun c hc => (h2 c hc).2.1, by omega, fun c hc => (h2 c hc).2.2⟩, fun i j hi hj => (ext_cell h4x (by omega) (h4.row i _ (List.getElem?_eq_getElem (by omega))).1 hj).1.sublist (ht.sub i j (by omega) (by omega)), fun i hi => by
        have := ht.sub i i (by omega) (by omega)
        rw [(ext_cell h4x (by omega) (h4.row i _ (List.getElem?_eq_getElem (by omega))).1 hi).2 rfl] at this
        exact List.sublist_nil.mp this⟩, by omega⟩))
end Cf
/-! k30: every step, by the program and by the law. -/
namespace Cf
open PySem WL L2
instance decMv : DecidableEq Mv := fun x y => match x, y with
  | .go a b, .go c d => if h : a = c ∧ b = d then isTrue (by rw [h.1, h.2]) else isFalse fun e => h (by cases e; exact ⟨rfl, rfl⟩)
  | .out a, .out c => if h : a = c then isTrue (by rw [h]) else isFalse fun e => h (by cases e; rfl)
  | .go _ _, .out _ => isFalse fun e => by cases e
  | .out _, .go _ _ => isFalse fun e => by cases e
inductive S3 where
  | put (u d c : Int)
  | mv (m : Mv)
instance decS3 : DecidableEq S3 := fun x y => match x, y with
  | .put a b c, .put a' b' c' => if h : a = a' ∧ b = b' ∧ c = c' then isTrue (by rw [h.1, h.2.1, h.2.2]) else isFalse fun e => h (by cases e; exact ⟨rfl, rfl, rfl⟩)
  | .mv m, .mv m' => if h : m = m' then isTrue (by rw [h]) else isFalse fun e => h (by cases e; rfl)
  | .put _ _ _, .mv _ => isFalse fun e => by cases e
  | .mv _, .put _ _ _ => isFalse fun e => by cases e
def s3D : S3 → PyData
  | .put u d c => .tuple [.str "put", .int u, .int d, .int c]
  | .mv m => mvD m
def S3.ok : S3 → Prop
  | .put u d c => 0 ≤ u ∧ 0 ≤ d ∧ 0 ≤ c
  | .mv m => m.ok
def alw (n : Nat) (chs : Chs) (t : Tab) (st : St2) : S3 → Bool
  | .put u d c => decide (u < (n : Int)) && decide (d < (n : Int)) && decide (c ∈ cell t u.toNat d.toNat) && !fullS chs st c
  | .mv m => alwM chs t st m
def nx3 (st : St2) : S3 → St2
  | .put u d c => (st.1 + 1, st.2.set c.toNat (rowS st c ++ [(st.1, d)]))
  | .mv m => nxtM st m
theorem ee_s3 : EE s3D 1 where
  lay := fun x => by
    cases x with
    | put u d c => simp [s3D, PyData.canLay0, PyData.canLayAll0, ok_put]
    | mv m => cases m <;> simp [s3D, mvD, PyData.canLay0, PyData.canLayAll0, ok_go, ok_out]
  dep := fun x => by
    cases x with
    | put u d c => simp [s3D, PyData.depth, PyData.depthAll]
    | mv m => cases m <;> simp [s3D, mvD, PyData.depth, PyData.depthAll]
  eq := fun x y => by
    have e1 : decide (("go" : Str) = "out") = false := go_
    have e2 : decide (("out" : Str) = "go") = false := og
    have hb : ∀ a b : Int, (a == b) = decide (a = b) := fun a b => by by_cases h : a = b <;> simp [h]
    have hi : ∀ a b : Int, PyData.eqv (.int a) (.int b) = decide (a = b) := fun a b => ee_I.eq a b
    cases x with
    | put u d c =>
      cases y with
      | put u' d' c' =>
        have e0 : PyData.eqv (.str "put") (.str "put") = true := by rw [eqv_str]; exact decide_eq_true rfl
        simp [s3D, PyData.eqv, PyData.eqvAll, hi, eqv_str, e0, hb]
      | mv m => cases m <;> simp [s3D, mvD, PyData.eqv, PyData.eqvAll]
    | mv m =>
      cases y with
      | put u' d' c' => cases m <;> simp [s3D, mvD, PyData.eqv, PyData.eqvAll]
      | mv m' =>
        cases m <;> cases m' <;> simp [s3D, mvD, PyData.eqv, PyData.eqvAll, hi, eqv_str, e1, e2, hb]
section
variable {n : Nat} {chs : Chs} {t : Tab} {B : Int} {st : St2} (g : FG2 n chs t) (gs : GSt n chs t B st)
include g gs
theorem en_pos3 {x : S3} (hx : x.ok) : Ens (noX (p_is_possible (fab2 n chs t) st (s3D x))) (fun v => v = alw n chs t st x) := by
  cases x with
  | mv m => exact en_possible g gs hx
  | put u d c =>
    obtain ⟨u0, d0, c0⟩ := hx
    have hl := gs.len
    refine en_noX (en_bndE (en_eq _) (en_bndE (en_eq _) (en_bndE (en_hd ok_put ok_put) (en_sel (fun _ => ?_) (fun h => by rw [pp] at h; cases h)))))
    refine en_bndE (en_optE (a := (("put" : Str), u, d, c)) rfl) ?_
    show Ens _ (fun v => v = (decide (u < (n : Int)) && decide (d < (n : Int)) && decide (c ∈ cell t u.toNat d.toNat) && !fullS chs st c))
    refine en_sel (fun h1 => en_sel (fun h2 => ?_) (fun h2 => en_ret ?_)) (fun h1 => en_ret ?_)
    · have h1 : decide (u < (n : Int)) = true := h1
      have h2 : decide (d < (n : Int)) = true := h2
      have u1 := of_decide_eq_true h1
      have d1 := of_decide_eq_true h2
      obtain ⟨row, e3, e4⟩ := tab_at g.fg.tg.shp u0 u1 d0 d1
      rw [h1, h2, Bool.true_and, Bool.true_and]
      by_cases hc : c ∈ cell t u.toNat d.toNat
      · obtain ⟨_, c1⟩ := g.fg.tg.rng _ _ (by omega) (by omega) c hc
        refine en_sel (fun _ => ?_) (fun h => absurd (of_decide_eq_false h) (show ¬ ¬ (c < (st.2.length : Int)) by omega))
        refine en_bndE (a := true) (en_bndE (en_bndE (en_optE e3) (en_optE e4)) (en_ret (decide_eq_true hc))) (en_sel (fun _ => en_bndE (en_full g gs c0 c1) (en_ret ?_)) (fun h => by cases h))
        rw [decide_eq_true hc, Bool.true_and]
      · rw [decide_eq_false hc, Bool.false_and]
        refine en_sel (fun _ => en_bndE (a := false) (en_bndE (en_bndE (en_optE e3) (en_optE e4)) (en_ret (decide_eq_false hc))) (en_sel (fun h => by cases h) fun _ => en_eq _)) (fun _ => en_eq _)
    · have h1 : decide (u < (n : Int)) = true := h1
      have h2 : decide (d < (n : Int)) = false := h2
      rw [h1, h2]
      rfl
    · have h1 : decide (u < (n : Int)) = false := h1
      rw [h1]
      rfl
theorem en_all3 {x : S3} (hx : x.ok) : Ens (noX (l_allowed (fab2 n chs t) st (s3D x))) (fun v => v = alw n chs t st x) := by
  cases x with
  | mv m => exact en_allowedM g gs hx
  | put u d c =>
    obtain ⟨u0, d0, c0⟩ := hx
    have hl := gs.len
    refine en_noX (en_bndE (en_eq _) (en_bndE (en_eq _) (en_bndE (en_hd ok_put ok_put) (en_sel (fun _ => ?_) (fun h => by rw [pp] at h; cases h)))))
    refine en_bndE (en_optE (a := (("put" : Str), u, d, c)) rfl) ?_
    show Ens _ (fun v => v = (decide (u < (n : Int)) && decide (d < (n : Int)) && decide (c ∈ cell t u.toNat d.toNat) && !fullS chs st c))
    refine en_bndE (a := decide ((n : Int) ≤ u) || decide ((n : Int) ≤ d) || decide ((chs.length : Int) ≤ c)) (en_sel (fun h => en_ret ?_) (fun h => en_sel (fun h2 => en_ret ?_) (fun h2 => en_ret ?_))) ?_
    · have h : decide ((n : Int) ≤ u) = true := h
      rw [h]
      rfl
    · have h : decide ((n : Int) ≤ u) = false := h
      have h2 : decide ((n : Int) ≤ d) = true := h2
      rw [h, h2]
      rfl
    · have h : decide ((n : Int) ≤ u) = false := h
      have h2 : decide ((n : Int) ≤ d) = false := h2
      rw [h, h2]
      rfl
    refine en_sel (fun h => en_ret ?_) (fun h => ?_)
    · rcases Bool.or_eq_true_iff.mp h with h | h
      · rcases Bool.or_eq_true_iff.mp h with h | h
        · rw [decide_eq_false (show ¬ u < (n : Int) by have := of_decide_eq_true h; omega)]
          rfl
        · rw [decide_eq_false (show ¬ d < (n : Int) by have := of_decide_eq_true h; omega)]
          simp
      · by_cases hu : u < (n : Int)
        · by_cases hd : d < (n : Int)
          · rw [decide_eq_false (show ¬ c ∈ cell t u.toNat d.toNat from fun hc => by
              have := (g.fg.tg.rng _ _ (by omega) (by omega) c hc).2
              have := of_decide_eq_true h
              omega)]
            simp
          · rw [decide_eq_false hd]
            simp
        · rw [decide_eq_false hu]
          rfl
    · obtain ⟨h, h3⟩ := Bool.or_eq_false_iff.mp h
      obtain ⟨h1, h2⟩ := Bool.or_eq_false_iff.mp h
      have u1 : u < (n : Int) := by have := of_decide_eq_false h1; omega
      have d1 : d < (n : Int) := by have := of_decide_eq_false h2; omega
      have c1 : c < (chs.length : Int) := by have := of_decide_eq_false h3; omega
      obtain ⟨row, e3, e4⟩ := tab_at g.fg.tg.shp u0 u1 d0 d1
      rw [decide_eq_true u1, decide_eq_true d1, Bool.true_and, Bool.true_and]
      refine en_bndE (en_bndE (en_bndE (en_optE e3) (en_optE e4)) (en_eq _)) (en_sel (fun hc => ?_) (fun hc => en_ret ?_))
      · rw [hc, Bool.true_and]
        refine en_bndE (en_bndE (en_optE (row_at g gs c0 c1)) (en_eq _)) (en_bndE (room_at g.fg c0 c1) (en_ret ?_))
        have := (row_ok g gs c0 c1).1
        unfold fullS
        by_cases hf : ((rowS st c).length : Int) = roomC chs c
        · rw [decide_eq_false (show ¬ ((rowS st c).length : Int) < roomC chs c by omega), decide_eq_true hf]
          rfl
        · rw [decide_eq_true (show ((rowS st c).length : Int) < roomC chs c by omega), decide_eq_false hf]
          rfl
      · rw [hc, Bool.false_and]
theorem put_alw {u d c : Int} (hx : (S3.put u d c).ok) (h : alw n chs t st (.put u d c) = true) : u < (n : Int) ∧ d < (n : Int) ∧ c ∈ cell t u.toNat d.toNat ∧ c < chs.length ∧ ((rowS st c).length : Int) < roomC chs c ∧ srcC chs c = u := by
  obtain ⟨u0, d0, c0⟩ := hx
  have h : (decide (u < (n : Int)) && decide (d < (n : Int)) && decide (c ∈ cell t u.toNat d.toNat) && !fullS chs st c) = true := h
  simp only [Bool.and_eq_true, decide_eq_true_eq, Bool.not_eq_true'] at h
  obtain ⟨⟨⟨h1, h2⟩, h3⟩, h4⟩ := h
  obtain ⟨_, c1⟩ := g.fg.tg.rng _ _ (by omega) (by omega) c h3
  have hs := g.fg.src u.toNat d.toNat (by omega) (by omega) _ h3
  have := (row_ok g gs c0 c1).1
  have h4 : ¬ ((rowS st c).length : Int) = roomC chs c := of_decide_eq_false h4
  refine ⟨h1, h2, h3, c1, by omega, ?_⟩
  rw [hs]
  omega
theorem nx3_ok {x : S3} (hx : x.ok) (h : alw n chs t st x = true) : GSt n chs t (B + 1) (nx3 st x) := by
  cases x with
  | mv m =>
    have q := nxt_ok g gs hx h
    exact q.mono (a := (nxtM st m).1) (Int.le_refl _) (by have := q.cB; omega)
  | put u d c =>
    obtain ⟨u1, d1, hc, c1, hr, hs⟩ := put_alw g gs hx h
    obtain ⟨u0, d0, c0⟩ := hx
    exact put_ok g gs c0 c1 d0 d1 (by rw [hs]; exact hc) hr
theorem en_mov3 {x : S3} (hx : x.ok) (h : alw n chs t st x = true) : Ens (noX (p_moved st (s3D x))) (fun v => v = nx3 st x) := by
  cases x with
  | mv m => exact en_moved g gs hx h
  | put u d c =>
    obtain ⟨u1, d1, hc, c1, hr, hs⟩ := put_alw g gs hx h
    exact en_movput g gs hx.2.2 c1
theorem en_beh3 {x : S3} (hx : x.ok) (h : alw n chs t st x = true) : Ens (noX (l_behind st (s3D x))) (fun v => v = nx3 st x) := by
  cases x with
  | mv m => exact en_behindM g gs hx h
  | put u d c =>
    have gn := nx3_ok g gs hx h
    obtain ⟨u1, d1, hc, c1, hr, hs⟩ := put_alw g gs hx h
    obtain ⟨u0, d0, c0⟩ := hx
    have hl := gs.len
    have hm12 := g.fg.ng.ml
    have hq := row_get g gs c0 c1
    have hrl := row_len g gs c0 c1
    have rows : ∀ {B : Int} {s : St2}, GSt n chs t B s → ∀ q ∈ s.2, q.length ≤ 16777216 := fun {B s} hs q hq => by
      obtain ⟨j, hj, rfl⟩ := List.getElem_of_mem hq
      have h1 := (hs.row j _ (List.getElem?_eq_getElem hj)).1
      have hlen := hs.len
      have h2 := (room_rng g.fg (c := (j : Int)) (by omega) (by omega)).2
      omega
    refine en_noX (en_bndE (en_eq _) (en_bndE (a := st.2) (tuple_rows (chs := chs) (by omega) (rows gs)) ?_))
    refine en_letK (I := fun s => (s.2, s.1) = nx3 st (.put u d c)) (fun s hs => ?_) (fun k' hk' => ?_)
    · have e1 : s.1 = (nx3 st (.put u d c)).2 := by rw [← hs]
      refine en_bndE (a := s.1) (tuple_rows (chs := chs) (by rw [e1, gn.len]; omega) (by rw [e1]; exact rows gn)) (en_ret hs)
    refine en_bndE (en_hd ok_put ok_put) (en_sel (fun _ => ?_) (fun h => by rw [pp] at h; cases h))
    exact en_app2 (i := c) (row := rowS st c) (x := (st.1, d)) (en_bndE (en_bndE (en_optE (a := [PyData.str "put", PyData.int u, PyData.int d, PyData.int c]) rfl) (en_optE rfl)) (en_optE rfl)) c0 hq (en_bndE (en_bndE (en_bndE (en_optE (a := [PyData.str "put", PyData.int u, PyData.int d, PyData.int c]) rfl) (en_optE rfl)) (en_optE rfl)) (en_eq _)) (by omega) (en_bndE (en_eq _) (hk' _ rfl))
end
end Cf
/-! k30: the lists of steps, what is seen, what is refused, a script played. -/
namespace Cf
open PySem WL L2
theorem fm_le {α β : Type} {f : α → List β} {K : Nat} : ∀ (xs : List α), (∀ x ∈ xs, (f x).length ≤ K) → (xs.flatMap f).length ≤ K * xs.length
  | [], _ => Nat.zero_le _
  | x :: xs, h => by
    have ih := fm_le xs fun y hy => h y (List.mem_cons_of_mem _ hy)
    have h1 := h x List.mem_cons_self
    rw [List.flatMap_cons, List.length_append, List.length_cons, Nat.mul_succ]
    omega
theorem en_acc30 {α F : Type} {body : α → List PyData → (List PyData → Wp F) → (List PyData → Wp F) → Wp F} {exit : List PyData → Wp F} {Q : F → Prop} (f : α → List S3) (base : List S3) (K : Nat) (xs : List α) (hlen : ∀ x ∈ xs, (f x).length ≤ K)
    (hb : ∀ x ∈ xs, ∀ (ys : List S3) k, ys.length ≤ base.length + K * xs.length → Ens (k ((ys ++ f x).map s3D)) Q → Ens (body x (ys.map s3D) k exit) Q) (hx : Ens (exit ((base ++ xs.flatMap f).map s3D)) Q) : Ens (forK body exit xs (base.map s3D)) Q := by
  refine en_for (fun pre s => s = (base ++ pre.flatMap f).map s3D) xs (by simp) (fun pre x post s k e hs hk => ?_) (fun s hs => by rw [hs]; exact hx)
  subst hs
  have hx : x ∈ xs := by rw [e]; simp
  have hp : (pre.flatMap f).length ≤ K * pre.length := fm_le pre fun y hy => hlen y (by rw [e]; simp [hy])
  have hl : pre.length ≤ xs.length := by rw [e]; simp
  refine hb x hx _ k (by rw [List.length_append]; have := Nat.mul_le_mul_left K hl; omega) (hk _ ?_)
  rw [List.flatMap_append, List.flatMap_cons, List.flatMap_nil, List.append_nil, List.append_assoc]
theorem en_filt {c : PyData → Wp Bool} {p : S3 → Bool} : ∀ (zs : List S3), (∀ z ∈ zs, Ens (c (s3D z)) (fun v => v = p z)) → Ens (lcW c (fun x => ret x) (zs.map s3D)) (fun v => v = (zs.filter p).map s3D)
  | [], _ => en_eq _
  | z :: zs, h => by
    have ih := en_filt zs fun y hy => h y (List.mem_cons_of_mem _ hy)
    refine en_bndE (h z List.mem_cons_self) (en_sel (fun e => ?_) fun e => ?_)
    · rw [List.filter_cons_of_pos e]
      exact en_bndE (en_eq _) (en_bndE ih (en_eq _))
    · rw [List.filter_cons_of_neg (by rw [e]; decide)]
      exact ih
def putsL (n : Nat) (t : Tab) : List S3 := (span 0 n).flatMap fun u => (span 0 n).flatMap fun d => (cell t u.toNat d.toNat).map fun c => S3.put u d c
def outsL (chs : Chs) : List S3 := (span 0 chs.length).map fun c => S3.mv (.out c)
def goL (chs : Chs) : List S3 := (span 0 chs.length).flatMap fun c => (span 0 chs.length).map fun c2 => S3.mv (.go c c2)
def goP (chs : Chs) (t : Tab) (st : St2) : List S3 := (span 0 chs.length).flatMap fun c => (nxS chs t st c).map fun c2 => S3.mv (.go c c2)
def stepsL (n : Nat) (chs : Chs) (t : Tab) (st : St2) : List S3 := (putsL n t ++ goL chs ++ outsL chs).filter (alw n chs t st)
section
variable {n : Nat} {chs : Chs} {t : Tab} {B : Int} {st : St2} (g : FG3 n chs t) (gs : GSt n chs t B st)
include g
theorem puts_ok : ∀ x ∈ putsL n t, x.ok := fun x hx => by
  obtain ⟨u, hu, hx⟩ := List.mem_flatMap.mp hx
  obtain ⟨d, hd, hx⟩ := List.mem_flatMap.mp hx
  obtain ⟨c, hc, rfl⟩ := List.mem_map.mp hx
  obtain ⟨u0, u1⟩ := mem_span.mp hu
  obtain ⟨d0, d1⟩ := mem_span.mp hd
  exact ⟨u0, d0, (g.g2.fg.tg.rng _ _ (by omega) (by omega) c hc).1⟩
omit g in
theorem outs_ok : ∀ x ∈ outsL chs, x.ok := fun x hx => by
  obtain ⟨c, hc, rfl⟩ := List.mem_map.mp hx
  exact (mem_span.mp hc).1
omit g in
theorem gos_ok : ∀ x ∈ goL chs, x.ok := fun x hx => by
  obtain ⟨c, hc, hx⟩ := List.mem_flatMap.mp hx
  obtain ⟨c2, hc2, rfl⟩ := List.mem_map.mp hx
  exact ⟨(mem_span.mp hc).1, (mem_span.mp hc2).1⟩
theorem puts_len : (putsL n t).length ≤ 12 * n * n := by
  have h := fm_le (f := fun u => (span 0 n).flatMap fun d => (cell t u.toNat d.toNat).map fun c => S3.put u d c) (K := 12 * n) (span 0 n) fun u hu => by
    have h := fm_le (f := fun d => (cell t u.toNat d.toNat).map fun c => S3.put u d c) (K := 12) (span 0 n) fun d hd => by
      obtain ⟨u0, u1⟩ := mem_span.mp hu
      obtain ⟨d0, d1⟩ := mem_span.mp hd
      rw [List.length_map]
      exact g.g2.fg.tg.len _ _ (by omega) (by omega)
    rw [span_length] at h
    exact h
  rw [span_length] at h
  exact h
include gs
theorem gop_ok : ∀ x ∈ goP chs t st, x.ok := fun x hx => by
  obtain ⟨c, hc, hx⟩ := List.mem_flatMap.mp hx
  obtain ⟨c2, hc2, rfl⟩ := List.mem_map.mp hx
  obtain ⟨c0, c1⟩ := mem_span.mp hc
  exact ⟨c0, (nx_rng g.g2 gs c0 (by omega) hc2).1⟩
theorem nx_asc {c : Int} (c0 : 0 ≤ c) (c1 : c < chs.length) : (nxS chs t st c).Pairwise (· < ·) := by
  unfold nxS
  cases hp : hdS st c with
  | none => exact .nil
  | some p =>
    have hd := hd_ok g.g2 gs c0 c1 hp
    have ht : 0 ≤ tgt chs c ∧ tgt chs c < n := by
      have := g.g2.fg.ng.ch _ (getD_mem (0, 0, 0) (show c.toNat < chs.length by omega))
      exact ⟨this.2.2.1, this.2.2.2.1⟩
    exact g.asc _ _ (by omega) (by omega)
/-- the same go steps -/
theorem go_same : (goP chs t st).filter (alw n chs t st) = (goL chs).filter (alw n chs t st) := by
  unfold goP goL
  rw [List.filter_flatMap, List.filter_flatMap]
  have key : ∀ c ∈ span 0 chs.length, ((nxS chs t st c).map fun c2 => S3.mv (.go c c2)).filter (alw n chs t st) = ((span 0 chs.length).map fun c2 => S3.mv (.go c c2)).filter (alw n chs t st) := fun c hc => by
    obtain ⟨c0, c1⟩ := mem_span.mp hc
    rw [List.filter_map, List.filter_map]
    congr 1
    refine asc_uniq ((nx_asc g gs c0 (by omega)).sublist List.filter_sublist) ((span_asc 0 _).sublist List.filter_sublist) fun k => ?_
    rw [List.mem_filter, List.mem_filter]
    constructor
    · rintro ⟨h1, h2⟩
      have := nx_rng g.g2 gs c0 (by omega) h1
      exact ⟨mem_span.mpr (by omega), h2⟩
    · rintro ⟨h1, h2⟩
      have h2' : (decide (k ∈ nxS chs t st c) && !fullS chs st k) = true := h2
      exact ⟨of_decide_eq_true (Bool.and_eq_true_iff.mp h2').1, h2⟩
  have : ∀ l : List Int, (∀ c ∈ l, c ∈ span 0 chs.length) → (l.flatMap fun c => ((nxS chs t st c).map fun c2 => S3.mv (.go c c2)).filter (alw n chs t st)) = l.flatMap fun c => ((span 0 chs.length).map fun c2 => S3.mv (.go c c2)).filter (alw n chs t st) := by
    intro l
    induction l with
    | nil => intro _; rfl
    | cons a l ih =>
      intro h
      rw [List.flatMap_cons, List.flatMap_cons, key a (h a List.mem_cons_self), ih fun c hc => h c (List.mem_cons_of_mem _ hc)]
  exact this _ fun c hc => hc
theorem steps_same : (putsL n t ++ goP chs t st ++ outsL chs).filter (alw n chs t st) = stepsL n chs t st := by
  unfold stepsL
  rw [List.filter_append, List.filter_append, List.filter_append, List.filter_append, go_same g gs]
theorem en_lsteps : Ens (noX (l_steps (fab2 n chs t) st)) (fun v => v = (stepsL n chs t st).map s3D) := by
  have hn := g.g2.fg.ng.n5
  have hm := g.g2.fg.ng.ml
  have hpl := puts_len g
  have h60 : 12 * n * n ≤ 300 := by
    have := Nat.mul_le_mul (Nat.mul_le_mul_left 12 hn) hn
    omega
  have rngn : Rng (n : Int) := rng_small (by omega) (by omega)
  have rngm : Rng (chs.length : Int) := rng_small (by omega) (by omega)
  refine en_noX (en_bndE (en_eq _) (en_bndE (en_eq _) (en_bndE (a := span 0 n) (en_grd rngn (en_ret rfl)) ?_)))
  refine en_acc30 (fun u => (span 0 n).flatMap fun d => (cell t u.toNat d.toNat).map fun c => S3.put u d c) [] (12 * n) (span 0 n) (fun u hu => ?_) (fun u hu ys k hl hk => ?_) ?_
  · have h := fm_le (f := fun d => (cell t u.toNat d.toNat).map fun c => S3.put u d c) (K := 12) (span 0 n) fun d hd => by
      obtain ⟨u0, u1⟩ := mem_span.mp hu
      obtain ⟨d0, d1⟩ := mem_span.mp hd
      rw [List.length_map]
      exact g.g2.fg.tg.len _ _ (by omega) (by omega)
    rw [span_length] at h
    exact h
  · rw [span_length] at hl
    have hl : ys.length ≤ 300 := by rw [List.length_nil] at hl; omega
    obtain ⟨u0, u1⟩ := mem_span.mp hu
    refine en_bndE (a := span 0 n) (en_grd rngn (en_ret rfl)) ?_
    refine en_acc30 (fun d => (cell t u.toNat d.toNat).map fun c => S3.put u d c) ys 12 (span 0 n) (fun d hd => ?_) (fun d hd zs k2 hl2 hk2 => ?_) hk
    · obtain ⟨d0, d1⟩ := mem_span.mp hd
      rw [List.length_map]
      exact g.g2.fg.tg.len _ _ (by omega) (by omega)
    · rw [span_length] at hl2
      obtain ⟨d0, d1⟩ := mem_span.mp hd
      obtain ⟨row, e3, e4⟩ := tab_at g.g2.fg.tg.shp u0 (by omega) d0 (by omega)
      have hcl := g.g2.fg.tg.len u.toNat d.toNat (by omega) (by omega)
      refine en_bndE (a := (zs ++ (cell t u.toNat d.toNat).map fun c => S3.put u d c).map s3D) (en_bndE (en_bndE (en_bndE (en_optE e3) (en_optE e4)) (en_lcM (fun c => s3D (.put u d c)) _ (by omega) fun c _ => en_ret rfl)) (en_grd (by rw [List.length_map, List.length_map]; omega) (en_ret (by rw [List.map_append, List.map_map]; rfl)))) hk2
  · show Ens _ _
    rw [List.nil_append]
    refine en_bndE (en_eq _) (en_bndE (a := span 0 chs.length) (en_grd rngm (en_ret rfl)) ?_)
    refine en_acc30 (fun c => (span 0 chs.length).map fun c2 => S3.mv (.go c c2)) (putsL n t) 12 (span 0 chs.length) (fun c hc => by rw [List.length_map, span_length]; exact hm) (fun c hc ys k hl hk => ?_) ?_
    · rw [span_length] at hl
      refine en_bndE (a := (ys ++ (span 0 chs.length).map fun c2 => S3.mv (.go c c2)).map s3D) (en_bndE (en_bndE (a := span 0 chs.length) (en_grd rngm (en_ret rfl)) (en_lcM (fun c2 => s3D (.mv (.go c c2))) _ (by rw [span_length]; omega) fun c2 _ => en_ret rfl)) (en_grd (by rw [List.length_map, List.length_map, span_length]; omega) (en_ret (by rw [List.map_append, List.map_map]; rfl)))) hk
    · have hgl : (goL chs).length ≤ 144 := by
        have := fm_le (f := fun c => (span 0 chs.length).map fun c2 => S3.mv (.go c c2)) (K := 12) (span 0 chs.length) fun c hc => by rw [List.length_map, span_length]; exact hm
        rw [span_length] at this
        unfold goL
        omega
      refine en_bndE (a := (putsL n t ++ goL chs ++ outsL chs).map s3D) (en_bndE (en_bndE (a := span 0 chs.length) (en_grd rngm (en_ret rfl)) (en_lcM (fun c2 => s3D (.mv (.out c2))) _ (by rw [span_length]; omega) fun c2 _ => en_ret rfl)) (en_grd (by
          rw [List.length_map, List.length_map, span_length, List.length_append]
          show (putsL n t).length + (goL chs).length + chs.length ≤ _
          omega) (en_ret (by
          rw [List.map_append (l₂ := outsL chs)]
          unfold outsL
          rw [List.map_map]
          rfl)))) (en_bndE (en_eq _) (en_grd (by
            rw [List.length_map, List.length_append, List.length_append]
            unfold outsL
            rw [List.length_map, span_length]
            omega) (en_noX (en_filt _ fun z hz => ?_))))
      refine en_all3 g.g2 gs ?_
      rcases List.mem_append.mp hz with hz | hz
      · rcases List.mem_append.mp hz with hz | hz
        · exact puts_ok g z hz
        · exact gos_ok z hz
      · exact outs_ok z hz
theorem en_psteps : Ens (noX (p_possible_steps (fab2 n chs t) st)) (fun v => v = (stepsL n chs t st).map s3D) := by
  have hn := g.g2.fg.ng.n5
  have hm := g.g2.fg.ng.ml
  have hl2 := gs.len
  have htl : t.length = n := g.g2.fg.tg.shp.len
  have hpl := puts_len g
  have h60 : 12 * n * n ≤ 300 := by
    have := Nat.mul_le_mul (Nat.mul_le_mul_left 12 hn) hn
    omega
  have rngn : Rng ((t.length : Nat) : Int) := rng_small (by omega) (by omega)
  have rngm : Rng ((st.2.length : Nat) : Int) := rng_small (by omega) (by omega)
  have spn : span 0 (((t.length : Nat) : Int)).toNat = span 0 n := by rw [htl]; rfl
  have spm : span 0 (((st.2.length : Nat) : Int)).toNat = span 0 chs.length := by rw [hl2]; rfl
  refine en_noX (en_bndE (en_eq _) (en_bndE (en_eq _) (en_bndE (a := span 0 n) (en_grd rngn (en_ret spn)) ?_)))
  refine en_acc30 (fun u => (span 0 n).flatMap fun d => (cell t u.toNat d.toNat).map fun c => S3.put u d c) [] (12 * n) (span 0 n) (fun u hu => ?_) (fun u hu ys k hl hk => ?_) ?_
  · have h := fm_le (f := fun d => (cell t u.toNat d.toNat).map fun c => S3.put u d c) (K := 12) (span 0 n) fun d hd => by
      obtain ⟨u0, u1⟩ := mem_span.mp hu
      obtain ⟨d0, d1⟩ := mem_span.mp hd
      rw [List.length_map]
      exact g.g2.fg.tg.len _ _ (by omega) (by omega)
    rw [span_length] at h
    exact h
  · rw [span_length] at hl
    have hl : ys.length ≤ 300 := by rw [List.length_nil] at hl; omega
    obtain ⟨u0, u1⟩ := mem_span.mp hu
    refine en_bndE (a := span 0 n) (en_grd rngn (en_ret spn)) ?_
    refine en_acc30 (fun d => (cell t u.toNat d.toNat).map fun c => S3.put u d c) ys 12 (span 0 n) (fun d hd => ?_) (fun d hd zs k2 hl2 hk2 => ?_) hk
    · obtain ⟨d0, d1⟩ := mem_span.mp hd
      rw [List.length_map]
      exact g.g2.fg.tg.len _ _ (by omega) (by omega)
    · rw [span_length] at hl2
      obtain ⟨d0, d1⟩ := mem_span.mp hd
      obtain ⟨row, e3, e4⟩ := tab_at g.g2.fg.tg.shp u0 (by omega) d0 (by omega)
      have hcl := g.g2.fg.tg.len u.toNat d.toNat (by omega) (by omega)
      refine en_bndE (a := (zs ++ (cell t u.toNat d.toNat).map fun c => S3.put u d c).map s3D) (en_bndE (en_bndE (en_bndE (en_optE e3) (en_optE e4)) (en_lcM (fun c => s3D (.put u d c)) _ (by omega) fun c _ => en_ret rfl)) (en_grd (by rw [List.length_map, List.length_map]; omega) (en_ret (by rw [List.map_append, List.map_map]; rfl)))) hk2
  · show Ens _ _
    rw [List.nil_append]
    refine en_bndE (a := span 0 chs.length) (en_grd rngm (en_ret spm)) ?_
    refine en_acc30 (fun c => (nxS chs t st c).map fun c2 => S3.mv (.go c c2)) (putsL n t) 12 (span 0 chs.length) (fun c hc => by
        obtain ⟨c0, c1⟩ := mem_span.mp hc
        rw [List.length_map]
        exact nx_len g.g2 gs c0 (by omega)) (fun c hc ys k hl hk => ?_) ?_
    · rw [span_length] at hl
      obtain ⟨c0, c1⟩ := mem_span.mp hc
      have hnl := nx_len g.g2 gs c0 (by omega)
      refine en_bndE (a := (ys ++ (nxS chs t st c).map fun c2 => S3.mv (.go c c2)).map s3D) (en_bndE (en_bndE (en_next g.g2 gs c0 (by omega)) (en_lcM (fun c2 => s3D (.mv (.go c c2))) _ (by omega) fun c2 _ => en_ret rfl)) (en_grd (by rw [List.length_map, List.length_map]; omega) (en_ret (by rw [List.map_append, List.map_map]; rfl)))) hk
    · have hgl : (goP chs t st).length ≤ 144 := by
        have := fm_le (f := fun c => (nxS chs t st c).map fun c2 => S3.mv (.go c c2)) (K := 12) (span 0 chs.length) fun c hc => by
          obtain ⟨c0, c1⟩ := mem_span.mp hc
          rw [List.length_map]
          exact nx_len g.g2 gs c0 (by omega)
        rw [span_length] at this
        unfold goP
        omega
      rw [← steps_same g gs]
      refine en_bndE (a := (putsL n t ++ goP chs t st ++ outsL chs).map s3D) (en_bndE (en_bndE (a := span 0 chs.length) (en_grd rngm (en_ret spm)) (en_lcM (fun c2 => s3D (.mv (.out c2))) _ (by rw [span_length]; omega) fun c2 _ => en_ret rfl)) (en_grd (by
          rw [List.length_map, List.length_map, span_length, List.length_append]
          show (putsL n t).length + (goP chs t st).length + chs.length ≤ _
          omega) (en_ret (by
          rw [List.map_append (l₂ := outsL chs)]
          unfold outsL
          rw [List.map_map]
          rfl)))) (en_bndE (en_eq _) (en_grd (by
            rw [List.length_map, List.length_append, List.length_append]
            unfold outsL
            rw [List.length_map, span_length]
            omega) (en_noX (en_filt _ fun z hz => ?_))))
      refine en_pos3 g.g2 gs ?_
      rcases List.mem_append.mp hz with hz | hz
      · rcases List.mem_append.mp hz with hz | hz
        · exact puts_ok g z hz
        · exact gop_ok g gs z hz
      · exact outs_ok z hz
end
end Cf
/-! k30: what is seen, what is refused, a script played. -/
namespace Cf
open PySem WL L2
theorem span_cons30 (lo : Int) (n : Nat) : span lo (n + 1) = lo :: span (lo + 1) n := by
  unfold span
  rw [List.range_succ_eq_map, List.map_cons, List.map_map]
  congr 1
  · simp
  · refine List.map_congr_left fun k _ => ?_
    show lo + ((k + 1 : Nat) : Int) = lo + 1 + (k : Int)
    omega
theorem ee_first : EE (eO (e2 eI eI)) 1 := ee_O (ee_2 ee_I ee_I) (fun _ => rfl) fun _ => rfl
def runS (st : St2) : List S3 → St2
  | [] => st
  | x :: xs => runS (nx3 st x) xs
def RunOk (n : Nat) (chs : Chs) (t : Tab) : St2 → List S3 → Prop
  | _, [] => True
  | st, x :: xs => x.ok ∧ alw n chs t st x = true ∧ RunOk n chs t (nx3 st x) xs
theorem runS_snoc (x : S3) : ∀ (xs : List S3) (st : St2), runS st (xs ++ [x]) = nx3 (runS st xs) x
  | [], _ => rfl
  | y :: ys, st => runS_snoc x ys (nx3 st y)
theorem RunOk.snoc {n : Nat} {chs : Chs} {t : Tab} {x : S3} (hx : x.ok) : ∀ {xs : List S3} {st : St2}, RunOk n chs t st xs → alw n chs t (runS st xs) x = true → RunOk n chs t st (xs ++ [x])
  | [], _, _, h => ⟨hx, h, True.intro⟩
  | _ :: _, _, ⟨h1, h2, h3⟩, h => ⟨h1, h2, h3.snoc hx h⟩
section
variable {n : Nat} {chs : Chs} {t : Tab} {B : Int} {st : St2} (g : FG3 n chs t) (gs : GSt n chs t B st)
include g gs
theorem after_thr {x : S3} (hx : x.ok) (h : alw n chs t st x = false) {P : St2 → Prop} {X : Xn → Prop} (hX : X (.plain 0)) : p_afterX (fab2 n chs t) st (s3D x) P X := by
  have e : Ens (bnd (noX (p_is_possible (fab2 n chs t) st (s3D x))) fun x1 => ret (!x1)) (fun v => v = true) := en_bndE (en_pos3 g.g2 gs hx) (en_ret (by rw [h]; rfl))
  exact e _ X fun v hv => by
    subst hv
    exact hX
theorem en_afterX {x : S3} (hx : x.ok) (h : alw n chs t st x = true) : Ens (noX (p_afterX (fab2 n chs t) st (s3D x))) (fun v => v = nx3 st x) :=
  en_noX (en_bndE (a := false) (en_bndE (en_pos3 g.g2 gs hx) (en_ret (by rw [h]; rfl))) (en_sel (fun h => (by cases h)) fun _ => en_mov3 g.g2 gs hx h))
theorem en_refused {x : S3} (hx : x.ok) (h : alw n chs t st x = false) : Ens (noX (l_refused (fab2 n chs t) st (s3D x))) (fun v => v = true) := fun P X hp => by
  show p_afterX (fab2 n chs t) st (s3D x) _ _
  exact after_thr g gs hx h (hp true rfl)
omit gs in
/-- a script whose first steps may be played -/
theorem play_run {script : List PyData} {P : St2 → Prop} {X : Xn → Prop} {tail : List PyData} : ∀ (xs : List S3) (j : Nat) {B : Int} {s : St2}, GSt n chs t B s → RunOk n chs t s xs → script.drop j = xs.map s3D ++ tail →
    (forK (fun x1 (s2 : ((Int × (List (List (Int × Int)))))) kc3 kb4 =>
      bnd (bnd (bnd (opt (atI script x1)) fun x5 => noX (p_is_possible (fab2 n chs t) s2 x5)) fun x6 => ret (!x6)) fun b7 => sel b7
      (raiN 0 (ret x1))
      (bnd (bnd (opt (atI script x1)) fun x8 => noX (p_moved s2 x8)) fun state_9 => kc3 state_9)) (fun s2 : ((Int × (List (List (Int × Int))))) => ret s2) (span ((j + xs.length : Nat) : Int) tail.length) (runS s xs) P X) →
    forK (fun x1 (s2 : ((Int × (List (List (Int × Int)))))) kc3 kb4 =>
      bnd (bnd (bnd (opt (atI script x1)) fun x5 => noX (p_is_possible (fab2 n chs t) s2 x5)) fun x6 => ret (!x6)) fun b7 => sel b7
      (raiN 0 (ret x1))
      (bnd (bnd (opt (atI script x1)) fun x8 => noX (p_moved s2 x8)) fun state_9 => kc3 state_9)) (fun s2 : ((Int × (List (List (Int × Int))))) => ret s2) (span (j : Int) (xs.length + tail.length)) s P X
  | [], j, B, s, gs, _, _, h => by
    have h : forK _ _ (span ((j : Nat) : Int) tail.length) s P X := h
    rw [List.length_nil, Nat.zero_add]
    exact h
  | x :: xs, j, B, s, gs, ⟨h1, h2, h3⟩, hd, h => by
    have e0 : script[j]? = some (s3D x) := by
      have := congrArg (fun l => l[0]?) hd
      simpa using this
    have e1 : atI script (j : Int) = some (s3D x) := atI_nat e0
    rw [show (x :: xs).length + tail.length = (xs.length + tail.length) + 1 by rw [List.length_cons]; omega, span_cons30]
    have ep : Ens (bnd (bnd (opt (atI script (j : Int))) fun x5 => noX (p_is_possible (fab2 n chs t) s x5)) fun x6 => ret (!x6)) (fun v => v = false) := en_bndE (en_bndE (en_optE e1) (en_pos3 g.g2 gs h1)) (en_ret (by rw [h2]; rfl))
    have em : Ens (bnd (opt (atI script (j : Int))) fun x8 => noX (p_moved s x8)) (fun v => v = nx3 s x) := en_bndE (en_optE e1) (en_mov3 g.g2 gs h1 h2)
    refine ep _ X fun v hv => ?_
    subst hv
    refine em _ X fun v hv => ?_
    subst hv
    have hd' : script.drop (j + 1) = xs.map s3D ++ tail := by
      have := congrArg (List.drop 1) hd
      rw [List.drop_drop] at this
      simpa using this
    have := play_run (script := script) xs (j + 1) (nx3_ok g.g2 gs h1 h2) h3 hd' (by
      rw [show j + 1 + xs.length = j + (x :: xs).length by rw [List.length_cons]; omega]
      exact h)
    rw [show ((j : Int) + 1) = ((j + 1 : Nat) : Int) by omega]
    exact this
theorem en_play {xs : List S3} (hr : RunOk n chs t st xs) (hl : xs.length ≤ 1000) : Ens (noX (p_playX (fab2 n chs t) st (xs.map s3D))) (fun v => v = runS st xs) := fun P X hp => by
  refine (show Ens (grd (Rng ((xs.map s3D).length : Int)) (ret (span 0 (((xs.map s3D).length : Int)).toNat))) (fun v => v = span 0 xs.length) from en_grd (rng_small (by omega) (by rw [List.length_map]; omega)) (en_ret (by rw [List.length_map]; rfl))) _ _ fun v hv => ?_
  subst hv
  have := play_run (script := xs.map s3D) (P := P) (X := fun _ => False) (tail := []) g xs 0 gs hr (by simp) (hp _ rfl)
  exact this
theorem play_thr {xs : List S3} {y : S3} {rest : List PyData} (hr : RunOk n chs t st xs) (hl : xs.length + rest.length ≤ 1000) (hy : y.ok) (h : alw n chs t (runS st xs) y = false) (gr : ∃ B, GSt n chs t B (runS st xs)) {P : St2 → Prop} {X : Xn → Prop} (hX : X (.num 0 (xs.length : Int))) :
    p_playX (fab2 n chs t) st (xs.map s3D ++ s3D y :: rest) P X := by
  obtain ⟨B', gr⟩ := gr
  have hlen : (xs.map s3D ++ s3D y :: rest).length = xs.length + (s3D y :: rest).length := by rw [List.length_append, List.length_map]
  refine (show Ens (grd (Rng ((xs.map s3D ++ s3D y :: rest).length : Int)) (ret (span 0 (((xs.map s3D ++ s3D y :: rest).length : Int)).toNat))) (fun v => v = span 0 (xs.length + (s3D y :: rest).length)) from en_grd (rng_small (by omega) (by rw [hlen, List.length_cons]; omega)) (en_ret (by rw [hlen]; rfl))) _ _ fun v hv => ?_
  subst hv
  refine play_run (script := xs.map s3D ++ s3D y :: rest) (tail := s3D y :: rest) g xs 0 gs hr (by simp) ?_
  rw [List.length_cons, span_cons30, Nat.zero_add]
  have e0 : (xs.map s3D ++ s3D y :: rest)[xs.length]? = some (s3D y) := by
    rw [List.getElem?_append_right (by rw [List.length_map]; exact Nat.le_refl _), List.length_map, Nat.sub_self]
    rfl
  have e1 : atI (xs.map s3D ++ s3D y :: rest) (xs.length : Int) = some (s3D y) := atI_nat e0
  have ep : Ens (bnd (bnd (opt (atI (xs.map s3D ++ s3D y :: rest) (xs.length : Int))) fun x5 => noX (p_is_possible (fab2 n chs t) (runS st xs) x5)) fun x6 => ret (!x6)) (fun v => v = true) := en_bndE (en_bndE (en_optE e1) (en_pos3 g.g2 gr hy)) (en_ret (by rw [h]; rfl))
  refine ep _ X fun v hv => ?_
  subst hv
  exact ⟨by omega, hX⟩
/-! ### what is seen -/
theorem en_sortPk : Ens (sortW (eT eI) (pkRows chs st)) (fun v => v = (pkRows chs st).mergeSort (PySem.W.dataLe false (eT eI))) := by
  have hk := pk_len g.g2 gs
  refine en_grd ⟨fun a ha b hb => ?_, .inl fun a ha => ?_, by omega, fun x hx => ?_⟩ (en_eq _)
  · obtain ⟨x, hx, rfl⟩ := List.mem_map.mp ha
    obtain ⟨y, hy, rfl⟩ := List.mem_map.mp hb
    obtain ⟨_, _, _, rfl⟩ := pk_form hx
    obtain ⟨_, _, _, rfl⟩ := pk_form hy
    simp [eT, eI, PySem.W.alike, PySem.W.alikeAll]
  · obtain ⟨x, hx, rfl⟩ := List.mem_map.mp ha
    obtain ⟨_, _, _, rfl⟩ := pk_form hx
    exact ⟨_, _, rfl⟩
  · obtain ⟨_, _, _, rfl⟩ := pk_form hx
    simp [eT, eI, PyData.depth, PyData.depthAll]
theorem en_packetsE : Ens (noX (p_packets_in st)) (fun v => v = (pkRows chs st).mergeSort (PySem.W.dataLe false (eT eI))) := by
  have hl := gs.len
  have hm := g.g2.fg.ng.ml
  refine en_noX (en_bndE (a := pkRows chs st) (en_bndE (a := span 0 chs.length) (en_grd (rng_small (by omega) (by omega)) (en_ret (by rw [hl]; rfl))) ((en_lc2 (fun _ => true) (fun c => rowS st c) (fun _ _ => true) (fun c p => [p.1, p.2, c]) 3 (span 0 chs.length) (by rw [span_length]; omega) (fun _ _ => en_eq _) (fun c hc _ => ?_) (fun c hc => ?_) (fun _ _ _ _ _ => en_eq _) (fun c _ _ p _ _ => en_grd (show 2 + 1 ≤ 16777216 by decide) (en_ret rfl))).mono fun v e => ?_)) (en_sortPk g gs))
  · have := mem_span.mp hc
    exact en_optE (row_at g.g2 gs this.1 (by omega))
  · have := mem_span.mp hc
    exact row_len g.g2 gs this.1 (by omega)
  · rw [e, ft]
    unfold pkRows
    congr 1
    funext c
    rw [ft]
theorem en_seen : Ens (noX (l_seen (fab2 n chs t) st)) (fun v => v = true) := by
  have hl := gs.len
  have hm := g.g2.fg.ng.ml
  have hm2 := g.g2.m2
  refine en_noX (en_bndE (en_eq _) (en_bndE (en_eq _) (en_bndE (a := span 0 chs.length) (en_grd (rng_small (by omega) (by omega)) (en_ret (by rw [hl]; rfl))) ?_)))
  refine en_for (fun pre s => s = pre.flatMap (fun c => (rowS st c).map fun p => [p.1, p.2, c])) _ rfl (fun pre c post s k e hs hk => ?_) (fun s hs => ?_)
  · subst hs
    have hc : c ∈ span 0 chs.length := by rw [e]; simp
    obtain ⟨c0, c1⟩ := mem_span.mp hc
    have c1 : c < chs.length := by omega
    have hrow := row_at g.g2 gs c0 c1
    have hrl := row_len g.g2 gs c0 c1
    have hpre : ∀ x ∈ pre, 0 ≤ x ∧ x < (chs.length : Int) := fun x hx => by
      have : x ∈ span 0 chs.length := by rw [e]; simp [hx]
      have := mem_span.mp this
      omega
    have hp : (pre.flatMap fun c => (rowS st c).map fun p => [p.1, p.2, c]).length ≤ 3 * pre.length := fm_le pre fun x hx => by
      rw [List.length_map]
      exact row_len g.g2 gs (hpre x hx).1 (hpre x hx).2
    have hpl : pre.length ≤ 12 := by
      have := congrArg List.length e
      rw [span_length, List.length_append] at this
      omega
    refine en_bndE (a := false) (en_bndE (en_first g.g2 gs c0 c1) (en_bndE (a := hdS st c) (en_bndE (en_bndE (en_optE hrow) (en_eqWN (ee_T (ee_2 ee_I ee_I)) (by decide) _ _)) (en_sel (fun h => ?_) (fun h => ?_))) ((en_eqWN ee_first (by decide) _ _).mono fun v e => by rw [e, decide_eq_true rfl]; rfl))) (en_sel (fun h => by cases h) fun _ => ?_)
    · have hne : rowS st c ≠ [] := fun z => by rw [z] at h; simp at h
      cases hr : rowS st c with
      | nil => exact absurd hr hne
      | cons p q =>
        rw [hr] at hrow
        refine en_bndE (en_bndE (en_optE hrow) (en_optE (a := p) (atI_nat (j := 0) rfl))) (en_ret ?_)
        unfold hdS
        rw [hr]
        rfl
    · have he : rowS st c = [] := by
        by_cases z : rowS st c = []
        · exact z
        · rw [decide_eq_false z] at h
          cases h
      refine en_ret ?_
      unfold hdS
      rw [he]
      rfl
    refine en_bndE (a := false) (en_bndE (en_full g.g2 gs c0 c1) (en_bndE (a := fullS chs st c) (en_bndE (en_bndE (en_optE hrow) (en_eq _)) (en_bndE (room_at g.g2.fg c0 c1) (en_eq _))) (en_ret (by rw [decide_eq_true rfl]; rfl)))) (en_sel (fun h => by cases h) fun _ => ?_)
    refine en_bndE (en_bndE (en_bndE (en_optE hrow) (en_lcM (fun p : Pk => [p.1, p.2, c]) _ (by omega) fun p _ => en_grd (show 2 + 1 ≤ 16777216 by decide) (en_ret rfl))) (en_grd (by rw [List.length_map]; omega) (en_eq _))) (hk _ ?_)
    rw [List.flatMap_append, List.flatMap_cons, List.flatMap_nil, List.append_nil]
  · have hs : s = pkRows chs st := hs
    subst hs
    exact en_bndE (en_packetsE g gs) (en_bndE (en_sortPk g gs) ((en_eqLW (ee_T ee_I) (by decide) _ _).mono fun v e => by rw [e, decide_eq_true rfl]))
end
end Cf
/-! k30: the law. -/
namespace Cf
open PySem WL L2
theorem eD_map (l : List PyData) : List.map eD l = l := List.map_id l
section
variable {n : Nat} {chs : Chs} {t : Tab} (g : FG3 n chs t)
include g
theorem en_anyStep : Ens (noX (l_any_step (fab2 n chs t))) (fun y => ∃ x : S3, y = s3D x ∧ x.ok) := by
  have hn := g.g2.fg.ng.n5
  have hm := g.g2.fg.ng.ml
  have tk : ∀ z : Int, 0 < z → z < 1000 → Ens (noX (l_take z)) (fun v => 0 ≤ v) := fun z h0 h1 => (en_take h0 (by omega)).mono fun v h => h.1
  refine en_noX (en_bndE (a := (n : Int) + 2) (en_eq _) (en_bndE (a := (chs.length : Int) + 2) (en_eq _) (en_bnd (R := fun _ => True) ((en_take (by decide) (by decide)).mono fun _ _ => True.intro) fun k _ => en_bndE (en_eq _) (en_sel (fun _ => ?_) fun _ => en_bndE (en_eq _) (en_sel (fun _ => ?_) fun _ => ?_)))))
  · refine en_bnd (R := fun y => y.1 = ("put" : Str) ∧ 0 ≤ y.2.1 ∧ 0 ≤ y.2.2.1 ∧ 0 ≤ y.2.2.2) (en_bnd (tk _ (by omega) (by omega)) fun u hu => en_bnd (tk _ (by omega) (by omega)) fun d hd => en_bnd (tk _ (by omega) (by omega)) fun c hc => en_ret ⟨rfl, hu, hd, hc⟩) fun y hy => ?_
    obtain ⟨w, u, d, c⟩ := y
    obtain ⟨rfl, hu, hd, hc⟩ := hy
    exact en_ret ⟨.put u d c, rfl, hu, hd, hc⟩
  · refine en_bnd (R := fun y => y.1 = ("go" : Str) ∧ 0 ≤ y.2.1 ∧ 0 ≤ y.2.2) (en_bnd (tk _ (by omega) (by omega)) fun u hu => en_bnd (tk _ (by omega) (by omega)) fun d hd => en_ret ⟨rfl, hu, hd⟩) fun y hy => ?_
    obtain ⟨w, u, d⟩ := y
    obtain ⟨rfl, hu, hd⟩ := hy
    exact en_ret ⟨.mv (.go u d), rfl, hu, hd⟩
  · refine en_bnd (R := fun y => y.1 = ("out" : Str) ∧ 0 ≤ y.2) (en_bnd (tk _ (by omega) (by omega)) fun u hu => en_ret ⟨rfl, hu⟩) fun y hy => ?_
    obtain ⟨w, u⟩ := y
    obtain ⟨rfl, hu⟩ := hy
    exact en_ret ⟨.mv (.out u), rfl, hu⟩
omit g in
theorem steps_len {n : Nat} {chs : Chs} {t : Tab} (g : FG3 n chs t) {B : Int} {st : St2} (gs : GSt n chs t B st) : (stepsL n chs t st).length ≤ 500 := by
  have hn := g.g2.fg.ng.n5
  have hm := g.g2.fg.ng.ml
  have hpl := puts_len g
  have h60 : 12 * n * n ≤ 300 := by
    have := Nat.mul_le_mul (Nat.mul_le_mul_left 12 hn) hn
    omega
  have hgl : (goL chs).length ≤ 144 := by
    have := fm_le (f := fun c => (span 0 chs.length).map fun c2 => S3.mv (.go c c2)) (K := 12) (span 0 chs.length) fun c hc => by rw [List.length_map, span_length]; exact hm
    rw [span_length] at this
    unfold goL
    omega
  have hol : (outsL chs).length = chs.length := by
    unfold outsL
    rw [List.length_map, span_length]
  have := List.length_filter_le (alw n chs t st) (putsL n t ++ goL chs ++ outsL chs)
  rw [List.length_append, List.length_append] at this
  unfold stepsL
  omega
theorem steps_ok {st : St2} : ∀ x ∈ stepsL n chs t st, x.ok := fun x hx => by
  have hx := (List.mem_filter.mp hx).1
  rcases List.mem_append.mp hx with hx | hx
  · rcases List.mem_append.mp hx with hx | hx
    · exact puts_ok g x hx
    · exact gos_ok x hx
  · exact outs_ok x hx
end
theorem ee_st : EE (e2 eI (eT (eT (e2 eI eI)))) 4 := ee_2 (ee_I.up (by decide)) (ee_T (ee_T (ee_2 ee_I ee_I)))
set_option maxHeartbeats 2000000 in
theorem en_law30 : Ens law30 (fun b => b = true) := by
  refine en_bnd (en_noX (en_fabric3 (by decide) (by decide) (by decide) (by decide))) fun f ⟨n, chs, t, ef, g, hml⟩ => ?_
  subst ef
  have hn := g.g2.fg.ng.n5
  have hm := g.g2.fg.ng.ml
  have hm2 := g.g2.m2
  obtain ⟨_, hr1, hr2⟩ := repL_st g.g2 (fun v => v = ((0 : Int), List.replicate chs.length ([] : List Pk)) ∧ GSt n chs t 0 v) (fun _ => False) fun v hv => hv
  obtain ⟨e0, ee0, gs0⟩ : ∃ st0 : St2, st0 = ((0 : Int), List.replicate chs.length ([] : List Pk)) ∧ GSt n chs t 0 st0 := ⟨_, hr1, hr2⟩
  have hemp : Ens (noX (p_empty_state (fab2 n chs t))) (fun v => v = e0) := (repL_st g.g2).mono fun v h => h.1.trans ee0.symm
  refine en_bndE (a := e0) (en_bndE (a := List.replicate chs.length ([] : List Pk)) (en_grd ⟨by simp, by show (2 : Int) ≤ (chs.length : Int); omega, by show (chs.length : Int) ≤ 1000; omega, by decide⟩ (en_ret (repL_one _ _))) (en_ret ee0.symm)) ?_
  refine en_bndE (a := false) (en_bndE hemp ((en_eqWN ee_st (by decide) _ _).mono fun v e => by rw [e, decide_eq_true rfl]; rfl)) (en_sel (fun h => by cases h) fun _ => ?_)
  refine en_bndE (en_eq _) (en_bnd (R := fun l => l.length ≤ 41) (en_bnd (en_take (by decide) (by decide)) fun z hz => en_grd (rng_small hz.1 (by omega)) (en_ret (by rw [span_length]; omega))) fun l hl => ?_)
  refine en_for (fun pre s => ∃ xs, s.1 = xs.map s3D ∧ RunOk n chs t e0 xs ∧ s.2 = runS e0 xs ∧ GSt n chs t (pre.length : Int) s.2 ∧ xs.length ≤ pre.length) l ⟨[], rfl, True.intro, rfl, gs0, Nat.le_refl _⟩ (fun pre x post s k e hI hk => ?_) (fun s hI => ?_)
  · obtain ⟨xs, hs1, hr, hs2, gs, hxl⟩ := hI
    have hpl : pre.length < 41 := by
      have := congrArg List.length e
      rw [List.length_append, List.length_cons] at this
      omega
    have gs' : GSt n chs t ((pre ++ [x]).length : Int) s.2 := by
      refine gs.mono (a := s.2.1) (Int.le_refl _) ?_
      have := gs.cB
      rw [List.length_append]
      omega
    refine en_bndE (en_lsteps g gs) ?_
    refine en_bndE (a := false) (en_bndE (a := false) (en_bndE (en_psteps g gs) ?_) (en_sel (fun h => by cases h) fun _ => en_bndE (en_seen g gs) (en_eq _))) (en_sel (fun h => by cases h) fun _ => ?_)
    · rw [eD_map]
      exact (en_eqLNW ee_s3 (by decide) _ _).mono fun v e => by rw [e, decide_eq_true rfl]; rfl
    refine en_bnd (en_anyStep g) fun y0 hy0 => ?_
    refine en_letK (I := fun y => ∃ x : S3, y = s3D x ∧ x.ok) (fun y hy => ?_) (fun k' hk' => ?_)
    · obtain ⟨z, rfl, hz⟩ := hy
      refine en_bndE (en_all3 g.g2 gs hz) (en_bndE (a := false) (en_bndE (en_pos3 g.g2 gs hz) (en_ret (by rw [decide_eq_true rfl]; rfl))) (en_sel (fun h => by cases h) fun _ => en_bndE (en_eq _) (en_sel (fun h => ?_) (fun h => ?_))))
      · have ha : alw n chs t s.2 z = false := by simpa using h
        refine en_bndE (a := false) (en_bndE (en_refused g gs hz ha) (en_eq _)) (en_sel (fun h => by cases h) fun _ => ?_)
        have hwa : Ens (bnd (noX (p_empty_state (fab2 n chs t))) fun x31 => bnd (grd (s.1.length + [s3D z, ((e2 eS eI) (("out" : Str), (0 : Int)))].length ≤ 16777216) (ret (s.1 ++ [s3D z, ((e2 eS eI) (("out" : Str), (0 : Int)))]))) fun x32 => ret (fab2 n chs t, x31, x32, ())) (fun v => v = (fab2 n chs t, e0, s.1 ++ [s3D z, ((e2 eS eI) (("out" : Str), (0 : Int)))], ())) :=
          en_bndE hemp (en_bndE (en_grd (by rw [hs1, List.length_map]; show xs.length + 2 ≤ _; omega) (en_eq _)) (en_eq _))
        intro P X hp
        refine hwa _ X fun v hv => ?_
        subst hv
        show p_playX (fab2 n chs t) e0 (s.1 ++ [s3D z, _]) _ _
        rw [hs1]
        refine play_thr g gs0 (rest := [(e2 eS eI) (("out" : Str), (0 : Int))]) hr (by show xs.length + 1 ≤ 1000; omega) hz (by rw [← hs2]; exact ha) ⟨_, by rw [← hs2]; exact gs⟩ ?_
        have hfin : Ens (bnd (sel (!decide ((xs.length : Int) = ((xs.map s3D).length : Int))) (ret true) (ret (!true))) fun b34 => sel b34 (ret false) (k (xs.map s3D, s.2))) (fun b => b = true) := by
          refine en_bndE (a := false) (en_sel (fun h => ?_) fun _ => en_eq _) (en_sel (fun h => by cases h) fun _ => hk _ ⟨xs, rfl, hr, hs2, gs', by rw [List.length_append]; omega⟩)
          rw [List.length_map, decide_eq_true rfl] at h
          cases h
        exact hfin P X hp
      · have ha : alw n chs t s.2 z = true := by
          cases q : alw n chs t s.2 z with
          | true => rfl
          | false => rw [q] at h; cases h
        have gn := nx3_ok g.g2 gs hz ha
        refine en_app (R := fun v => v = s3D z) (en_eq _) (by rw [hs1, List.length_map]; omega) fun v hv => ?_
        subst hv
        refine en_bndE (a := false) (en_bndE (en_afterX g gs hz ha) (en_bndE (en_beh3 g.g2 gs hz ha) ((en_eqWN ee_st (by decide) _ _).mono fun v e => by rw [e, decide_eq_true rfl]; rfl))) (en_sel (fun h => by cases h) fun _ => ?_)
        refine en_bndE (en_beh3 g.g2 gs hz ha) (hk _ ⟨xs ++ [z], by rw [hs1, List.map_append]; rfl, hr.snoc hz (by rw [← hs2]; exact ha), by rw [runS_snoc, ← hs2], ?_, by rw [List.length_append, List.length_append]; show xs.length + 1 ≤ pre.length + 1; omega⟩)
        rw [List.length_append]
        exact gn
    · have hsl := steps_len g gs
      refine en_bnd (R := fun b => b = true → stepsL n chs t s.2 ≠ []) (en_bnd (R := fun b => b = true → stepsL n chs t s.2 ≠ []) ?_ fun b hb => en_sel (fun h => en_bnd (R := fun _ => True) ((en_take (by decide) (by decide)).mono fun _ _ => True.intro) fun v _ => en_ret fun _ => hb h) fun _ => en_ret fun h => by cases h) fun b hb => en_sel (fun h => ?_) fun _ => hk' _ hy0
      · rw [eD_map]
        have := (en_eqLNW ee_s3 (by decide) (stepsL n chs t s.2) [])
        refine this.mono fun v e h z => ?_
        rw [e, z] at h
        simp at h
      · have hne := hb h
        have hpos : 0 < (stepsL n chs t s.2).length := List.length_pos_iff.mpr hne
        refine en_bnd (R := fun y => ∃ x : S3, y = s3D x ∧ x.ok) (en_bnd (en_take (by rw [List.length_map]; omega) (by rw [List.length_map]; omega)) fun j hj => ?_) fun y hy => hk' _ hy
        rw [List.length_map] at hj
        have hj2 : j.toNat < (stepsL n chs t s.2).length := by omega
        refine en_opt (a := s3D ((stepsL n chs t s.2)[j.toNat])) ?_ ⟨_, rfl, steps_ok g _ (List.getElem_mem hj2)⟩
        have := atI_nat (xs := (stepsL n chs t s.2).map s3D) (j := j.toNat) (v := s3D ((stepsL n chs t s.2)[j.toNat])) (by rw [List.getElem?_map, List.getElem?_eq_getElem hj2]; rfl)
        rwa [show ((j.toNat : Nat) : Int) = j by omega] at this
  · obtain ⟨xs, hs1, hr, hs2, gs, hxl⟩ := hI
    rw [hs1, hs2]
    exact en_bndE (en_bndE hemp (en_play g gs0 hr (by omega))) ((en_eqW ee_st (by decide) _ _).mono fun v e => by rw [e, decide_eq_true rfl])
theorem hm_law30 : law30 (fun b => b = true) (fun _ => False) := en_law30 _ _ fun _ h => h
theorem hn : ∀ ns z, 1 ≤ z → z ≤ 1000 → l_numbers ns z (fun v => v ≠ [] ∧ v.length ≤ 1000 ∧ ∀ c ∈ v, 0 ≤ c) (fun _ => False) := dr_hyp
end Cf
namespace Cf
open PySem PySem.Spec PyProof.Rows L2 WL
set_option maxHeartbeats 4000000 in
theorem all_mk {l : PySem.W.OpenLaw} {w : World} {K : PySem.W.Frag} {h : Heap} {mg : Str → Option Value} {fa : Addr} (X : K.In h) (G : h.Ns mainGlobals mg) (hfa : mg "law" = some (.ref fa))
    {f0 : Addr} {od0 an0 : Option Addr} {sl0 : Array (Option Value)} {oc0 kV0 dc0 pm0 cd0 ct0 : Value}
    {f1 : Addr} {od1 an1 : Option Addr} {sl1 : Array (Option Value)} {oc1 kV1 dc1 pm1 cd1 ct1 : Value}
    {f2 : Addr} {od2 an2 : Option Addr} {sl2 : Array (Option Value)} {oc2 kV2 dc2 pm2 cd2 ct2 : Value}
    {f3 : Addr} {od3 an3 : Option Addr} {sl3 : Array (Option Value)} {oc3 kV3 dc3 pm3 cd3 ct3 : Value}
    {f4 : Addr} {od4 an4 : Option Addr} {sl4 : Array (Option Value)} {oc4 kV4 dc4 pm4 cd4 ct4 : Value}
    {f5 : Addr} {od5 an5 : Option Addr} {sl5 : Array (Option Value)} {oc5 kV5 dc5 pm5 cd5 ct5 : Value}
    {f6 : Addr} {od6 an6 : Option Addr} {sl6 : Array (Option Value)} {oc6 kV6 dc6 pm6 cd6 ct6 : Value}
    {f7 : Addr} {od7 an7 : Option Addr} {sl7 : Array (Option Value)} {oc7 kV7 dc7 pm7 cd7 ct7 : Value}
    {f8 : Addr} {od8 an8 : Option Addr} {sl8 : Array (Option Value)} {oc8 kV8 dc8 pm8 cd8 ct8 : Value}
    {f9 : Addr} {od9 an9 : Option Addr} {sl9 : Array (Option Value)} {oc9 kV9 dc9 pm9 cd9 ct9 : Value}
    {f10 : Addr} {od10 an10 : Option Addr} {sl10 : Array (Option Value)} {oc10 kV10 dc10 pm10 cd10 ct10 : Value}
    {f11 : Addr} {od11 an11 : Option Addr} {sl11 : Array (Option Value)} {oc11 kV11 dc11 pm11 cd11 ct11 : Value}
    {f12 : Addr} {od12 an12 : Option Addr} {sl12 : Array (Option Value)} {oc12 kV12 dc12 pm12 cd12 ct12 : Value}
    {f13 : Addr} {od13 an13 : Option Addr} {sl13 : Array (Option Value)} {oc13 kV13 dc13 pm13 cd13 ct13 : Value}
    {f14 : Addr} {od14 an14 : Option Addr} {sl14 : Array (Option Value)} {oc14 kV14 dc14 pm14 cd14 ct14 : Value}
    {f15 : Addr} {od15 an15 : Option Addr} {sl15 : Array (Option Value)} {oc15 kV15 dc15 pm15 cd15 ct15 : Value}
    {f16 : Addr} {od16 an16 : Option Addr} {sl16 : Array (Option Value)} {oc16 kV16 dc16 pm16 cd16 ct16 : Value}
    {f17 : Addr} {od17 an17 : Option Addr} {sl17 : Array (Option Value)} {oc17 kV17 dc17 pm17 cd17 ct17 : Value}
    {f18 : Addr} {od18 an18 : Option Addr} {sl18 : Array (Option Value)} {oc18 kV18 dc18 pm18 cd18 ct18 : Value}
    {f19 : Addr} {od19 an19 : Option Addr} {sl19 : Array (Option Value)} {oc19 kV19 dc19 pm19 cd19 ct19 : Value}
    {f20 : Addr} {od20 an20 : Option Addr} {sl20 : Array (Option Value)} {oc20 kV20 dc20 pm20 cd20 ct20 : Value}
    {f21 : Addr} {od21 an21 : Option Addr} {sl21 : Array (Option Value)} {oc21 kV21 dc21 pm21 cd21 ct21 : Value}
    {f22 : Addr} {od22 an22 : Option Addr} {sl22 : Array (Option Value)} {oc22 kV22 dc22 pm22 cd22 ct22 : Value}
    {f23 : Addr} {od23 an23 : Option Addr} {sl23 : Array (Option Value)} {oc23 kV23 dc23 pm23 cd23 ct23 : Value}
    {f24 : Addr} {od24 an24 : Option Addr} {sl24 : Array (Option Value)} {oc24 kV24 dc24 pm24 cd24 ct24 : Value}
    {f25 : Addr} {od25 an25 : Option Addr} {sl25 : Array (Option Value)} {oc25 kV25 dc25 pm25 cd25 ct25 : Value}
    {f26 : Addr} {od26 an26 : Option Addr} {sl26 : Array (Option Value)} {oc26 kV26 dc26 pm26 cd26 ct26 : Value}
    {f27 : Addr} {od27 an27 : Option Addr} {sl27 : Array (Option Value)} {oc27 kV27 dc27 pm27 cd27 ct27 : Value}
    (a0 : PySem.W.nsIn K mainGlobals "options" = some (some (.ref f0)))
    (l0 : K.lookup f0 = some ⟨oc0, od0, .func (PySem.W.fnOf "options" "options" (defArgs s_p_options) (defBody s_p_options) (defScope s_p_options) .none kV0 dc0 pm0 an0 cd0 ct0), sl0⟩)
    (c0 : PySem.W.codeIn K cd0 "options" = true) (k0 : PySem.W.keepIn K (.ref f0) = true)
    (a1 : PySem.W.nsIn K mainGlobals "is_home" = some (some (.ref f1)))
    (l1 : K.lookup f1 = some ⟨oc1, od1, .func (PySem.W.fnOf "is_home" "is_home" (defArgs s_p_is_home) (defBody s_p_is_home) (defScope s_p_is_home) .none kV1 dc1 pm1 an1 cd1 ct1), sl1⟩)
    (c1 : PySem.W.codeIn K cd1 "is_home" = true) (k1 : PySem.W.keepIn K (.ref f1) = true)
    (a2 : PySem.W.nsIn K mainGlobals "empty_state" = some (some (.ref f2)))
    (l2 : K.lookup f2 = some ⟨oc2, od2, .func (PySem.W.fnOf "empty_state" "empty_state" (defArgs s_p_empty_state) (defBody s_p_empty_state) (defScope s_p_empty_state) .none kV2 dc2 pm2 an2 cd2 ct2), sl2⟩)
    (c2 : PySem.W.codeIn K cd2 "empty_state" = true) (k2 : PySem.W.keepIn K (.ref f2) = true)
    (a3 : PySem.W.nsIn K mainGlobals "first_of" = some (some (.ref f3)))
    (l3 : K.lookup f3 = some ⟨oc3, od3, .func (PySem.W.fnOf "first_of" "first_of" (defArgs s_p_first_of) (defBody s_p_first_of) (defScope s_p_first_of) .none kV3 dc3 pm3 an3 cd3 ct3), sl3⟩)
    (c3 : PySem.W.codeIn K cd3 "first_of" = true) (k3 : PySem.W.keepIn K (.ref f3) = true)
    (a4 : PySem.W.nsIn K mainGlobals "is_full" = some (some (.ref f4)))
    (l4 : K.lookup f4 = some ⟨oc4, od4, .func (PySem.W.fnOf "is_full" "is_full" (defArgs s_p_is_full) (defBody s_p_is_full) (defScope s_p_is_full) .none kV4 dc4 pm4 an4 cd4 ct4), sl4⟩)
    (c4 : PySem.W.codeIn K cd4 "is_full" = true) (k4 : PySem.W.keepIn K (.ref f4) = true)
    (a5 : PySem.W.nsIn K mainGlobals "packets_in" = some (some (.ref f5)))
    (l5 : K.lookup f5 = some ⟨oc5, od5, .func (PySem.W.fnOf "packets_in" "packets_in" (defArgs s_p_packets_in) (defBody s_p_packets_in) (defScope s_p_packets_in) .none kV5 dc5 pm5 an5 cd5 ct5), sl5⟩)
    (c5 : PySem.W.codeIn K cd5 "packets_in" = true) (k5 : PySem.W.keepIn K (.ref f5) = true)
    (a6 : PySem.W.nsIn K mainGlobals "next_options" = some (some (.ref f6)))
    (l6 : K.lookup f6 = some ⟨oc6, od6, .func (PySem.W.fnOf "next_options" "next_options" (defArgs s_p_next_options) (defBody s_p_next_options) (defScope s_p_next_options) .none kV6 dc6 pm6 an6 cd6 ct6), sl6⟩)
    (c6 : PySem.W.codeIn K cd6 "next_options" = true) (k6 : PySem.W.keepIn K (.ref f6) = true)
    (a7 : PySem.W.nsIn K mainGlobals "is_possible" = some (some (.ref f7)))
    (l7 : K.lookup f7 = some ⟨oc7, od7, .func (PySem.W.fnOf "is_possible" "is_possible" (defArgs s_p_is_possible) (defBody s_p_is_possible) (defScope s_p_is_possible) .none kV7 dc7 pm7 an7 cd7 ct7), sl7⟩)
    (c7 : PySem.W.codeIn K cd7 "is_possible" = true) (k7 : PySem.W.keepIn K (.ref f7) = true)
    (a8 : PySem.W.nsIn K mainGlobals "possible_steps" = some (some (.ref f8)))
    (l8 : K.lookup f8 = some ⟨oc8, od8, .func (PySem.W.fnOf "possible_steps" "possible_steps" (defArgs s_p_possible_steps) (defBody s_p_possible_steps) (defScope s_p_possible_steps) .none kV8 dc8 pm8 an8 cd8 ct8), sl8⟩)
    (c8 : PySem.W.codeIn K cd8 "possible_steps" = true) (k8 : PySem.W.keepIn K (.ref f8) = true)
    (a9 : PySem.W.nsIn K mainGlobals "changed" = some (some (.ref f9)))
    (l9 : K.lookup f9 = some ⟨oc9, od9, .func (PySem.W.fnOf "changed" "changed" (defArgs s_p_changed) (defBody s_p_changed) (defScope s_p_changed) .none kV9 dc9 pm9 an9 cd9 ct9), sl9⟩)
    (c9 : PySem.W.codeIn K cd9 "changed" = true) (k9 : PySem.W.keepIn K (.ref f9) = true)
    (a10 : PySem.W.nsIn K mainGlobals "moved" = some (some (.ref f10)))
    (l10 : K.lookup f10 = some ⟨oc10, od10, .func (PySem.W.fnOf "moved" "moved" (defArgs s_p_moved) (defBody s_p_moved) (defScope s_p_moved) .none kV10 dc10 pm10 an10 cd10 ct10), sl10⟩)
    (c10 : PySem.W.codeIn K cd10 "moved" = true) (k10 : PySem.W.keepIn K (.ref f10) = true)
    (a11 : PySem.W.nsIn K mainGlobals "after" = some (some (.ref f11)))
    (l11 : K.lookup f11 = some ⟨oc11, od11, .func (PySem.W.fnOf "after" "after" (defArgs s_p_afterX) (defBody s_p_afterX) (defScope s_p_afterX) .none kV11 dc11 pm11 an11 cd11 ct11), sl11⟩)
    (c11 : PySem.W.codeIn K cd11 "after" = true) (k11 : PySem.W.keepIn K (.ref f11) = true)
    (a12 : PySem.W.nsIn K mainGlobals "play" = some (some (.ref f12)))
    (l12 : K.lookup f12 = some ⟨oc12, od12, .func (PySem.W.fnOf "play" "play" (defArgs s_p_playX) (defBody s_p_playX) (defScope s_p_playX) .none kV12 dc12 pm12 an12 cd12 ct12), sl12⟩)
    (c12 : PySem.W.codeIn K cd12 "play" = true) (k12 : PySem.W.keepIn K (.ref f12) = true)
    (a13 : PySem.W.nsIn K mainGlobals "_law_mix" = some (some (.ref f13)))
    (l13 : K.lookup f13 = some ⟨oc13, od13, .func (PySem.W.fnOf "_law_mix" "_law_mix" (defArgs s_l_mix2) (defBody s_l_mix2) (defScope s_l_mix2) .none kV13 dc13 pm13 an13 cd13 ct13), sl13⟩)
    (c13 : PySem.W.codeIn K cd13 "_law_mix" = true) (k13 : PySem.W.keepIn K (.ref f13) = true)
    (a14 : PySem.W.nsIn K mainGlobals "_law_numbers" = some (some (.ref f14)))
    (l14 : K.lookup f14 = some ⟨oc14, od14, .func (PySem.W.fnOf "_law_numbers" "_law_numbers" (defArgs s_l_numbers) (defBody s_l_numbers) (defScope s_l_numbers) .none kV14 dc14 pm14 an14 cd14 ct14), sl14⟩)
    (c14 : PySem.W.codeIn K cd14 "_law_numbers" = true) (k14 : PySem.W.keepIn K (.ref f14) = true)
    (a15 : PySem.W.nsIn K mainGlobals "_law_draws" = some (some (.ref f15)))
    (l15 : K.lookup f15 = some ⟨oc15, od15, .func (PySem.W.fnOf "_law_draws" "_law_draws" (defArgs s_l_draws) (defBody s_l_draws) (defScope s_l_draws) .none kV15 dc15 pm15 an15 cd15 ct15), sl15⟩)
    (c15 : PySem.W.codeIn K cd15 "_law_draws" = true) (k15 : PySem.W.keepIn K (.ref f15) = true)
    (a16 : PySem.W.nsIn K mainGlobals "_law_take" = some (some (.ref f16)))
    (l16 : K.lookup f16 = some ⟨oc16, od16, .func (PySem.W.fnOf "_law_take" "_law_take" (defArgs s_l_take) (defBody s_l_take) (defScope s_l_take) .none kV16 dc16 pm16 an16 cd16 ct16), sl16⟩)
    (c16 : PySem.W.codeIn K cd16 "_law_take" = true) (k16 : PySem.W.keepIn K (.ref f16) = true)
    (a17 : PySem.W.nsIn K mainGlobals "_law_thinned" = some (some (.ref f17)))
    (l17 : K.lookup f17 = some ⟨oc17, od17, .func (PySem.W.fnOf "_law_thinned" "_law_thinned" (defArgs s_l_thinned2) (defBody s_l_thinned2) (defScope s_l_thinned2) .none kV17 dc17 pm17 an17 cd17 ct17), sl17⟩)
    (c17 : PySem.W.codeIn K cd17 "_law_thinned" = true) (k17 : PySem.W.keepIn K (.ref f17) = true)
    (a18 : PySem.W.nsIn K mainGlobals "_law_fabric" = some (some (.ref f18)))
    (l18 : K.lookup f18 = some ⟨oc18, od18, .func (PySem.W.fnOf "_law_fabric" "_law_fabric" (defArgs s_l_fabric2) (defBody s_l_fabric2) (defScope s_l_fabric2) .none kV18 dc18 pm18 an18 cd18 ct18), sl18⟩)
    (c18 : PySem.W.codeIn K cd18 "_law_fabric" = true) (k18 : PySem.W.keepIn K (.ref f18) = true)
    (a19 : PySem.W.nsIn K mainGlobals "_law_home" = some (some (.ref f19)))
    (l19 : K.lookup f19 = some ⟨oc19, od19, .func (PySem.W.fnOf "_law_home" "_law_home" (defArgs s_l_home) (defBody s_l_home) (defScope s_l_home) .none kV19 dc19 pm19 an19 cd19 ct19), sl19⟩)
    (c19 : PySem.W.codeIn K cd19 "_law_home" = true) (k19 : PySem.W.keepIn K (.ref f19) = true)
    (a20 : PySem.W.nsIn K mainGlobals "_law_options" = some (some (.ref f20)))
    (l20 : K.lookup f20 = some ⟨oc20, od20, .func (PySem.W.fnOf "_law_options" "_law_options" (defArgs s_l_options) (defBody s_l_options) (defScope s_l_options) .none kV20 dc20 pm20 an20 cd20 ct20), sl20⟩)
    (c20 : PySem.W.codeIn K cd20 "_law_options" = true) (k20 : PySem.W.keepIn K (.ref f20) = true)
    (a21 : PySem.W.nsIn K mainGlobals "_law_allowed" = some (some (.ref f21)))
    (l21 : K.lookup f21 = some ⟨oc21, od21, .func (PySem.W.fnOf "_law_allowed" "_law_allowed" (defArgs s_l_allowed) (defBody s_l_allowed) (defScope s_l_allowed) .none kV21 dc21 pm21 an21 cd21 ct21), sl21⟩)
    (c21 : PySem.W.codeIn K cd21 "_law_allowed" = true) (k21 : PySem.W.keepIn K (.ref f21) = true)
    (a22 : PySem.W.nsIn K mainGlobals "_law_behind" = some (some (.ref f22)))
    (l22 : K.lookup f22 = some ⟨oc22, od22, .func (PySem.W.fnOf "_law_behind" "_law_behind" (defArgs s_l_behind) (defBody s_l_behind) (defScope s_l_behind) .none kV22 dc22 pm22 an22 cd22 ct22), sl22⟩)
    (c22 : PySem.W.codeIn K cd22 "_law_behind" = true) (k22 : PySem.W.keepIn K (.ref f22) = true)
    (a23 : PySem.W.nsIn K mainGlobals "_law_steps" = some (some (.ref f23)))
    (l23 : K.lookup f23 = some ⟨oc23, od23, .func (PySem.W.fnOf "_law_steps" "_law_steps" (defArgs s_l_steps) (defBody s_l_steps) (defScope s_l_steps) .none kV23 dc23 pm23 an23 cd23 ct23), sl23⟩)
    (c23 : PySem.W.codeIn K cd23 "_law_steps" = true) (k23 : PySem.W.keepIn K (.ref f23) = true)
    (a24 : PySem.W.nsIn K mainGlobals "_law_any_step" = some (some (.ref f24)))
    (l24 : K.lookup f24 = some ⟨oc24, od24, .func (PySem.W.fnOf "_law_any_step" "_law_any_step" (defArgs s_l_any_step) (defBody s_l_any_step) (defScope s_l_any_step) .none kV24 dc24 pm24 an24 cd24 ct24), sl24⟩)
    (c24 : PySem.W.codeIn K cd24 "_law_any_step" = true) (k24 : PySem.W.keepIn K (.ref f24) = true)
    (a25 : PySem.W.nsIn K mainGlobals "_law_refused" = some (some (.ref f25)))
    (l25 : K.lookup f25 = some ⟨oc25, od25, .func (PySem.W.fnOf "_law_refused" "_law_refused" (defArgs s_l_refused) (defBody s_l_refused) (defScope s_l_refused) .none kV25 dc25 pm25 an25 cd25 ct25), sl25⟩)
    (c25 : PySem.W.codeIn K cd25 "_law_refused" = true) (k25 : PySem.W.keepIn K (.ref f25) = true)
    (a26 : PySem.W.nsIn K mainGlobals "_law_seen" = some (some (.ref f26)))
    (l26 : K.lookup f26 = some ⟨oc26, od26, .func (PySem.W.fnOf "_law_seen" "_law_seen" (defArgs s_l_seen) (defBody s_l_seen) (defScope s_l_seen) .none kV26 dc26 pm26 an26 cd26 ct26), sl26⟩)
    (c26 : PySem.W.codeIn K cd26 "_law_seen" = true) (k26 : PySem.W.keepIn K (.ref f26) = true)
    (a27 : PySem.W.nsIn K mainGlobals "law" = some (some (.ref f27)))
    (l27 : K.lookup f27 = some ⟨oc27, od27, .func (PySem.W.fnOf "law" "law" (defArgs s_law30) (defBody s_law30) (defScope s_law30) .none kV27 dc27 pm27 an27 cd27 ct27), sl27⟩)
    (c27 : PySem.W.codeIn K cd27 "law" = true) (k27 : PySem.W.keepIn K (.ref f27) = true)
    {xaNotPossible sfNotPossible sccNotPossible scdNotPossible : Addr} {socNotPossible : Value} {sodNotPossible sanNotPossible : Option Addr} {skkNotPossible sdcNotPossible spmNotPossible sctNotPossible : Value} {sosNotPossible : Array (Option Value)}
    (xnNotPossible : PySem.W.nsIn K mainGlobals "NotPossible" = some (some (.ref xaNotPossible)))
    (siNotPossible : PySem.W.findIn K (.ref xaNotPossible) "__init__" = some (some (.ref sfNotPossible)))
    (slNotPossible : K.lookup sfNotPossible = some ⟨socNotPossible, sodNotPossible, .func (PySem.W.fnX "__init__" "NotPossible.__init__" (defArgs s_x_NotPossible) (defBody s_x_NotPossible) (defScope s_x_NotPossible) [("__class__", sccNotPossible)] .none skkNotPossible sdcNotPossible spmNotPossible sanNotPossible (.ref scdNotPossible) sctNotPossible), sosNotPossible⟩)
    (scNotPossible : PySem.W.codeIn K (.ref scdNotPossible) "NotPossible.__init__" = true)
    {svaNotPossible : Value} {svbNotPossible : Option Addr} {svdNotPossible : Array Value} {sveNotPossible : Array (Option Value)} (smNotPossible : K.lookup scdNotPossible = some ⟨svaNotPossible, svbNotPossible, .fields svdNotPossible, sveNotPossible⟩)
    {sflNotPossible : Str} {stfNotPossible : Tok} (svNotPossible : svdNotPossible[2]? = some (.str sflNotPossible stfNotPossible))
    {sxaNotPossible : Value} {sxbNotPossible : Option Addr} {sxdNotPossible : Array (Option Value)} (sxNotPossible : K.lookup sccNotPossible = some ⟨sxaNotPossible, sxbNotPossible, .cell (some (.ref xaNotPossible)), sxdNotPossible⟩)
    (oeNotPossible : oexB K xaNotPossible = true)
    (saNotPossible : PySem.W.findIn K (.ref xaNotPossible) "__setattr__" = some (some (.builtin "object.__setattr__")))
    (xbNotPossible : PySem.W.subIn K (.ref xaNotPossible) (.type "BaseException") = some true) (xtNotPossible : PySem.W.typeIn K (.ref xaNotPossible) = some (.type "type")) (xkNotPossible : PySem.W.keepIn K (.ref xaNotPossible) = true)
    (suNotPossible : PySem.W.ks_superIn K xaNotPossible xaNotPossible "__init__" = some (some (.builtin "ValueError.__init__")))
    (syNotPossible : PySem.W.nsIn K cStatics "thirdparty.any" = some none) (szNotPossible : PySem.W.subIn K (.ref xaNotPossible) (.type "ValueError") = some true) (srNotPossible : PySem.W.mroIn K xaNotPossible (.ref xaNotPossible) = some true)
    (stNotPossible : PySem.W.typeIn K (.ref sfNotPossible) = some (.type "function")) (snNotPossible : PySem.W.findIn K (.ref xaNotPossible) "number" = some none)
    (xiNotPossible : PySem.W.isClsIn K xaNotPossible = true) (xsNotPossible : PySem.W.subIn K (.ref xaNotPossible) (.ref xaNotPossible) = some true)
    (sgaNotPossible : PySem.W.findIn K (.ref xaNotPossible) "__getattribute__" = some (some (.builtin "BaseException.__getattribute__"))) (sgbNotPossible : PySem.W.findIn K (.ref xaNotPossible) "__getattr__" = some none) (shdNotPossible : PySem.W.hasDictIn K xaNotPossible = true)
    (spNotPossible : ((l.prog.main.file : Str) == sflNotPossible) = true) (sqNotPossible : (l.prog.main.scope.names.lookup ("super" : Str)).isSome = false)
    {xaFabricError : Addr} (xnFabricError : PySem.W.nsIn K mainGlobals "FabricError" = some (some (.ref xaFabricError))) (xeFabricError : PySem.W.excIn K xaFabricError [.type "ValueError", .type "Exception", .type "BaseException", .type "object"] "ValueError.__new__" = true) (xkFabricError : PySem.W.keepIn K (.ref xaFabricError) = true)
    (xbFabricError : PySem.W.subIn K (.ref xaFabricError) (.type "BaseException") = some true) (xtFabricError : PySem.W.typeIn K (.ref xaFabricError) = some (.type "type")) (xiFabricError : PySem.W.isClsIn K xaFabricError = true) (xsFabricError : PySem.W.subIn K (.ref xaFabricError) (.ref xaFabricError) = some true)
    {xaNotAllowed : Addr} (xnNotAllowed : PySem.W.nsIn K mainGlobals "NotAllowed" = some (some (.ref xaNotAllowed))) (xeNotAllowed : PySem.W.excIn K xaNotAllowed [.type "ValueError", .type "Exception", .type "BaseException", .type "object"] "ValueError.__new__" = true) (xkNotAllowed : PySem.W.keepIn K (.ref xaNotAllowed) = true)
    (xbNotAllowed : PySem.W.subIn K (.ref xaNotAllowed) (.type "BaseException") = some true) (xtNotAllowed : PySem.W.typeIn K (.ref xaNotAllowed) = some (.type "type")) (xiNotAllowed : PySem.W.isClsIn K xaNotAllowed = true) (xsNotAllowed : PySem.W.subIn K (.ref xaNotAllowed) (.ref xaNotAllowed) = some true)
    (z_abs : PySem.W.nsIn K mainGlobals "abs" = some none)
    (z_int : PySem.W.nsIn K mainGlobals "int" = some none)
    (z_isinstance : PySem.W.nsIn K mainGlobals "isinstance" = some none)
    (z_len : PySem.W.nsIn K mainGlobals "len" = some none)
    (z_list : PySem.W.nsIn K mainGlobals "list" = some none)
    (z_range : PySem.W.nsIn K mainGlobals "range" = some none)
    (z_sorted : PySem.W.nsIn K mainGlobals "sorted" = some none)
    (z_super : PySem.W.nsIn K mainGlobals "super" = some none)
    (z_tuple : PySem.W.nsIn K mainGlobals "tuple" = some none)
    (iiNotAllowedFabricError : PySem.W.subIn K (.ref xaNotAllowed) (.ref xaFabricError) = some true)
    (iiNotPossibleFabricError : PySem.W.subIn K (.ref xaNotPossible) (.ref xaFabricError) = some true)
    (qaNotAllowed : PySem.W.findIn K (.ref xaNotAllowed) "__getattribute__" = some (some (.builtin "BaseException.__getattribute__"))) (qbNotAllowed : PySem.W.findIn K (.ref xaNotAllowed) "__getattr__" = some none) (qdNotAllowed : PySem.W.hasDictIn K xaNotAllowed = true)
    (qeNotAllowed : PySem.W.findIn K (.ref xaNotAllowed) "__class__" = some (some (.builtin "object.__class__"))) (qfNotAllowed : PySem.W.specialIn K (.builtin "object.__class__") "__get__" = some (some (.builtin "getset_descriptor.__get__"))) (qgNotAllowed : PySem.W.takesIn K (.builtin "object.__class__") = some true) (qhNotAllowed : PySem.W.mroIn K xaNotAllowed (.type "object") = some true)
    (qaNotPossible : PySem.W.findIn K (.ref xaNotPossible) "__getattribute__" = some (some (.builtin "BaseException.__getattribute__"))) (qbNotPossible : PySem.W.findIn K (.ref xaNotPossible) "__getattr__" = some none) (qdNotPossible : PySem.W.hasDictIn K xaNotPossible = true)
    (qeNotPossible : PySem.W.findIn K (.ref xaNotPossible) "__class__" = some (some (.builtin "object.__class__"))) (qfNotPossible : PySem.W.specialIn K (.builtin "object.__class__") "__get__" = some (some (.builtin "getset_descriptor.__get__"))) (qgNotPossible : PySem.W.takesIn K (.builtin "object.__class__") = some true) (qhNotPossible : PySem.W.mroIn K xaNotPossible (.type "object") = some true)
    : ∃ fd : FuncData, (∀ (s : Shared) (v : Value), BindsTo s fd ⟨[v], []⟩ [("_law_script", v)]) ∧ ∀ base : Heap, K.In base → base.Ns mainGlobals mg → FnOk l.prog w K mg base CX0 6 fa fd ["_law_script"] (WL.spLaw K) := by
  have e := hfa.symm.trans (PySem.W.mg_of X G a27)
  cases e
  have F0 := fun_mk (st := s_p_options) l0 c0 k0
  have b0 := F0.binds (ps := ["fabric", "c", "d"]) fun _ _ _ _ _ _ us hl => match us, hl with | [_, _, _], _ => rfl
  have F1 := fun_mk (st := s_p_is_home) l1 c1 k1
  have b1 := F1.binds (ps := ["fabric", "c", "d"]) fun _ _ _ _ _ _ us hl => match us, hl with | [_, _, _], _ => rfl
  have F2 := fun_mk (st := s_p_empty_state) l2 c2 k2
  have b2 := F2.binds (ps := ["fabric"]) fun _ _ _ _ _ _ us hl => match us, hl with | [_], _ => rfl
  have F3 := fun_mk (st := s_p_first_of) l3 c3 k3
  have b3 := F3.binds (ps := ["state", "c"]) fun _ _ _ _ _ _ us hl => match us, hl with | [_, _], _ => rfl
  have F4 := fun_mk (st := s_p_is_full) l4 c4 k4
  have b4 := F4.binds (ps := ["fabric", "state", "c"]) fun _ _ _ _ _ _ us hl => match us, hl with | [_, _, _], _ => rfl
  have F5 := fun_mk (st := s_p_packets_in) l5 c5 k5
  have b5 := F5.binds (ps := ["state"]) fun _ _ _ _ _ _ us hl => match us, hl with | [_], _ => rfl
  have F6 := fun_mk (st := s_p_next_options) l6 c6 k6
  have b6 := F6.binds (ps := ["fabric", "state", "c"]) fun _ _ _ _ _ _ us hl => match us, hl with | [_, _, _], _ => rfl
  have F7 := fun_mk (st := s_p_is_possible) l7 c7 k7
  have b7 := F7.binds (ps := ["fabric", "state", "step"]) fun _ _ _ _ _ _ us hl => match us, hl with | [_, _, _], _ => rfl
  have F8 := fun_mk (st := s_p_possible_steps) l8 c8 k8
  have b8 := F8.binds (ps := ["fabric", "state"]) fun _ _ _ _ _ _ us hl => match us, hl with | [_, _], _ => rfl
  have F9 := fun_mk (st := s_p_changed) l9 c9 k9
  have b9 := F9.binds (ps := ["queues", "c", "queue"]) fun _ _ _ _ _ _ us hl => match us, hl with | [_, _, _], _ => rfl
  have F10 := fun_mk (st := s_p_moved) l10 c10 k10
  have b10 := F10.binds (ps := ["state", "step"]) fun _ _ _ _ _ _ us hl => match us, hl with | [_, _], _ => rfl
  have F11 := fun_mk (st := s_p_afterX) l11 c11 k11
  have b11 := F11.binds (ps := ["fabric", "state", "step"]) fun _ _ _ _ _ _ us hl => match us, hl with | [_, _, _], _ => rfl
  have F12 := fun_mk (st := s_p_playX) l12 c12 k12
  have b12 := F12.binds (ps := ["fabric", "state", "script"]) fun _ _ _ _ _ _ us hl => match us, hl with | [_, _, _], _ => rfl
  have F13 := fun_mk (st := s_l_mix2) l13 c13 k13
  have b13 := F13.binds (ps := ["_law_first", "_law_second"]) fun _ _ _ _ _ _ us hl => match us, hl with | [_, _], _ => rfl
  have F14 := fun_mk (st := s_l_numbers) l14 c14 k14
  have b14 := F14.binds (ps := ["_law_script", "_law_count"]) fun _ _ _ _ _ _ us hl => match us, hl with | [_, _], _ => rfl
  have F15 := fun_mk (st := s_l_draws) l15 c15 k15
  have b15 := F15.binds (ps := ["_law_script", "_law_count"]) fun _ _ _ _ _ _ us hl => match us, hl with | [_, _], _ => rfl
  have F16 := fun_mk (st := s_l_take) l16 c16 k16
  have b16 := F16.binds (ps := ["_law_draws_here", "_law_bound"]) fun _ _ _ _ _ _ us hl => match us, hl with | [_, _], _ => rfl
  have F17 := fun_mk (st := s_l_thinned2) l17 c17 k17
  have b17 := F17.binds (ps := ["_law_channels", "_law_n", "_law_table"]) fun _ _ _ _ _ _ us hl => match us, hl with | [_, _, _], _ => rfl
  have F18 := fun_mk (st := s_l_fabric2) l18 c18 k18
  have b18 := F18.binds (ps := ["_law_draws_here", "_law_most", "_law_room"]) fun _ _ _ _ _ _ us hl => match us, hl with | [_, _, _], _ => rfl
  have F19 := fun_mk (st := s_l_home) l19 c19 k19
  have b19 := F19.binds (ps := ["_law_fabric_here", "_law_c", "_law_d"]) fun _ _ _ _ _ _ us hl => match us, hl with | [_, _, _], _ => rfl
  have F20 := fun_mk (st := s_l_options) l20 c20 k20
  have b20 := F20.binds (ps := ["_law_fabric_here", "_law_c", "_law_d"]) fun _ _ _ _ _ _ us hl => match us, hl with | [_, _, _], _ => rfl
  have F21 := fun_mk (st := s_l_allowed) l21 c21 k21
  have b21 := F21.binds (ps := ["_law_fabric_here", "_law_state_here", "_law_step"]) fun _ _ _ _ _ _ us hl => match us, hl with | [_, _, _], _ => rfl
  have F22 := fun_mk (st := s_l_behind) l22 c22 k22
  have b22 := F22.binds (ps := ["_law_state_here", "_law_step"]) fun _ _ _ _ _ _ us hl => match us, hl with | [_, _], _ => rfl
  have F23 := fun_mk (st := s_l_steps) l23 c23 k23
  have b23 := F23.binds (ps := ["_law_fabric_here", "_law_state_here"]) fun _ _ _ _ _ _ us hl => match us, hl with | [_, _], _ => rfl
  have F24 := fun_mk (st := s_l_any_step) l24 c24 k24
  have b24 := F24.binds (ps := ["_law_draws_here", "_law_fabric_here"]) fun _ _ _ _ _ _ us hl => match us, hl with | [_, _], _ => rfl
  have F25 := fun_mk (st := s_l_refused) l25 c25 k25
  have b25 := F25.binds (ps := ["_law_fabric_here", "_law_state_here", "_law_step"]) fun _ _ _ _ _ _ us hl => match us, hl with | [_, _, _], _ => rfl
  have F26 := fun_mk (st := s_l_seen) l26 c26 k26
  have b26 := F26.binds (ps := ["_law_fabric_here", "_law_state_here"]) fun _ _ _ _ _ _ us hl => match us, hl with | [_, _], _ => rfl
  have F27 := fun_mk (st := s_law30) l27 c27 k27
  have b27 := F27.binds (ps := ["_law_script"]) fun _ _ _ _ _ _ us hl => match us, hl with | [_], _ => rfl
  have FSNotPossible : FunS K "__init__" "NotPossible.__init__" s_x_NotPossible sfNotPossible _ xaNotPossible sccNotPossible scdNotPossible sflNotPossible := ⟨⟨_, _, _, _, _, _, _, _, rfl, slNotPossible, scNotPossible⟩, ⟨_, _, _, _, _, smNotPossible, svNotPossible⟩, ⟨_, _, _, sxNotPossible⟩⟩
  have bSNotPossible := FSNotPossible.binds (ps := ["self", "number"]) fun _ _ _ _ _ _ us hl => match us, hl with | [_, _], _ => rfl
  let T : Tx l.prog K mg := ⟨_, _, F0, b0, PySem.W.mg_of X G a0, _, _, F1, b1, PySem.W.mg_of X G a1, _, _, F2, b2, PySem.W.mg_of X G a2, _, _, F3, b3, PySem.W.mg_of X G a3, _, _, F4, b4, PySem.W.mg_of X G a4, _, _, F5, b5, PySem.W.mg_of X G a5, _, _, F6, b6, PySem.W.mg_of X G a6, _, _, F7, b7, PySem.W.mg_of X G a7, _, _, F8, b8, PySem.W.mg_of X G a8, _, _, F9, b9, PySem.W.mg_of X G a9, _, _, F10, b10, PySem.W.mg_of X G a10, _, _, F11, b11, PySem.W.mg_of X G a11, _, _, F12, b12, PySem.W.mg_of X G a12, _, _, F13, b13, PySem.W.mg_of X G a13, _, _, F14, b14, PySem.W.mg_of X G a14, _, _, F15, b15, PySem.W.mg_of X G a15, _, _, F16, b16, PySem.W.mg_of X G a16, _, _, F17, b17, PySem.W.mg_of X G a17, _, _, F18, b18, PySem.W.mg_of X G a18, _, _, F19, b19, PySem.W.mg_of X G a19, _, _, F20, b20, PySem.W.mg_of X G a20, _, _, F21, b21, PySem.W.mg_of X G a21, _, _, F22, b22, PySem.W.mg_of X G a22, _, _, F23, b23, PySem.W.mg_of X G a23, _, _, F24, b24, PySem.W.mg_of X G a24, _, _, F25, b25, PySem.W.mg_of X G a25, _, _, F26, b26, PySem.W.mg_of X G a26, _, _, F27, b27, PySem.W.mg_of X G a27, _, sfNotPossible, _, sccNotPossible, scdNotPossible, _, FSNotPossible, bSNotPossible, ⟨⟨oexB_ok oeNotPossible, saNotPossible, xbNotPossible, xtNotPossible, xkNotPossible⟩, suNotPossible, syNotPossible, szNotPossible, srNotPossible⟩, siNotPossible, stNotPossible, snNotPossible, PySem.W.mg_of X G xnNotPossible, exm_self xbNotPossible xiNotPossible xtNotPossible xsNotPossible, ⟨sgaNotPossible, sgbNotPossible, xbNotPossible, shdNotPossible⟩, ⟨spNotPossible, sqNotPossible⟩, _, ⟨PySem.W.mg_of X G xnFabricError, xeFabricError, xkFabricError, xbFabricError, xtFabricError, exm_self xbFabricError xiFabricError xtFabricError xsFabricError⟩, _, ⟨PySem.W.mg_of X G xnNotAllowed, xeNotAllowed, xkNotAllowed, xbNotAllowed, xtNotAllowed, exm_self xbNotAllowed xiNotAllowed xtNotAllowed xsNotAllowed⟩, PySem.W.mg_none_of X G z_abs, PySem.W.mg_none_of X G z_int, PySem.W.mg_none_of X G z_isinstance, PySem.W.mg_none_of X G z_len, PySem.W.mg_none_of X G z_list, PySem.W.mg_none_of X G z_range, PySem.W.mg_none_of X G z_sorted, PySem.W.mg_none_of X G z_super, PySem.W.mg_none_of X G z_tuple, kit_of iiNotAllowedFabricError xiFabricError xtFabricError, kit_of iiNotPossibleFabricError xiFabricError xtFabricError, ⟨qaNotAllowed, qbNotAllowed, xbNotAllowed, qdNotAllowed, qeNotAllowed, qfNotAllowed, qgNotAllowed, qhNotAllowed⟩, ⟨qaNotPossible, qbNotPossible, xbNotPossible, qdNotPossible, qeNotPossible, qfNotPossible, qgNotPossible, qhNotPossible⟩⟩
  exact ⟨_, fun s v => .of_eq rfl, fun base _ _ => ok_law30 T hn hm_law30⟩
end Cf
open PySem PySem.W PyProof.Rows
set_option maxHeartbeats 0 in
theorem PySem.Challenge.cw_calmfabric_k30_steps_holds : PySem.Challenge.rw_calmfabric_k30_steps.Holds := by
  w_on; o_law; k_head; (case hw => w_witness2)
  k_fill
  refine L2.walk_ofK (l := PySem.Challenge.rw_calmfabric_k30_steps) (n := 63) (k := 6) (x := "_law_script") (CX := L2.CX0) (sp := WL.spLaw) rfl (by decide) rfl ⟨rfl, by decide, by decide⟩ (fun w h Y => PySem.W.kIn_of Y) ?F (fun K H a ns hl hO hS => WL.law_start K H a ns hS) (fun _ _ _ _ h => h)
  case F =>
    intro w mg fa h KX G hmg
    refine' Cf.all_mk KX G hmg (a0 := ?a0) (l0 := ?l0) (c0 := ?c0) (k0 := ?k0) (a1 := ?a1) (l1 := ?l1) (c1 := ?c1) (k1 := ?k1) (a2 := ?a2) (l2 := ?l2) (c2 := ?c2) (k2 := ?k2) (a3 := ?a3) (l3 := ?l3) (c3 := ?c3) (k3 := ?k3) (a4 := ?a4) (l4 := ?l4) (c4 := ?c4) (k4 := ?k4) (a5 := ?a5) (l5 := ?l5) (c5 := ?c5) (k5 := ?k5) (a6 := ?a6) (l6 := ?l6) (c6 := ?c6) (k6 := ?k6) (a7 := ?a7) (l7 := ?l7) (c7 := ?c7) (k7 := ?k7) (a8 := ?a8) (l8 := ?l8) (c8 := ?c8) (k8 := ?k8) (a9 := ?a9) (l9 := ?l9) (c9 := ?c9) (k9 := ?k9) (a10 := ?a10) (l10 := ?l10) (c10 := ?c10) (k10 := ?k10) (a11 := ?a11) (l11 := ?l11) (c11 := ?c11) (k11 := ?k11) (a12 := ?a12) (l12 := ?l12) (c12 := ?c12) (k12 := ?k12) (a13 := ?a13) (l13 := ?l13) (c13 := ?c13) (k13 := ?k13) (a14 := ?a14) (l14 := ?l14) (c14 := ?c14) (k14 := ?k14) (a15 := ?a15) (l15 := ?l15) (c15 := ?c15) (k15 := ?k15) (a16 := ?a16) (l16 := ?l16) (c16 := ?c16) (k16 := ?k16) (a17 := ?a17) (l17 := ?l17) (c17 := ?c17) (k17 := ?k17) (a18 := ?a18) (l18 := ?l18) (c18 := ?c18) (k18 := ?k18) (a19 := ?a19) (l19 := ?l19) (c19 := ?c19) (k19 := ?k19) (a20 := ?a20) (l20 := ?l20) (c20 := ?c20) (k20 := ?k20) (a21 := ?a21) (l21 := ?l21) (c21 := ?c21) (k21 := ?k21) (a22 := ?a22) (l22 := ?l22) (c22 := ?c22) (k22 := ?k22) (a23 := ?a23) (l23 := ?l23) (c23 := ?c23) (k23 := ?k23) (a24 := ?a24) (l24 := ?l24) (c24 := ?c24) (k24 := ?k24) (a25 := ?a25) (l25 := ?l25) (c25 := ?c25) (k25 := ?k25) (a26 := ?a26) (l26 := ?l26) (c26 := ?c26) (k26 := ?k26) (a27 := ?a27) (l27 := ?l27) (c27 := ?c27) (k27 := ?k27) (z_abs := ?z_abs) (z_int := ?z_int) (z_isinstance := ?z_isinstance) (z_len := ?z_len) (z_list := ?z_list) (z_range := ?z_range) (z_sorted := ?z_sorted) (z_super := ?z_super) (z_tuple := ?z_tuple) (xnNotPossible := ?xnNotPossible) (siNotPossible := ?siNotPossible) (slNotPossible := ?slNotPossible) (scNotPossible := ?scNotPossible) (smNotPossible := ?smNotPossible) (svNotPossible := ?svNotPossible) (sxNotPossible := ?sxNotPossible) (oeNotPossible := ?oeNotPossible) (saNotPossible := ?saNotPossible) (xbNotPossible := ?xbNotPossible) (xtNotPossible := ?xtNotPossible) (xkNotPossible := ?xkNotPossible) (suNotPossible := ?suNotPossible) (syNotPossible := ?syNotPossible) (szNotPossible := ?szNotPossible) (srNotPossible := ?srNotPossible) (stNotPossible := ?stNotPossible) (snNotPossible := ?snNotPossible) (xiNotPossible := ?xiNotPossible) (xsNotPossible := ?xsNotPossible) (sgaNotPossible := ?sgaNotPossible) (sgbNotPossible := ?sgbNotPossible) (shdNotPossible := ?shdNotPossible) (spNotPossible := ?spNotPossible) (sqNotPossible := ?sqNotPossible) (xnFabricError := ?xnFabricError) (xeFabricError := ?xeFabricError) (xkFabricError := ?xkFabricError) (xbFabricError := ?xbFabricError) (xtFabricError := ?xtFabricError) (xiFabricError := ?xiFabricError) (xsFabricError := ?xsFabricError) (xnNotAllowed := ?xnNotAllowed) (xeNotAllowed := ?xeNotAllowed) (xkNotAllowed := ?xkNotAllowed) (xbNotAllowed := ?xbNotAllowed) (xtNotAllowed := ?xtNotAllowed) (xiNotAllowed := ?xiNotAllowed) (xsNotAllowed := ?xsNotAllowed) (iiNotAllowedFabricError := ?iiNotAllowedFabricError) (iiNotPossibleFabricError := ?iiNotPossibleFabricError) (qaNotAllowed := ?qaNotAllowed) (qbNotAllowed := ?qbNotAllowed) (qdNotAllowed := ?qdNotAllowed) (qeNotAllowed := ?qeNotAllowed) (qfNotAllowed := ?qfNotAllowed) (qgNotAllowed := ?qgNotAllowed) (qhNotAllowed := ?qhNotAllowed) (qaNotPossible := ?qaNotPossible) (qbNotPossible := ?qbNotPossible) (qdNotPossible := ?qdNotPossible) (qeNotPossible := ?qeNotPossible) (qfNotPossible := ?qfNotPossible) (qgNotPossible := ?qgNotPossible) (qhNotPossible := ?qhNotPossible)
    (case xnNotPossible => k_is)
    (case siNotPossible => k_is)
    (case slNotPossible => k_is)
    (case smNotPossible => k_is)
    (case svNotPossible => first | rfl | kernel_rfl | decide +kernel)
    (case oeNotPossible => first | rfl | kernel_rfl | decide +kernel)
    (case spNotPossible => first | rfl | kernel_rfl | decide +kernel)
    (case sqNotPossible => first | rfl | kernel_rfl | decide +kernel)
    (case sxNotPossible => k_is)
    (case suNotPossible => first | ks_is | kernel_rfl)
    (case xnFabricError => k_is)
    (case xeFabricError => k_exc)
    (case xnNotAllowed => k_is)
    (case xeNotAllowed => k_exc)
    any_goals k_is
    all_goals rfl
