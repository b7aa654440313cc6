import PyProof.Rows.All
import HandS.ForMost
import HandS.Exc
import HandS.Deep
import HandS.Flow
import HandS.TupAny
import HandS.Rev
import HandS.Zip
import KE.SortData
import KE.DataMinMax
import HandS.Wide
import HandS.More
import HandS.Dict
import HandS.Ends
import KE.GoesMore
import KE.GoesEnum
import HandS.Iter
import HandS.Conv
import KE.DataIsa
import HandS.Style
import HandS.WordsDict
import HandS.TupMul
import HandS.Call
import HandS.SetFor
import KE.KDictDisplayH
import HandS.TupLen
import PyProof.SumWalk
import PyProof.ListOps
import KE.DataAny
import HandS.WordsExc
import HandS.TryOnly
import HandS.TupSets
import HandS.ExcIs
import HandS.Strs
import KE.KIndexOf
import HandS.AnyAll
import HandS.GenList
import HandS.Comp
import HandS.EndTab
import HandS.EndOwn
import HandS.DictComp
import HandS.Set
import KE.KTupSum
import PySem.Challenge.RW_calmfabric_k25_tables_of_known_forms
set_option Elab.async false
set_option linter.all false
set_option maxRecDepth 100000
/-! WL: readings over plain data. Part 1: transformers, data, environments. -/
namespace WL
open PySem PySem.Spec PyProof.Rows L2
/-! ### what a piece of code asks, said of plain data -/
inductive Xn where
  | plain (c : Nat)
  | num (c : Nat) (n : Int)
abbrev Wp (α : Type) := (α → Prop) → (Xn → Prop) → Prop
section
variable {α β γ : Type}
def ret (a : α) : Wp α := fun P _ => P a
def bnd (m : Wp α) (k : α → Wp β) : Wp β := fun P X => m (fun a => k a P X) X
def thr (x : Xn) : Wp α := fun _ X => X x
def grd (c : Prop) (m : Wp α) : Wp α := fun P X => c ∧ m P X
def opt (o : Option α) : Wp α := fun P _ => ∃ a, o = some a ∧ P a
def cut : Wp α := fun _ _ => False
/-- any value with p -/
def anyW (p : α → Prop) : Wp α := fun P _ => ∀ a, p a → P a
def mapW (f : α → β) (m : Wp α) : Wp β := fun P X => m (fun a => P (f a)) X
theorem ret_bnd (a : α) (k : α → Wp β) : bnd (ret a) k = k a := rfl
theorem bnd_bnd (m : Wp α) (k : α → Wp β) (l : β → Wp γ) : bnd (bnd m k) l = bnd m fun a => bnd (k a) l := rfl
theorem mapW_ret (f : α → β) (a : α) : mapW f (ret a) = ret (f a) := rfl
theorem mapW_bnd (f : α → β) (m : Wp α) : mapW f m = bnd m fun a => ret (f a) := rfl
/-- if c: a else: b, the test a Bool -/
def sel (b : Bool) (m n : Wp α) : Wp α := if b = true then m else n
@[simp] theorem sel_true (m n : Wp α) : sel true m n = m := rfl
@[simp] theorem sel_false (m n : Wp α) : sel false m n = n := rfl
end
/-! ### data that stands for ever: through tuples alone -/
/-- it tells of a dict -/
def DictX (φ : Heap → Prop) : Prop := ∃ a, ∀ h : Heap, φ h → ∃ (o : Obj) (es : Array DictEntry) (ep : Nat), h.get? a = some o ∧ o.data = .dict es ep
noncomputable def still : HO → Bool
  | .tup _ => true
  | .frz _ (.tup _) => true
  | .ext φ => @decide (¬ DictX φ) (Classical.propDecidable _)
  | _ => false
theorem still_dict {φ : Heap → Prop} (h : DictX φ) : still (.ext φ) = false := @decide_eq_false _ (Classical.propDecidable _) fun z => z h
mutual
inductive Fz (K : PySem.W.Frag) (H : Hp) : V → PyData → Prop
  | non : Fz K H .non .none
  | bl (b : Bool) : Fz K H (.bl b) (.bool b)
  | int (i : Int) : Fz K H (.int i) (.int i)
  | str (x : Str) : Fz K H (.str x) (.str x)
  | tup {a : Addr} {xs : List V} {ds : List PyData} : SqT K H a xs → FzAll K H xs ds → Fz K H (.ref a) (.tuple ds)
inductive FzAll (K : PySem.W.Frag) (H : Hp) : List V → List PyData → Prop
  | nil : FzAll K H [] []
  | cons {v : V} {vs : List V} {d : PyData} {ds : List PyData} : Fz K H v d → FzAll K H vs ds → FzAll K H (v :: vs) (d :: ds)
end
def Stay (H H' : Hp) : Prop := ∀ a o, H a = some o → still o = true → H' a = some o
section
variable {K : PySem.W.Frag} {H H' : Hp} {v : V} {d : PyData} {vs : List V} {ds : List PyData}
theorem sqT_stay (st : Stay H H') {a : Addr} {xs : List V} (h : SqT K H a xs) : SqT K H' a xs := by
  rcases h with (h | ⟨o, h⟩) | h
  · exact .inl (.inl (st _ _ h rfl))
  · exact .inl (.inr ⟨o, st _ _ h rfl⟩)
  · exact .inr h
mutual
theorem Fz.stay (st : Stay H H') : ∀ {v : V} {d : PyData}, Fz K H v d → Fz K H' v d
  | _, _, .non => .non
  | _, _, .bl b => .bl b
  | _, _, .int i => .int i
  | _, _, .str x => .str x
  | _, _, .tup h1 h2 => .tup (sqT_stay st h1) (FzAll.stay st h2)
theorem FzAll.stay (st : Stay H H') : ∀ {vs : List V} {ds : List PyData}, FzAll K H vs ds → FzAll K H' vs ds
  | _, _, .nil => .nil
  | _, _, .cons h1 h2 => .cons (Fz.stay st h1) (FzAll.stay st h2)
end
mutual
theorem Fz.dp : ∀ {v : V} {d : PyData}, Fz K H v d → Dp K H v d
  | _, _, .non => .non
  | _, _, .bl b => .bl b
  | _, _, .int i => .int i
  | _, _, .str x => .str x
  | _, _, .tup h1 h2 => .tup h1 (FzAll.dp h2)
theorem FzAll.dp : ∀ {vs : List V} {ds : List PyData}, FzAll K H vs ds → DpAll K H vs ds
  | _, _, .nil => .nil
  | _, _, .cons h1 h2 => .cons (Fz.dp h1) (FzAll.dp h2)
end
theorem Fz.int_inv {n : Int} (h : Fz K H v (.int n)) : v = .int n := by cases h; rfl
theorem Fz.bl_inv {b : Bool} (h : Fz K H v (.bool b)) : v = .bl b := by cases h; rfl
theorem Fz.str_inv {x : Str} (h : Fz K H v (.str x)) : v = .str x := by cases h; rfl
theorem Fz.non_inv (h : Fz K H v .none) : v = .non := by cases h; rfl
theorem Fz.tup_inv (h : Fz K H v (.tuple ds)) : ∃ a xs, v = .ref a ∧ SqT K H a xs ∧ FzAll K H xs ds := by
  cases h with
  | tup h1 h2 => exact ⟨_, _, rfl, h1, h2⟩
theorem FzAll.length : ∀ {vs : List V} {ds : List PyData}, FzAll K H vs ds → vs.length = ds.length
  | _, _, .nil => rfl
  | _, _, .cons _ t => by
    rw [List.length_cons, List.length_cons, FzAll.length t]
theorem FzAll.get : ∀ {vs : List V} {ds : List PyData} {i : Nat} {d : PyData}, FzAll K H vs ds → ds[i]? = some d → ∃ v, vs[i]? = some v ∧ Fz K H v d
  | _, _, _, _, .nil, e => by simp at e
  | _, _, 0, _, .cons r _, e => by simp at e; subst e; exact ⟨_, rfl, r⟩
  | _, _, i + 1, d, .cons _ t, e => by
    obtain ⟨u, h1, h2⟩ := FzAll.get (i := i) (d := d) t (by simpa using e)
    exact ⟨u, by simpa using h1, h2⟩
theorem FzAll.getV : ∀ {vs : List V} {ds : List PyData} {i : Nat} {v : V}, FzAll K H vs ds → vs[i]? = some v → ∃ d, ds[i]? = some d ∧ Fz K H v d
  | _, _, _, _, .nil, e => by simp at e
  | _, _, 0, _, .cons r _, e => by simp at e; subst e; exact ⟨_, rfl, r⟩
  | _, _, i + 1, d, .cons _ t, e => by
    obtain ⟨u, h1, h2⟩ := FzAll.getV (i := i) (v := d) t (by simpa using e)
    exact ⟨u, by simpa using h1, h2⟩
theorem FzAll.append : ∀ {vs ws : List V} {ds es : List PyData}, FzAll K H vs ds → FzAll K H ws es → FzAll K H (vs ++ ws) (ds ++ es)
  | _, _, _, _, .nil, s => s
  | _, _, _, _, .cons r t, s => .cons r (FzAll.append t s)
theorem FzAll.take : ∀ {vs : List V} {ds : List PyData} (n : Nat), FzAll K H vs ds → FzAll K H (vs.take n) (ds.take n)
  | _, _, 0, _ => .nil
  | _, _, _ + 1, .nil => .nil
  | _, _, n + 1, .cons r t => .cons r (FzAll.take n t)
theorem FzAll.drop : ∀ {vs : List V} {ds : List PyData} (n : Nat), FzAll K H vs ds → FzAll K H (vs.drop n) (ds.drop n)
  | _, _, 0, h => h
  | _, _, _ + 1, .nil => .nil
  | _, _, n + 1, .cons _ t => FzAll.drop n t
theorem FzAll.set : ∀ {vs : List V} {ds : List PyData} {v : V} {d : PyData} (i : Nat), FzAll K H vs ds → Fz K H v d → FzAll K H (vs.set i v) (ds.set i d)
  | _, _, _, _, _, .nil, _ => .nil
  | _, _, _, _, 0, .cons _ t, z => .cons z t
  | _, _, _, _, i + 1, .cons r t, z => .cons r (FzAll.set i t z)
theorem FzAll.reverse : ∀ {vs : List V} {ds : List PyData}, FzAll K H vs ds → FzAll K H vs.reverse ds.reverse
  | _, _, .nil => .nil
  | _, _, .cons r t => by
    rw [List.reverse_cons, List.reverse_cons]
    exact FzAll.append (FzAll.reverse t) (.cons r .nil)
theorem FzAll.one (h : Fz K H v d) : FzAll K H [v] [d] := .cons h .nil
theorem FzAll.ints : ∀ {vs : List V} {ns : List Int}, FzAll K H vs (ns.map PyData.int) → vs = ns.map V.int
  | _, [], h => by cases h; rfl
  | _, n :: ns, h => by
    cases h with
    | cons h1 h2 => rw [h1.int_inv, FzAll.ints h2]; rfl
theorem FzAll.bools : ∀ {vs : List V} {ns : List Bool}, FzAll K H vs (ns.map PyData.bool) → vs = ns.map V.bl
  | _, [], h => by cases h; rfl
  | _, n :: ns, h => by
    cases h with
    | cons h1 h2 => rw [h1.bl_inv, FzAll.bools h2]; rfl
end
/-! ### how typed things are written as data -/
section
variable {α β γ δ ε ζ : Type}
def eI : Int → PyData := .int
def eB : Bool → PyData := .bool
def eS : Str → PyData := .str
def eU : Unit → PyData := fun _ => .none
def eO (e : α → PyData) : Option α → PyData
  | none => .none
  | some a => e a
def eT (e : α → PyData) : List α → PyData := fun xs => .tuple (xs.map e)
def e0 : Unit → PyData := fun _ => .tuple []
def e1 (a : α → PyData) : α → PyData := fun x => .tuple [a x]
def e2 (a : α → PyData) (b : β → PyData) : α × β → PyData := fun x => .tuple [a x.1, b x.2]
def e3 (a : α → PyData) (b : β → PyData) (c : γ → PyData) : α × β × γ → PyData := fun x => .tuple [a x.1, b x.2.1, c x.2.2]
def e4 (a : α → PyData) (b : β → PyData) (c : γ → PyData) (d : δ → PyData) : α × β × γ × δ → PyData := fun x => .tuple [a x.1, b x.2.1, c x.2.2.1, d x.2.2.2]
def e5 (a : α → PyData) (b : β → PyData) (c : γ → PyData) (d : δ → PyData) (e : ε → PyData) : α × β × γ × δ × ε → PyData := fun x => .tuple [a x.1, b x.2.1, c x.2.2.1, d x.2.2.2.1, e x.2.2.2.2]
def e6 (a : α → PyData) (b : β → PyData) (c : γ → PyData) (d : δ → PyData) (e : ε → PyData) (f : ζ → PyData) : α × β × γ × δ × ε × ζ → PyData := fun x => .tuple [a x.1, b x.2.1, c x.2.2.1, d x.2.2.2.1, e x.2.2.2.2.1, f x.2.2.2.2.2]
end
/-! ### what a slot holds -/
/-- a thing that a name holds, with the objects that are its own -/
structure Sl where
  own : Hp → V → List Addr → Prop
  ro : Bool
  dom : ∀ {H : Hp} {v : V} {fp : List Addr} {a : Addr}, own H v fp → a ∈ fp → ∃ o, H a = some o ∧ still o = false
  keep : ∀ {H H' : Hp} {v : V} {fp : List Addr}, own H v fp → (∀ a o, H a = some o → (a ∈ fp ∨ still o = true) → H' a = some o) → own H' v fp
/-- data -/
def fz (K : PySem.W.Frag) (d : PyData) : Sl where
  own := fun H v fp => fp = [] ∧ Fz K H v d
  ro := false
  dom := fun h ha => by rw [h.1] at ha; cases ha
  keep := fun h k => ⟨h.1, h.2.stay fun a o e z => k a o e (.inr z)⟩
/-- a list of data of its own -/
def lsOwn (K : PySem.W.Frag) (ds : List PyData) (H : Hp) (v : V) (fp : List Addr) : Prop := ∃ p vs, v = .ref p ∧ fp = [p] ∧ H p = some (.lst vs) ∧ FzAll K H vs ds
def ls (K : PySem.W.Frag) (ds : List PyData) : Sl where
  own := lsOwn K ds
  ro := false
  dom := fun h ha => by
    obtain ⟨p, vs, _, e, hp, _⟩ := h
    rw [e] at ha
    rw [List.mem_singleton.mp ha]
    exact ⟨_, hp, rfl⟩
  keep := fun h k => by
    obtain ⟨p, vs, e1, e2, hp, hz⟩ := h
    exact ⟨p, vs, e1, e2, k p _ hp (.inl (by rw [e2]; exact List.mem_singleton.mpr rfl)), hz.stay fun a o e z => k a o e (.inr z)⟩
inductive Ety where
  | un
  | sl (S : Sl)
  | tp (S : Sl)
  /-- a list of the caller's, only read -/
  | rd (K : PySem.W.Frag) (ds : List PyData)
  /-- a thing of another's, only read -/
  | rb (S : Sl)
/-! ### where one stands -/
/-- a fixed heap, the objects of it that may change, the tape -/
structure Bs where
  H : Hp
  O : List Addr
  T : Option (Sl × V × List Addr)
  /-- lists that stand -/
  R : List (Addr × HO)
def Bs.off (B : Bs) (a : Addr) : Prop := ∀ t, B.T = some t → a ∉ t.2.2
def Frame (B : Bs) (H : Hp) : Prop := ∀ a o, B.H a = some o → ∃ o', H a = some o' ∧ (a ∉ B.O → B.off a → o' = o) ∧ (still o = true → o' = o)
def TpSt (B : Bs) (H : Hp) : Prop := ∀ t, B.T = some t → t.1.own H t.2.1 t.2.2
structure En (B : Bs) (Γ : List Ety) (σ : List (Option V)) (H : Hp) (fp : Nat → List Addr) : Prop where
  len : σ.length = Γ.length
  sl : ∀ (i : Nat) (S : Sl), Γ[i]? = some (.sl S) → ∃ v, σ[i]? = some (some v) ∧ S.own H v (fp i)
  tp : ∀ (i : Nat) (S : Sl), Γ[i]? = some (.tp S) → ∃ v fq, B.T = some (S, v, fq) ∧ σ[i]? = some (some v)
  off : ∀ (i : Nat), (∀ S : Sl, Γ[i]? ≠ some (.sl S)) → fp i = []
  dis : ∀ (i j : Nat) (a : Addr), a ∈ fp i → a ∈ fp j → i = j
  nt : ∀ (i : Nat) (a : Addr), a ∈ fp i → B.off a
  new : ∀ (i : Nat) (a : Addr) (S : Sl), Γ[i]? = some (.sl S) → S.ro = false → a ∈ fp i → B.H a = none ∨ a ∈ B.O
  rd : ∀ (i : Nat) (K : PySem.W.Frag) (ds : List PyData), Γ[i]? = some (.rd K ds) → ∃ (p : Addr) (vs : List V), ((p, HO.lst vs) ∈ B.R ∨ ∀ H', SqL K H' p vs) ∧ σ[i]? = some (some (.ref p)) ∧ FzAll K H vs ds
  rb : ∀ (i : Nat) (S : Sl), Γ[i]? = some (.rb S) → ∃ v fq, σ[i]? = some (some v) ∧ S.own H v fq ∧ ∀ a ∈ fq, ∃ o, (a, o) ∈ B.R
  rr : ∀ r, r ∈ B.R → Rd H r.1 r.2 ∧ B.off r.1 ∧ ∀ (i : Nat), r.1 ∉ fp i
  fr : Frame B H
  tps : TpSt B H
/-- behind an expression: all stands but the tape -/
structure Stp (B : Bs) (H H' : Hp) : Prop where
  kp : ∀ a o, H a = some o → B.off a → H' a = some o
  ts : TpSt B H'
section
variable {K : PySem.W.Frag} {B : Bs} {Γ : List Ety} {σ : List (Option V)} {H H' H'' : Hp} {fp : Nat → List Addr} {a p : Addr} {o : HO}
theorem TpSt.notstill (h : TpSt B H) (e : H a = some o) (st : still o = true) : B.off a := fun t ht hm => by
  obtain ⟨o', e', st'⟩ := t.1.dom (h t ht) hm
  rw [e] at e'
  cases e'
  rw [st] at st'; cases st'
theorem TpSt.new (h : TpSt B H) (e : H a = none) : B.off a := fun t ht hm => by
  obtain ⟨o', e', _⟩ := t.1.dom (h t ht) hm
  rw [e] at e'; cases e'
theorem Stp.refl (h : TpSt B H) : Stp B H H := ⟨fun _ _ e _ => e, h⟩
theorem Stp.trans (a : Stp B H H') (b : Stp B H' H'') : Stp B H H'' := ⟨fun x o e n => b.kp x o (a.kp x o e n) n, b.ts⟩
theorem Stp.stay (h : TpSt B H) (a : Stp B H H') : Stay H H' := fun x o e z => a.kp x o e (h.notstill e z)
theorem TpSt.same (h : TpSt B H) (s : ∀ a o, H a = some o → H' a = some o) : TpSt B H' := fun t ht => t.1.keep (h t ht) fun a o e _ => s a o e
theorem Stp.same (h : TpSt B H) (s : ∀ a o, H a = some o → H' a = some o) : Stp B H H' := ⟨fun x o e _ => s x o e, h.same s⟩
theorem upd_keeps (h : H p = none) : ∀ a u, H a = some u → upd H p o a = some u := fun a u e => by
  rw [upd_ne (ne_of_none e h)]
  exact e
theorem Stp.new (h : TpSt B H) (e : H p = none) : Stp B H (upd H p o) := Stp.same h (upd_keeps e)
theorem Stp.dom (h : TpSt B H) (s : Stp B H H') (e : H a = some o) : ∃ o', H' a = some o' := by
  by_cases q : B.off a
  · exact ⟨o, s.kp a o e q⟩
  · unfold Bs.off at q
    simp only [Classical.not_forall] at q
    obtain ⟨t, ht, q⟩ := q
    obtain ⟨o', e', _⟩ := t.1.dom (s.ts t ht) (Classical.byContradiction fun z => q z)
    exact ⟨o', e'⟩
theorem Stp.back (h : TpSt B H) (s : Stp B H H') (e : H' a = none) : H a = none := by
  cases q : H a with
  | none => rfl
  | some o =>
    obtain ⟨o', e'⟩ := s.dom h q
    rw [e'] at e; cases e
theorem Frame.step (f : Frame B H) (h : TpSt B H) (s : Stp B H H') : Frame B H' := fun a o e => by
  obtain ⟨o', e1, e2, e3⟩ := f a o e
  obtain ⟨o'', e4⟩ := s.dom h e1
  refine ⟨o'', e4, fun n1 n2 => ?_, fun z => ?_⟩
  · have := s.kp a o' e1 n2
    rw [e4] at this
    exact (Option.some.inj this).trans (e2 n1 n2)
  · have e5 := e3 z
    subst e5
    have := s.kp a _ e1 (h.notstill e1 z)
    rw [e4] at this
    exact Option.some.inj this
theorem Stp.rd {u : HO} (s : Stp B H H') (h : B.off a) (r : Rd H a u) : Rd H' a u := by
  rcases r with r | ⟨o, r⟩
  · exact .inl (s.kp _ _ r h)
  · exact .inr ⟨o, s.kp _ _ r h⟩
theorem En.step (en : En B Γ σ H fp) (s : Stp B H H') : En B Γ σ H' fp where
  len := en.len
  sl := fun i S hi => by
    obtain ⟨v, h1, h2⟩ := en.sl i S hi
    refine ⟨v, h1, S.keep h2 fun a o e z => ?_⟩
    rcases z with z | z
    · exact s.kp a o e (en.nt i a z)
    · exact s.kp a o e (en.tps.notstill e z)
  tp := en.tp
  off := en.off
  dis := en.dis
  nt := en.nt
  new := en.new
  rd := fun i K ds hi => by
    obtain ⟨r, us, h1, h2, h3⟩ := en.rd i K ds hi
    exact ⟨r, us, h1, h2, h3.stay (s.stay en.tps)⟩
  rb := fun i S hi => by
    obtain ⟨v, fq, h1, h2, h3⟩ := en.rb i S hi
    refine ⟨v, fq, h1, S.keep h2 fun a o e z => ?_, h3⟩
    rcases z with z | z
    · obtain ⟨o', hm⟩ := h3 a z
      exact s.kp a o e (en.rr _ hm).2.1
    · exact s.kp a o e (en.tps.notstill e z)
  rr := fun r hr => by
    obtain ⟨h1, h2, h3⟩ := en.rr r hr
    exact ⟨s.rd h2 h1, h2, h3⟩
  fr := en.fr.step en.tps s
  tps := s.ts
end
end WL
/-! WL, part 2: expressions. -/
namespace WL
open PySem PySem.Spec PyProof.Rows L2
/-- what stands around a body: the written part, the wish about exceptions, the classes' values -/
structure Cn where
  K : PySem.W.Frag
  E : XK
  ct : Nat → Value × Str
inductive XnIs (C : Cn) (H : Hp) : Xn → Value → Option Addr → Prop
  | plain (c : Nat) : XnIs C H (.plain c) (C.ct c).1 none
  | num (c : Nat) (n : Int) (d : Addr) : H d = some (.xd [((C.ct c).2, .int n)]) → XnIs C H (.num c n) (C.ct c).1 (some d)
/-- what is asked of the tape that goes along -/
class Tbs (K : PySem.W.Frag) where
  tb : Option (Sl × V × List Addr) → Prop
abbrev tbOf (K : PySem.W.Frag) [Tbs K] (T : Option (Sl × V × List Addr)) : Prop := Tbs.tb (K := K) T
structure Exok (C : Cn) [Tbs C.K] (B : Bs) (X : Xn → Prop) : Prop where
  tb : tbOf C.K B.T
  ok : ∀ x v d H', X x → Frame B H' → TpSt B H' → XnIs C H' x v d → C.E v d H'
/-! ### kinds of results: the base, the heap at the start, the heap, the value -/
abbrev Rk := Bs → Hp → Hp → V → Prop
def RF (K : PySem.W.Frag) (d : PyData) : Rk := fun _ _ H v => Fz K H v d
/-- a list that may be read -/
def RdA (K : PySem.W.Frag) (B : Bs) (H : Hp) (p : Addr) (vs : List V) : Prop := (Rd H p (.lst vs) ∧ B.off p) ∨ ∀ H', SqL K H' p vs
theorem RdA.sq {K : PySem.W.Frag} {B : Bs} {H : Hp} {p : Addr} {vs : List V} (h : RdA K B H p vs) : SqL K H p vs := by
  rcases h with h | h
  · exact .inl h.1
  · exact h H
def RL (K : PySem.W.Frag) (ds : List PyData) : Rk := fun B _ H v => ∃ p vs, v = .ref p ∧ RdA K B H p vs ∧ FzAll K H vs ds
def RN (S : Sl) : Rk := fun _ H0 H v => ∃ fp, S.own H v fp ∧ ∀ a ∈ fp, H0 a = none
def RT (S : Sl) : Rk := fun B _ _ v => ∃ fq, B.T = some (S, v, fq)
/-- a thing that may be read -/
def RB (S : Sl) : Rk := fun B _ H v => ∃ fq, S.own H v fq ∧ ∀ a ∈ fq, B.off a
/-- a stable kind; H0 the start -/
def StR (R : Rk) : Prop := ∀ B H0 H1 H H' v, TpSt B H0 → TpSt B H → Stp B H H' → R B H0 H v → (∀ a, H0 a = none → H1 a = none) → R B H1 H' v
section
variable {K : PySem.W.Frag} {C : Cn} [Tbs C.K] {Γ : List Ety} {α β γ δ : Type}
theorem st_F {d : PyData} : StR (RF K d) := fun B H0 H1 H H' v _ t s h _ => Fz.stay (s.stay t) h
theorem st_L {ds : List PyData} : StR (RL K ds) := fun B H0 H1 H H' v _ t s ⟨p, vs, e, hs, hz⟩ _ => by
  refine ⟨p, vs, e, ?_, hz.stay (s.stay t)⟩
  rcases hs with hs | hs
  · exact .inl ⟨s.rd hs.2 hs.1, hs.2⟩
  · exact .inr hs
theorem st_N {S : Sl} : StR (RN S) := fun B H0 H1 H H' v t0 t s ⟨fp, ho, hf⟩ hb => by
  refine ⟨fp, S.keep ho fun a o e z => ?_, fun a ha => hb a (hf a ha)⟩
  rcases z with z | z
  · exact s.kp a o e (t0.new (hf a z))
  · exact s.kp a o e (t.notstill e z)
theorem st_B {S : Sl} : StR (RB S) := fun B H0 H1 H H' v _ t s ⟨fq, ho, hf⟩ _ => by
  refine ⟨fq, S.keep ho fun a o e z => ?_, hf⟩
  rcases z with z | z
  · exact s.kp a o e (hf a z)
  · exact s.kp a o e (t.notstill e z)
theorem st_T {S : Sl} : StR (RT S) := fun B H0 H1 H H' v _ t s h _ => h
/-- a slot's thing, one's own or borrowed -/
def Has (Γ : List Ety) (i : Nat) (S : Sl) : Prop := Γ[i]? = some (.sl S) ∨ Γ[i]? = some (.rb S)
theorem En.hold {B : Bs} {σ : List (Option V)} {H : Hp} {fp : Nat → List Addr} (en : En B Γ σ H fp) {i : Nat} {S : Sl} (h : Has Γ i S) : ∃ v fq, σ[i]? = some (some v) ∧ S.own H v fq ∧ ∀ a ∈ fq, B.off a := by
  rcases h with h | h
  · obtain ⟨v, hv, ho⟩ := en.sl i S h
    exact ⟨v, fp i, hv, ho, fun a ha => en.nt i a ha⟩
  · obtain ⟨v, fq, hv, ho, hq⟩ := en.rb i S h
    exact ⟨v, fq, hv, ho, fun a ha => by
      obtain ⟨o, hm⟩ := hq a ha
      exact (en.rr _ hm).2.1⟩
/-! ### what evaluates to what -/
def EvG (C : Cn) [Tbs C.K] (Γ : List Ety) (t : TE) (w : Wp α) (R : α → Rk) : Prop := ∀ (P : α → Prop) (X : Xn → Prop), w P X → ∀ B σ H fp, En B Γ σ H fp → Exok C B X →
  ∀ Q : VK, (∀ r v H', P r → Stp B H H' → R r B H H' v → Q v H') → t σ H Q
def EvT (C : Cn) [Tbs C.K] (Γ : List Ety) (t : TT) (w : Wp Bool) : Prop := ∀ (P : Bool → Prop) (X : Xn → Prop), w P X → ∀ B σ H fp, En B Γ σ H fp → Exok C B X →
  ∀ Q : Bool → Hp → Prop, (∀ b H', P b → Stp B H H' → Q b H') → t σ H Q
inductive RAll (B : Bs) (H0 H : Hp) : List V → List Rk → Prop
  | nil : RAll B H0 H [] []
  | cons {v : V} {vs : List V} {R : Rk} {Rs : List Rk} : R B H0 H v → RAll B H0 H vs Rs → RAll B H0 H (v :: vs) (R :: Rs)
def EvA (C : Cn) [Tbs C.K] (Γ : List Ety) (t : TA) (w : Wp α) (R : α → List Rk) : Prop := ∀ (P : α → Prop) (X : Xn → Prop), w P X → ∀ B σ H fp, En B Γ σ H fp → Exok C B X →
  ∀ Q : List V → Hp → Prop, (∀ r vs H', P r → Stp B H H' → RAll B H H' vs (R r) → Q vs H') → t σ H Q
theorem EvG.is {t : TE} {w w' : Wp α} {R : α → Rk} (h : EvG C Γ t w R) (e : w = w') : EvG C Γ t w' R := e ▸ h
theorem EvT.is {t : TT} {w w' : Wp Bool} (h : EvT C Γ t w) (e : w = w') : EvT C Γ t w' := e ▸ h
theorem EvA.is {t : TA} {w w' : Wp α} {R : α → List Rk} (h : EvA C Γ t w R) (e : w = w') : EvA C Γ t w' R := e ▸ h
/-- another name for the result -/
theorem EvG.as {t : TE} {w : Wp α} {R : α → Rk} (f : α → β) {R' : β → Rk} (h : EvG C Γ t w R) (e : ∀ r, R' (f r) = R r) : EvG C Γ t (mapW f w) R' := fun P X hw B σ H fp en ex Q q =>
  h _ X hw B σ H fp en ex Q fun r v H' hp s hr => q (f r) v H' hp s (by rw [e]; exact hr)
/-! ### names, constants -/
theorem ev_f {i : Nat} {e : α → PyData} (x : α) (h : Γ[i]? = some (.sl (fz C.K (e x)))) : EvG C Γ (tVar i) (ret x) (fun r => RF C.K (e r)) := fun P X hw B σ H fp en ex Q q => by
  obtain ⟨v, hv, ho⟩ := en.sl i _ h
  exact ⟨v, hv, q x v H hw (.refl en.tps) ho.2⟩
theorem ev_l {i : Nat} {e : α → PyData} (xs : List α) (h : Γ[i]? = some (.sl (ls C.K (xs.map e)))) : EvG C Γ (tVar i) (ret xs) (fun r => RL C.K (r.map e)) := fun P X hw B σ H fp en ex Q q => by
  obtain ⟨v, hv, p, vs, rfl, e2, hp, hz⟩ := en.sl i _ h
  exact ⟨_, hv, q xs _ H hw (.refl en.tps) ⟨p, vs, rfl, .inl ⟨.inl hp, en.nt i p (by rw [e2]; exact List.mem_singleton.mpr rfl)⟩, hz⟩⟩
theorem ev_r {i : Nat} {e : α → PyData} (xs : List α) (h : Γ[i]? = some (.rd C.K (xs.map e))) : EvG C Γ (tVar i) (ret xs) (fun r => RL C.K (r.map e)) := fun P X hw B σ H fp en ex Q q => by
  obtain ⟨r, us, hr, hv, hz⟩ := en.rd i _ _ h
  refine ⟨_, hv, q xs _ H hw (.refl en.tps) ⟨r, us, rfl, ?_, hz⟩⟩
  rcases hr with hr | hr
  · obtain ⟨h1, h2, _⟩ := en.rr _ hr
    exact .inl ⟨h1, h2⟩
  · exact .inr hr
theorem ev_t {i : Nat} {S : Sl} (h : Γ[i]? = some (.tp S)) : EvG C Γ (tVar i) (ret ()) (fun _ => RT S) := fun P X hw B σ H fp en ex Q q => by
  obtain ⟨v, fq, ht, hv⟩ := en.tp i S h
  exact ⟨_, hv, q () _ H hw (.refl en.tps) ⟨fq, ht⟩⟩
theorem ev_int {n : Int} : EvG C Γ (tC (.int n)) (ret n) (fun r => RF C.K (eI r)) := fun P X hw B σ H fp en ex Q q => q n _ H hw (.refl en.tps) (.int n)
theorem ev_bl {b : Bool} : EvG C Γ (tC (.bl b)) (ret b) (fun r => RF C.K (eB r)) := fun P X hw B σ H fp en ex Q q => q b _ H hw (.refl en.tps) (.bl b)
theorem ev_str {x : Str} : EvG C Γ (tC (.str x)) (ret x) (fun r => RF C.K (eS r)) := fun P X hw B σ H fp en ex Q q => q x _ H hw (.refl en.tps) (.str x)
theorem ev_non : EvG C Γ (tC .non) (ret ()) (fun r => RF C.K (eU r)) := fun P X hw B σ H fp en ex Q q => q () _ H hw (.refl en.tps) .non
theorem ev_nonO {e : α → PyData} : EvG C Γ (tC .non) (ret none) (fun r => RF C.K (eO e r)) := fun P X hw B σ H fp en ex Q q => q none _ H hw (.refl en.tps) .non
/-- a thing where a thing or None is wanted -/
theorem ev_some {t : TE} {w : Wp α} {e : α → PyData} (h : EvG C Γ t w (fun r => RF C.K (e r))) : EvG C Γ t (mapW some w) (fun r => RF C.K (eO e r)) := h.as some fun _ => rfl
/-! ### operators, by values -/
def OpG (C : Cn) [Tbs C.K] (r : R2) (R1 R2' : Rk) (w : Wp γ) (R : γ → Rk) : Prop := ∀ (P : γ → Prop) (X : Xn → Prop), w P X → ∀ B H0 H x y, TpSt B H0 → TpSt B H → (∀ a, H a = none → H0 a = none) → R1 B H0 H x → R2' B H0 H y →
  ∀ Q : VK, (∀ z v H', P z → Stp B H H' → R z B H0 H' v → Q v H') → r x y H Q
theorem Stp.back' {B : Bs} {H H' : Hp} (t : TpSt B H) (s : Stp B H H') : ∀ a, H' a = none → H a = none := fun _ e => s.back t e
theorem ev_op {r : R2} {ta tb : TE} {wa : Wp α} {wb : α → Wp β} {Ra : α → Rk} {Rb : α → β → Rk} {w : α → β → Wp γ} {R : γ → Rk} (ha : EvG C Γ ta wa Ra) (hb : ∀ a, EvG C Γ tb (wb a) (Rb a)) (hr : ∀ a b, OpG C r (Ra a) (Rb a b) (w a b) R)
    (sa : ∀ a, StR (Ra a)) (sb : ∀ a b, StR (Rb a b)) : EvG C Γ (tOp r ta tb) (bnd wa fun a => bnd (wb a) fun b => w a b) R := fun P X hw B σ H fp en ex Q q => by
  refine ha _ X hw B σ H fp en ex _ fun a x H1 h1 s1 r1 => ?_
  refine hb a _ X h1 B σ H1 fp (en.step s1) ex _ fun b y H2 h2 s2 r2 => ?_
  have s12 := s1.trans s2
  refine hr a b P X h2 B H H2 x y en.tps s2.ts (s12.back' en.tps) (sa a B H H H1 H2 x en.tps s1.ts s2 r1 fun _ z => z) (sb a b B H1 H H2 H2 y s1.ts s2.ts (.refl s2.ts) r2 (s1.back' en.tps)) Q fun z v H3 h3 s3 r3 => ?_
  exact q z v H3 h3 (s12.trans s3) r3
def UnG (C : Cn) [Tbs C.K] (r : V → Hp → VK → Prop) (R1 : Rk) (w : Wp γ) (R : γ → Rk) : Prop := ∀ (P : γ → Prop) (X : Xn → Prop), w P X → ∀ B H0 H x, TpSt B H0 → TpSt B H → (∀ a, H a = none → H0 a = none) → R1 B H0 H x →
  ∀ Q : VK, (∀ z v H', P z → Stp B H H' → R z B H0 H' v → Q v H') → r x H Q
theorem ev_un {r : V → Hp → VK → Prop} {ta : TE} {wa : Wp α} {Ra : α → Rk} {w : α → Wp γ} {R : γ → Rk} (ha : EvG C Γ ta wa Ra) (hr : ∀ a, UnG C r (Ra a) (w a) R) : EvG C Γ (tUn r ta) (bnd wa w) R := fun P X hw B σ H fp en ex Q q =>
  ha _ X hw B σ H fp en ex _ fun a x H1 h1 s1 r1 => hr a P X h1 B H H1 x en.tps s1.ts (s1.back' en.tps) r1 Q fun z v H3 h3 s3 r3 => q z v H3 h3 (s1.trans s3) r3
/-- ints -/
theorem o_I0 {g : Int → Int → V} {e : γ → PyData} {f : Int → Int → γ} (hg : ∀ H i j, Fz C.K H (g i j) (e (f i j))) (i j : Int) : OpG C (rI0 g) (RF C.K (eI i)) (RF C.K (eI j)) (ret (f i j)) (fun r => RF C.K (e r)) := fun P X hw B H0 H x y _ ts _ hx hy Q q =>
  ⟨i, j, Fz.int_inv hx, Fz.int_inv hy, q _ _ H hw (.refl ts) (hg H i j)⟩
theorem o_add (i j : Int) : OpG C (rI0 fun i j => .int (i + j)) (RF C.K (eI i)) (RF C.K (eI j)) (ret (i + j)) (fun r => RF C.K (eI r)) := o_I0 (fun _ _ _ => .int _) i j
theorem o_sub (i j : Int) : OpG C (rI0 fun i j => .int (i - j)) (RF C.K (eI i)) (RF C.K (eI j)) (ret (i - j)) (fun r => RF C.K (eI r)) := o_I0 (fun _ _ _ => .int _) i j
theorem o_lt (i j : Int) : OpG C (rI0 fun i j => .bl (decide (i < j))) (RF C.K (eI i)) (RF C.K (eI j)) (ret (decide (i < j))) (fun r => RF C.K (eB r)) := o_I0 (fun _ _ _ => .bl _) i j
theorem o_le (i j : Int) : OpG C (rI0 fun i j => .bl (decide (i ≤ j))) (RF C.K (eI i)) (RF C.K (eI j)) (ret (decide (i ≤ j))) (fun r => RF C.K (eB r)) := o_I0 (fun _ _ _ => .bl _) i j
theorem o_gt (i j : Int) : OpG C (rI0 fun i j => .bl (decide (j < i))) (RF C.K (eI i)) (RF C.K (eI j)) (ret (decide (j < i))) (fun r => RF C.K (eB r)) := o_I0 (fun _ _ _ => .bl _) i j
theorem o_I {D : Int → Int → Prop} {g : Int → Int → V} {e : γ → PyData} {f : Int → Int → γ} (hg : ∀ H i j, Fz C.K H (g i j) (e (f i j))) (i j : Int) : OpG C (rI D g) (RF C.K (eI i)) (RF C.K (eI j)) (grd (D i j) (ret (f i j))) (fun r => RF C.K (e r)) := fun P X hw B H0 H x y _ ts _ hx hy Q q =>
  ⟨i, j, Fz.int_inv hx, Fz.int_inv hy, hw.1, q _ _ H hw.2 (.refl ts) (hg H i j)⟩
theorem o_mul (i j : Int) : OpG C (rI CMul fun i j => .int (i * j)) (RF C.K (eI i)) (RF C.K (eI j)) (grd (CMul i j) (ret (i * j))) (fun r => RF C.K (eI r)) := o_I (fun _ _ _ => .int _) i j
theorem o_mod (i j : Int) : OpG C (rI (fun _ j => j ≠ 0) fun i j => .int (i.fmod j)) (RF C.K (eI i)) (RF C.K (eI j)) (grd (j ≠ 0) (ret (i.fmod j))) (fun r => RF C.K (eI r)) := o_I (fun _ _ _ => .int _) i j
theorem u_neg (i : Int) : UnG C (rU fun i => .int (-i)) (RF C.K (eI i)) (ret (-i)) (fun r => RF C.K (eI r)) := fun P X hw B H0 H x _ ts _ hx Q q => ⟨i, Fz.int_inv hx, q _ _ H hw (.refl ts) (.int _)⟩
/-- == of ints, texts, bools alike -/
theorem o_eqI (i j : Int) : OpG C rEq (RF C.K (eI i)) (RF C.K (eI j)) (ret (decide (i = j))) (fun r => RF C.K (eB r)) := fun P X hw B H0 H x y _ ts _ hx hy Q q => by
  have e1 := Fz.int_inv (n := i) hx
  have e2 := Fz.int_inv (n := j) hy
  subst e1
  subst e2
  refine ⟨rfl, q _ _ H hw (.refl ts) ?_⟩
  rw [show decide (V.int i = V.int j) = decide (i = j) from by
    by_cases e : i = j
    · subst e; simp
    · rw [decide_eq_false e, decide_eq_false (fun z => e (V.int.inj z))]]
  exact .bl _
theorem o_neI (i j : Int) : OpG C rNe (RF C.K (eI i)) (RF C.K (eI j)) (ret (!decide (i = j))) (fun r => RF C.K (eB r)) := fun P X hw B H0 H x y _ ts _ hx hy Q q => by
  have e1 := Fz.int_inv (n := i) hx
  have e2 := Fz.int_inv (n := j) hy
  subst e1
  subst e2
  refine ⟨rfl, q _ _ H hw (.refl ts) ?_⟩
  rw [show decide (V.int i = V.int j) = decide (i = j) from by
    by_cases e : i = j
    · subst e; simp
    · rw [decide_eq_false e, decide_eq_false (fun z => e (V.int.inj z))]]
  exact .bl _
theorem o_eqS (i j : Str) : OpG C rEq (RF C.K (eS i)) (RF C.K (eS j)) (ret (decide (i = j))) (fun r => RF C.K (eB r)) := fun P X hw B H0 H x y _ ts _ hx hy Q q => by
  have e1 := Fz.str_inv (x := i) hx
  have e2 := Fz.str_inv (x := j) hy
  subst e1
  subst e2
  refine ⟨rfl, q _ _ H hw (.refl ts) ?_⟩
  rw [show decide (V.str i = V.str j) = decide (i = j) from by
    by_cases e : i = j
    · subst e; simp
    · rw [decide_eq_false e, decide_eq_false (fun z => e (V.str.inj z))]]
  exact .bl _
def isN : PyData → Bool
  | .none => true
  | _ => false
theorem fz_non {H : Hp} {v : V} {d : PyData} (h : Fz K H v d) : decide (v = .non) = isN d := by
  cases h <;> rfl
/-- x is None, x is not None -/
abbrev rIsN : R2 := fun x y H Q => y = .non ∧ Q (.bl (decide (x = .non))) H
abbrev rNotN : R2 := fun x y H Q => y = .non ∧ Q (.bl (!decide (x = .non))) H
theorem o_isN (d : PyData) (u : Unit) : OpG C rIsN (RF C.K d) (RF C.K (eU u)) (ret (isN d)) (fun r => RF C.K (eB r)) := fun P X hw B H0 H x y _ ts _ hx hy Q q => by
  refine ⟨Fz.non_inv hy, q _ _ H hw (.refl ts) ?_⟩
  rw [fz_non hx]
  exact .bl _
theorem o_notN (d : PyData) (u : Unit) : OpG C rNotN (RF C.K d) (RF C.K (eU u)) (ret (!isN d)) (fun r => RF C.K (eB r)) := fun P X hw B H0 H x y _ ts _ hx hy Q q => by
  refine ⟨Fz.non_inv hy, q _ _ H hw (.refl ts) ?_⟩
  rw [fz_non hx]
  exact .bl _
/-- of a thing or None -/
theorem o_isNO {e : α → PyData} (he : ∀ a, isN (e a) = false) (o : Option α) (u : Unit) : OpG C rIsN (RF C.K (eO e o)) (RF C.K (eU u)) (ret o.isNone) (fun r => RF C.K (eB r)) := by
  have h := o_isN (C := C) (eO e o) u
  have e2 : isN (eO e o) = o.isNone := by
    cases o with
    | none => rfl
    | some a => exact he a
  rw [e2] at h
  exact h
theorem o_notNO {e : α → PyData} (he : ∀ a, isN (e a) = false) (o : Option α) (u : Unit) : OpG C rNotN (RF C.K (eO e o)) (RF C.K (eU u)) (ret o.isSome) (fun r => RF C.K (eB r)) := by
  have h := o_notN (C := C) (eO e o) u
  have e2 : (!isN (eO e o)) = o.isSome := by
    cases o with
    | none => rfl
    | some a =>
      rw [show isN (eO e (some a)) = false from he a]
      rfl
  rw [e2] at h
  exact h
/-- == and != of data -/
theorem o_eqD (d d' : PyData) : OpG C (rEqD C.K) (RF C.K d) (RF C.K d') (grd (SeqAt.shaped d = true ∧ SeqAt.shaped d' = true) (ret (PyData.eqv d d'))) (fun r => RF C.K (eB r)) := fun P X hw B H0 H x y _ ts _ hx hy Q q =>
  ⟨d, d', hx.dp, hy.dp, hw.1.1, hw.1.2, q _ _ H hw.2 (.refl ts) (.bl _)⟩
theorem o_neD (d d' : PyData) : OpG C (rNeD C.K) (RF C.K d) (RF C.K d') (grd (SeqAt.shaped d = true ∧ SeqAt.shaped d' = true) (ret (!PyData.eqv d d'))) (fun r => RF C.K (eB r)) := fun P X hw B H0 H x y _ ts _ hx hy Q q =>
  ⟨d, d', hx.dp, hy.dp, hw.1.1, hw.1.2, q _ _ H hw.2 (.refl ts) (.bl _)⟩
/-! ### places -/
theorem atI_fz {H : Hp} {vs : List V} {e : α → PyData} {xs : List α} {i : Int} {x : α} (hz : FzAll K H vs (xs.map e)) (h : atI xs i = some x) : ∃ v, atI vs i = some v ∧ Fz K H v (e x) := by
  have hl : vs.length = xs.length := by rw [hz.length, List.length_map]
  unfold atI at h ⊢
  rw [hl]
  cases q : ixN xs.length i with
  | none => rw [q] at h; cases h
  | some j =>
    rw [q] at h
    have h' : xs[j]? = some x := h
    obtain ⟨v, h1, h2⟩ := hz.get (i := j) (d := e x) (by rw [List.getElem?_map, h']; rfl)
    exact ⟨v, h1, h2⟩
/-- t[i], t a row of things alike -/
theorem o_ixT {e : α → PyData} (xs : List α) (i : Int) : OpG C (rIxT C.K) (RF C.K (eT e xs)) (RF C.K (eI i)) (opt (atI xs i)) (fun r => RF C.K (e r)) := fun P X ⟨x, hx, hp⟩ B H0 H v y _ ts _ hv hy Q q => by
  obtain ⟨a, vs, rfl, hs, hz⟩ := Fz.tup_inv hv
  obtain ⟨u, h1, h2⟩ := atI_fz hz hx
  exact ⟨a, vs, i, u, rfl, Fz.int_inv hy, hs, h1, q x u H hp (.refl ts) h2⟩
theorem o_ixL {e : α → PyData} (xs : List α) (i : Int) : OpG C (rIxL C.K) (RL C.K (xs.map e)) (RF C.K (eI i)) (opt (atI xs i)) (fun r => RF C.K (e r)) := fun P X ⟨x, hx, hp⟩ B H0 H v y _ ts _ hv hy Q q => by
  obtain ⟨a, vs, rfl, hs, hz⟩ := hv
  obtain ⟨u, h1, h2⟩ := atI_fz hz hx
  exact ⟨a, vs, i, u, rfl, Fz.int_inv hy, hs.sq, h1, q x u H hp (.refl ts) h2⟩
/-! ### tests -/
theorem et_test {t : TE} {w : Wp Bool} (h : EvG C Γ t w (fun r => RF C.K (eB r))) : EvT C Γ (tTest t) w := fun P X hw B σ H fp en ex Q q =>
  h P X hw B σ H fp en ex _ fun r v H' hp s hr => ⟨r, Fz.bl_inv hr, q r H' hp s⟩
theorem et_B {t : TE} {w : Wp Bool} (h : EvG C Γ t w (fun r => RF C.K (eB r))) : EvT C Γ (tB t) w := fun P X hw B σ H fp en ex Q q =>
  h P X hw B σ H fp en ex _ fun r v H' hp s hr => ⟨r, Fz.bl_inv hr, q r H' hp s⟩
theorem et_and {t u : TT} {w : Wp Bool} {w' : Wp Bool} (h : EvT C Γ t w) (h' : EvT C Γ u w') : EvT C Γ (tAnd t u) (bnd w fun b => sel b w' (ret false)) := fun P X hw B σ H fp en ex Q q =>
  h _ X hw B σ H fp en ex _ fun b H1 hp s => by
    cases b with
    | true =>
      show u σ H1 Q
      exact h' P X hp B σ H1 fp (en.step s) ex Q fun b2 H2 hp2 s2 => q b2 H2 hp2 (s.trans s2)
    | false =>
      show Q false H1
      exact q false H1 hp s
theorem et_or {t u : TT} {w : Wp Bool} {w' : Wp Bool} (h : EvT C Γ t w) (h' : EvT C Γ u w') : EvT C Γ (tOr t u) (bnd w fun b => sel b (ret true) w') := fun P X hw B σ H fp en ex Q q =>
  h _ X hw B σ H fp en ex _ fun b H1 hp s => by
    cases b with
    | false =>
      show u σ H1 Q
      exact h' P X hp B σ H1 fp (en.step s) ex Q fun b2 H2 hp2 s2 => q b2 H2 hp2 (s.trans s2)
    | true =>
      show Q true H1
      exact q true H1 hp s
theorem et_not {t : TT} {w : Wp Bool} (h : EvT C Γ t w) : EvT C Γ (tNot t) (bnd w fun b => ret (!b)) := fun P X hw B σ H fp en ex Q q =>
  h _ X hw B σ H fp en ex _ fun b H1 hp s => q (!b) H1 hp s
theorem ev_andV {ta tb : TE} {w : Wp Bool} {w' : Wp Bool} (h : EvG C Γ ta w (fun r => RF C.K (eB r))) (h' : EvG C Γ tb w' (fun r => RF C.K (eB r))) : EvG C Γ (tAndV ta tb) (bnd w fun b => sel b w' (ret false)) (fun r => RF C.K (eB r)) := fun P X hw B σ H fp en ex Q q =>
  h _ X hw B σ H fp en ex _ fun b v H1 hp s hr => ⟨b, Fz.bl_inv hr, by
    cases b with
    | true =>
      show tb σ H1 Q
      exact h' P X hp B σ H1 fp (en.step s) ex Q fun b2 v2 H2 hp2 s2 r2 => q b2 v2 H2 hp2 (s.trans s2) r2
    | false =>
      show Q (.bl false) H1
      exact q false _ H1 hp s (.bl false)⟩
theorem ev_notV {ta : TE} {w : Wp Bool} (h : EvG C Γ ta w (fun r => RF C.K (eB r))) : EvG C Γ (tNotV ta) (bnd w fun b => ret (!b)) (fun r => RF C.K (eB r)) := fun P X hw B σ H fp en ex Q q =>
  h _ X hw B σ H fp en ex _ fun b v H1 hp s hr => ⟨b, Fz.bl_inv hr, q (!b) _ H1 hp s (.bl _)⟩
theorem ev_if {t : TT} {ta tb : TE} {w : Wp Bool} {wa wb : Wp α} {R : α → Rk} (h : EvT C Γ t w) (h1 : EvG C Γ ta wa R) (h2 : EvG C Γ tb wb R) (sr : ∀ r, StR (R r)) : EvG C Γ (tIf t ta tb) (bnd w fun b => sel b wa wb) R := fun P X hw B σ H fp en ex Q q =>
  h _ X hw B σ H fp en ex _ fun b H1 hp s => by
    cases b with
    | true =>
      show ta σ H1 Q
      exact h1 P X hp B σ H1 fp (en.step s) ex Q fun r v H2 hp2 s2 r2 => q r v H2 hp2 (s.trans s2) (sr r B H1 H H2 H2 v s.ts s2.ts (.refl s2.ts) r2 (s.back' en.tps))
    | false =>
      show tb σ H1 Q
      exact h2 P X hp B σ H1 fp (en.step s) ex Q fun r v H2 hp2 s2 r2 => q r v H2 hp2 (s.trans s2) (sr r B H1 H H2 H2 v s.ts s2.ts (.refl s2.ts) r2 (s.back' en.tps))
/-- a op b op' c -/
theorem ev_chain {r r' : R2} {ta tb tc : TE} {wa : Wp α} {wb : Wp β} {wc : Wp γ} {Ra : α → Rk} {Rb : β → Rk} {Rc : γ → Rk} {w : α → β → Wp Bool} {w' : β → γ → Wp Bool} (ha : EvG C Γ ta wa Ra) (hb : EvG C Γ tb wb Rb) (hc : EvG C Γ tc wc Rc)
    (hr : ∀ a b, OpG C r (Ra a) (Rb b) (w a b) (fun r => RF C.K (eB r))) (hr' : ∀ b c, OpG C r' (Rb b) (Rc c) (w' b c) (fun r => RF C.K (eB r))) (sa : ∀ a, StR (Ra a)) (sb : ∀ b, StR (Rb b)) (sc : ∀ c, StR (Rc c)) :
    EvG C Γ (tChain r r' ta tb tc) (bnd wa fun a => bnd wb fun b => bnd (w a b) fun k => sel k (bnd wc fun c => w' b c) (ret false)) (fun r => RF C.K (eB r)) := fun P X hw B σ H fp en ex Q q => by
  refine ha _ X hw B σ H fp en ex _ fun a x H1 h1 s1 r1 => ?_
  refine hb _ X h1 B σ H1 fp (en.step s1) ex _ fun b y H2 h2 s2 r2 => ?_
  have s12 := s1.trans s2
  have rb := sb b B H1 H H2 H2 y s1.ts s2.ts (.refl s2.ts) r2 (s1.back' en.tps)
  refine hr a b _ X h2 B H H2 x y en.tps s2.ts (s12.back' en.tps) (sa a B H H H1 H2 x en.tps s1.ts s2 r1 fun _ z => z) rb _ fun k v H3 h3 s3 r3 => ?_
  have s13 := s12.trans s3
  refine ⟨k, Fz.bl_inv r3, ?_⟩
  cases k with
  | true =>
    show tc σ H3 _
    refine hc _ X h3 B σ H3 fp (en.step s13) ex _ fun c z H4 h4 s4 r4 => ?_
    have s14 := s13.trans s4
    exact hr' b c P X h4 B H H4 y z en.tps s4.ts (s14.back' en.tps) (sb b B H H H2 H4 y en.tps s2.ts (s3.trans s4) rb fun _ z => z) (sc c B H3 H H4 H4 z s3.ts s4.ts (.refl s4.ts) r4 (s13.back' en.tps)) Q fun z v H5 h5 s5 r5 => q z v H5 h5 (s14.trans s5) r5
  | false =>
    show Q (.bl false) H3
    exact q false _ H3 h3 s13 (.bl false)
/-! ### arguments, displays -/
theorem ea_nil : EvA C Γ tNil (ret ()) (fun _ => []) := fun P X hw B σ H fp en ex Q q => q () [] H hw (.refl en.tps) .nil
theorem RAll.stable {B : Bs} {H0 H1 H H' : Hp} (t0 : TpSt B H0) (t : TpSt B H) (s : Stp B H H') (hb : ∀ a, H0 a = none → H1 a = none) : ∀ {vs : List V} {Rs : List Rk}, (∀ R ∈ Rs, StR R) → RAll B H0 H vs Rs → RAll B H1 H' vs Rs
  | _, _, _, .nil => .nil
  | _, _, hs, .cons h r => .cons (hs _ (List.mem_cons_self) B H0 H1 H H' _ t0 t s h hb) (RAll.stable t0 t s hb (fun R hR => hs R (List.mem_cons_of_mem _ hR)) r)
theorem ea_cons {te : TE} {tr : TA} {wa : Wp α} {wr : Wp β} {Ra : α → Rk} {Rr : β → List Rk} (h : EvG C Γ te wa Ra) (hr : EvA C Γ tr wr Rr) (sa : ∀ a, StR (Ra a)) (sr : ∀ b, ∀ R ∈ Rr b, StR R) :
    EvA C Γ (tCons te tr) (bnd wa fun a => bnd wr fun r => ret (a, r)) (fun x => Ra x.1 :: Rr x.2) := fun P X hw B σ H fp en ex Q q => by
  refine h _ X hw B σ H fp en ex _ fun a x H1 h1 s1 r1 => ?_
  refine hr _ X h1 B σ H1 fp (en.step s1) ex _ fun b vs H2 h2 s2 r2 => ?_
  exact q (a, b) (x :: vs) H2 h2 (s1.trans s2) (.cons (sa a B H H H1 H2 x en.tps s1.ts s2 r1 fun _ z => z) (RAll.stable s1.ts s2.ts (.refl s2.ts) (s1.back' en.tps) (sr b) r2))
/-- all the arguments data -/
inductive AllF (K : PySem.W.Frag) : List Rk → List PyData → Prop
  | nil : AllF K [] []
  | cons {d : PyData} {Rs : List Rk} {ds : List PyData} : AllF K Rs ds → AllF K (RF K d :: Rs) (d :: ds)
theorem AllF.fz {B : Bs} {H0 H : Hp} : ∀ {Rs : List Rk} {ds : List PyData} {vs : List V}, AllF K Rs ds → RAll B H0 H vs Rs → FzAll K H vs ds
  | _, _, _, .nil, h => by cases h; exact .nil
  | _, _, _, .cons t, h => by
    cases h with
    | cons h1 h2 => exact .cons h1 (AllF.fz t h2)
/-- (a, b, ..) -/
theorem ev_tup {ta : TA} {w : Wp α} {Rs : α → List Rk} {ds : α → List PyData} (h : EvA C Γ ta w Rs) (hd : ∀ a, AllF C.K (Rs a) (ds a)) (hl : ∀ a, (ds a).length ≤ 100) : EvG C Γ (tTup ta) w (fun a => RF C.K (.tuple (ds a))) := fun P X hw B σ H fp en ex Q q =>
  h P X hw B σ H fp en ex _ fun a vs H1 h1 s1 r1 => by
    have hz := (hd a).fz r1
    have hlen := hz.length
    have h100 := hl a
    refine ⟨by rw [hlen]; exact Nat.le_trans h100 (by decide), fun p hp => ?_⟩
    have s2 : Stp B H1 (upd H1 p (.tup vs)) := .new s1.ts hp
    exact q a (.ref p) _ h1 (s1.trans s2) (.tup (.inl (.inl upd_same)) (hz.stay (s2.stay s1.ts)))
/-- [a, b, ..] -/
theorem ev_lst {ta : TA} {w : Wp α} {Rs : α → List Rk} {ds : α → List PyData} (h : EvA C Γ ta w Rs) (hd : ∀ a, AllF C.K (Rs a) (ds a)) (hl : ∀ a, (ds a).length ≤ 100) : EvG C Γ (tLst ta) w (fun a => RN (ls C.K (ds a))) := fun P X hw B σ H fp en ex Q q =>
  h P X hw B σ H fp en ex _ fun a vs H1 h1 s1 r1 => by
    have hz := (hd a).fz r1
    have hlen := hz.length
    have h100 := hl a
    refine ⟨by rw [hlen]; exact Nat.le_trans h100 (by decide), fun p hp => ?_⟩
    have s2 : Stp B H1 (upd H1 p (.lst vs)) := .new s1.ts hp
    refine q a (.ref p) _ h1 (s1.trans s2) ⟨[p], ⟨p, vs, rfl, rfl, upd_same, hz.stay (s2.stay s1.ts)⟩, fun b hb => ?_⟩
    rw [List.mem_singleton.mp hb]
    exact s1.back en.tps hp
/-- a new list may be read -/
theorem EvG.rl {t : TE} {w : Wp α} {ds : α → List PyData} (h : EvG C Γ t w (fun a => RN (ls C.K (ds a)))) : EvG C Γ t w (fun a => RL C.K (ds a)) := fun P X hw B σ H fp en ex Q q =>
  h P X hw B σ H fp en ex Q fun r v H' hp s ⟨fp', ⟨p, vs, e1, e2, e3, hz⟩, hf⟩ => q r v H' hp s ⟨p, vs, e1, .inl ⟨.inl e3, en.tps.new (hf p (by rw [e2]; exact List.mem_singleton.mpr rfl))⟩, hz⟩
/-! ### calls by values -/
def CaG (C : Cn) [Tbs C.K] (r : List V → Hp → VK → Prop) (Rs : List Rk) (w : Wp γ) (R : γ → Rk) : Prop := ∀ (P : γ → Prop) (X : Xn → Prop), w P X → ∀ B H0 H vs, TpSt B H0 → TpSt B H → (∀ a, H a = none → H0 a = none) → RAll B H0 H vs Rs →
  ∀ Q : VK, (∀ z v H', P z → Stp B H H' → R z B H0 H' v → Q v H') → r vs H Q
theorem ev_cb {r : List V → Hp → VK → Prop} {ta : TA} {w : Wp α} {Rs : α → List Rk} {w' : α → Wp γ} {R : γ → Rk} (h : EvA C Γ ta w Rs) (hr : ∀ a, CaG C r (Rs a) (w' a) R) : EvG C Γ (tCB r ta) (bnd w w') R := fun P X hw B σ H fp en ex Q q =>
  h _ X hw B σ H fp en ex _ fun a vs H1 h1 s1 r1 => hr a P X h1 B H H1 vs en.tps s1.ts (s1.back' en.tps) r1 Q fun z v H2 h2 s2 r2 => q z v H2 h2 (s1.trans s2) r2
end
end WL
/-! WL, part 3: slots stored, what is walked, comprehensions, built-ins. -/
namespace WL
open PySem PySem.Spec PyProof.Rows L2
/-! ### slots -/
section
variable {K : PySem.W.Frag} {B : Bs} {Γ : List Ety} {σ : List (Option V)} {H H' : Hp} {fp : Nat → List Addr}
def put (fp : Nat → List Addr) (i : Nat) (q : List Addr) : Nat → List Addr := fun j => if j = i then q else fp j
theorem put_same (i : Nat) (q : List Addr) : put fp i q i = q := by unfold put; rw [if_pos rfl]
theorem put_ne {i j : Nat} {q : List Addr} (h : j ≠ i) : put fp i q j = fp j := by unfold put; rw [if_neg h]
theorem En.lt (en : En B Γ σ H fp) {i : Nat} {a : Addr} (h : a ∈ fp i) : ∃ S : Sl, Γ[i]? = some (.sl S) := by
  apply Classical.byContradiction
  intro z
  have := en.off i fun S hS => z ⟨S, hS⟩
  rw [this] at h; cases h
theorem rd_upd {a p : Addr} {u o : HO} (hne : a ≠ p) (h : Rd H a u) : Rd (upd H p o) a u := by
  rcases h with h | ⟨x, h⟩
  · exact .inl (by rw [upd_ne hne]; exact h)
  · exact .inr ⟨x, by rw [upd_ne hne]; exact h⟩
theorem rd_new {a : Addr} {u : HO} (h : Rd H a u) (n : H a = none) : False := by
  rcases h with h | ⟨o, h⟩ <;> rw [n] at h <;> cases h
/-- a name is stored -/
theorem En.put (en : En B Γ σ H fp) {i : Nat} {S : Sl} {v : V} {q : List Addr} (hi : i < Γ.length) (ho : S.own H v q) (hd : ∀ a ∈ q, ∀ j, a ∈ fp j → j = i) (ht : ∀ a ∈ q, B.off a) (hn : S.ro = false → ∀ a ∈ q, B.H a = none ∨ a ∈ B.O) (hR : ∀ r ∈ B.R, r.1 ∉ q) :
    En B (Γ.set i (.sl S)) (σ.set i (some v)) H (put fp i q) where
  len := by rw [List.length_set, List.length_set]; exact en.len
  sl := fun j S' hj => by
    by_cases e : j = i
    · subst e
      rw [List.getElem?_set_self hi] at hj
      cases hj
      rw [put_same]
      exact ⟨v, List.getElem?_set_self (by rw [en.len]; exact hi), ho⟩
    · rw [List.getElem?_set_ne (Ne.symm e)] at hj
      rw [put_ne e, List.getElem?_set_ne (Ne.symm e)]
      exact en.sl j S' hj
  tp := fun j T hj => by
    by_cases e : j = i
    · subst e
      rw [List.getElem?_set_self hi] at hj
      cases hj
    · rw [List.getElem?_set_ne (Ne.symm e)] at hj
      rw [List.getElem?_set_ne (Ne.symm e)]
      exact en.tp j T hj
  off := fun j hj => by
    by_cases e : j = i
    · subst e
      exact absurd (List.getElem?_set_self hi) (hj S)
    · rw [put_ne e]
      exact en.off j fun S' z => hj S' (by rw [List.getElem?_set_ne (Ne.symm e)]; exact z)
  dis := fun j k a hj hk => by
    by_cases e : j = i
    · subst e
      rw [put_same] at hj
      by_cases e2 : k = j
      · exact e2.symm
      · rw [put_ne e2] at hk
        exact (hd a hj k hk).symm
    · rw [put_ne e] at hj
      by_cases e2 : k = i
      · subst e2
        rw [put_same] at hk
        exact hd a hk j hj
      · rw [put_ne e2] at hk
        exact en.dis j k a hj hk
  nt := fun j a hj => by
    by_cases e : j = i
    · subst e
      rw [put_same] at hj
      exact ht a hj
    · rw [put_ne e] at hj
      exact en.nt j a hj
  new := fun j a S' hj hr ha => by
    by_cases e : j = i
    · subst e
      rw [List.getElem?_set_self hi] at hj
      cases hj
      rw [put_same] at ha
      exact hn hr a ha
    · rw [List.getElem?_set_ne (Ne.symm e)] at hj
      rw [put_ne e] at ha
      exact en.new j a S' hj hr ha
  rd := fun j K' ds hj => by
    by_cases e : j = i
    · subst e
      rw [List.getElem?_set_self hi] at hj
      cases hj
    · rw [List.getElem?_set_ne (Ne.symm e)] at hj
      rw [List.getElem?_set_ne (Ne.symm e)]
      exact en.rd j K' ds hj
  rb := fun j T hj => by
    by_cases e : j = i
    · subst e
      rw [List.getElem?_set_self hi] at hj
      cases hj
    · rw [List.getElem?_set_ne (Ne.symm e)] at hj
      rw [List.getElem?_set_ne (Ne.symm e)]
      exact en.rb j T hj
  rr := fun r hr => by
    obtain ⟨h1, h2, h3⟩ := en.rr r hr
    refine ⟨h1, h2, fun j hj => ?_⟩
    by_cases e : j = i
    · subst e
      rw [put_same] at hj
      exact hR r hr hj
    · rw [put_ne e] at hj
      exact h3 j hj
  fr := en.fr
  tps := en.tps
/-- data is stored -/
theorem En.putF (en : En B Γ σ H fp) {i : Nat} {v : V} {d : PyData} (hi : i < Γ.length) (h : Fz K H v d) : En B (Γ.set i (.sl (fz K d))) (σ.set i (some v)) H (WL.put fp i []) :=
  en.put hi ⟨rfl, h⟩ (fun a z => absurd z (by simp)) (fun a z => absurd z (by simp)) (fun _ a z => absurd z (by simp)) fun r _ z => absurd z (by simp)
/-- a new thing is stored; H0: where it was new -/
theorem En.putN (en : En B Γ σ H fp) {i : Nat} {S : Sl} {v : V} {q : List Addr} {H0 : Hp} (hi : i < Γ.length) (ho : S.own H v q) (en0 : En B Γ σ H0 fp) (hf : ∀ a ∈ q, H0 a = none) : En B (Γ.set i (.sl S)) (σ.set i (some v)) H (WL.put fp i q) := by
  refine en.put hi ho (fun a ha j hj => ?_) (fun a ha => en0.tps.new (hf a ha)) (fun _ a ha => ?_) fun r hr ha => ?_
  · obtain ⟨S', hS⟩ := en0.lt hj
    obtain ⟨v', _, ho'⟩ := en0.sl j S' hS
    obtain ⟨o, e, _⟩ := S'.dom ho' hj
    rw [hf a ha] at e; cases e
  · left
    cases e : B.H a with
    | none => rfl
    | some o =>
      obtain ⟨o', e', _⟩ := en0.fr a o e
      rw [hf a ha] at e'; cases e'
  · exact rd_new (en0.rr r hr).1 (hf _ ha)
/-- a name is forgotten; x: whatever the slot holds now -/
theorem En.drop (en : En B Γ σ H fp) (i : Nat) (x : Option V) : En B (Γ.set i .un) (σ.set i x) H (WL.put fp i []) where
  len := by rw [List.length_set, List.length_set]; exact en.len
  sl := fun j S' hj => by
    by_cases e : j = i
    · subst e
      by_cases hl : j < Γ.length
      · rw [List.getElem?_set_self hl] at hj
        cases hj
      · rw [List.getElem?_eq_none (by rw [List.length_set]; omega)] at hj
        cases hj
    · rw [List.getElem?_set_ne (Ne.symm e)] at hj
      rw [put_ne e, List.getElem?_set_ne (Ne.symm e)]
      exact en.sl j S' hj
  tp := fun j T hj => by
    by_cases e : j = i
    · subst e
      by_cases hl : j < Γ.length
      · rw [List.getElem?_set_self hl] at hj
        cases hj
      · rw [List.getElem?_eq_none (by rw [List.length_set]; omega)] at hj
        cases hj
    · rw [List.getElem?_set_ne (Ne.symm e)] at hj
      rw [List.getElem?_set_ne (Ne.symm e)]
      exact en.tp j T hj
  off := fun j hj => by
    by_cases e : j = i
    · subst e
      exact put_same j []
    · rw [put_ne e]
      exact en.off j fun S' z => hj S' (by rw [List.getElem?_set_ne (Ne.symm e)]; exact z)
  dis := fun j k a hj hk => by
    by_cases e : j = i
    · subst e
      rw [put_same] at hj
      cases hj
    · rw [put_ne e] at hj
      by_cases e2 : k = i
      · subst e2
        rw [put_same] at hk
        cases hk
      · rw [put_ne e2] at hk
        exact en.dis j k a hj hk
  nt := fun j a hj => by
    by_cases e : j = i
    · subst e
      rw [put_same] at hj
      cases hj
    · rw [put_ne e] at hj
      exact en.nt j a hj
  new := fun j a S' hj hr ha => by
    by_cases e : j = i
    · subst e
      rw [put_same] at ha
      cases ha
    · rw [List.getElem?_set_ne (Ne.symm e)] at hj
      rw [put_ne e] at ha
      exact en.new j a S' hj hr ha
  rd := fun j K' ds hj => by
    by_cases e : j = i
    · subst e
      by_cases hl : j < Γ.length
      · rw [List.getElem?_set_self hl] at hj
        cases hj
      · rw [List.getElem?_eq_none (by rw [List.length_set]; omega)] at hj
        cases hj
    · rw [List.getElem?_set_ne (Ne.symm e)] at hj
      rw [List.getElem?_set_ne (Ne.symm e)]
      exact en.rd j K' ds hj
  rb := fun j T hj => by
    by_cases e : j = i
    · subst e
      by_cases hl : j < Γ.length
      · rw [List.getElem?_set_self hl] at hj
        cases hj
      · rw [List.getElem?_eq_none (by rw [List.length_set]; omega)] at hj
        cases hj
    · rw [List.getElem?_set_ne (Ne.symm e)] at hj
      rw [List.getElem?_set_ne (Ne.symm e)]
      exact en.rb j T hj
  rr := fun r hr => by
    obtain ⟨h1, h2, h3⟩ := en.rr r hr
    refine ⟨h1, h2, fun j hj => ?_⟩
    by_cases e : j = i
    · subst e
      rw [put_same] at hj
      cases hj
    · rw [put_ne e] at hj
      exact h3 j hj
  fr := en.fr
  tps := en.tps
/-- a name is forgotten, its slot as it is -/
theorem set_id : ∀ (l : List (Option V)) (i : Nat) (x : Option V), l[i]? = some x → l.set i x = l
  | [], _, _, h => by simp at h
  | _ :: _, 0, _, h => by
    simp at h
    rw [h]
    rfl
  | a :: l, i + 1, x, h => by
    rw [List.set_cons_succ, set_id l i x (by simpa using h)]
theorem set_out {α : Type} : ∀ (l : List α) (i : Nat) (x : α), l.length ≤ i → l.set i x = l
  | [], _, _, _ => rfl
  | _ :: _, 0, _, h => by simp at h
  | a :: l, i + 1, x, h => by
    rw [List.set_cons_succ, set_out l i x (by simpa using h)]
theorem En.forget (en : En B Γ σ H fp) (i : Nat) : En B (Γ.set i .un) σ H (WL.put fp i []) := by
  cases e : σ[i]? with
  | none =>
    have hl : σ.length ≤ i := List.getElem?_eq_none_iff.mp e
    have h := en.drop i none
    rw [set_out σ i none hl] at h
    exact h
  | some x =>
    have h := en.drop i x
    rw [set_id σ i x e] at h
    exact h
/-- a list that is one's own is changed -/
theorem En.mut (en : En B Γ σ H fp) {i : Nat} {S S' : Sl} {v : V} {p : Addr} {o : HO} (hS : Γ[i]? = some (.sl S)) (hr : S.ro = false) (hv : σ[i]? = some (some v)) (hp : p ∈ fp i) (hl : ∀ q, q ∈ fp i → q = p) (ho : still o = false) (h : S'.own (upd H p o) v (fp i)) :
    En B (Γ.set i (.sl S')) σ (upd H p o) fp := by
  have hi : i < Γ.length := (List.getElem?_eq_some_iff.mp hS).1
  obtain ⟨v', hv', ho'⟩ := en.sl i S hS
  obtain ⟨o1, e1, st1⟩ := S.dom ho' hp
  refine ⟨by rw [List.length_set]; exact en.len, fun j T hj => ?_, fun j T hj => ?_, fun j hj => ?_, en.dis, en.nt, fun j a T hj hro ha => ?_, fun j K' ds hj => ?_, fun j T hj => ?_, fun r hr2 => ?_, fun a o' e => ?_, fun t ht => ?_⟩
  · by_cases e : j = i
    · subst e
      rw [List.getElem?_set_self hi] at hj
      cases hj
      exact ⟨v, hv, h⟩
    · rw [List.getElem?_set_ne (Ne.symm e)] at hj
      obtain ⟨u, hu, hT⟩ := en.sl j T hj
      refine ⟨u, hu, T.keep hT fun a ob ea z => ?_⟩
      have : a ≠ p := by
        rintro rfl
        rcases z with z | z
        · exact e (en.dis j i a z hp)
        · rw [e1] at ea
          cases ea
          rw [st1] at z; cases z
      rw [upd_ne this]
      exact ea
  · by_cases e : j = i
    · subst e
      rw [List.getElem?_set_self hi] at hj
      cases hj
    · rw [List.getElem?_set_ne (Ne.symm e)] at hj
      exact en.tp j T hj
  · by_cases e : j = i
    · subst e
      exact absurd (List.getElem?_set_self hi) (hj S')
    · exact en.off j fun S'' z => hj S'' (by rw [List.getElem?_set_ne (Ne.symm e)]; exact z)
  · by_cases e : j = i
    · subst e
      exact en.new j a S hS hr ha
    · rw [List.getElem?_set_ne (Ne.symm e)] at hj
      exact en.new j a T hj hro ha
  · by_cases e : j = i
    · subst e
      rw [List.getElem?_set_self hi] at hj
      cases hj
    · rw [List.getElem?_set_ne (Ne.symm e)] at hj
      obtain ⟨r, us, h1, h2, h3⟩ := en.rd j K' ds hj
      refine ⟨r, us, h1, h2, h3.stay fun a ob ea z => ?_⟩
      have : a ≠ p := by
        rintro rfl
        rw [e1] at ea
        cases ea
        rw [st1] at z; cases z
      rw [upd_ne this]
      exact ea
  · by_cases e : j = i
    · subst e
      rw [List.getElem?_set_self hi] at hj
      cases hj
    · rw [List.getElem?_set_ne (Ne.symm e)] at hj
      obtain ⟨u, fq, hu, hT, hR⟩ := en.rb j T hj
      refine ⟨u, fq, hu, T.keep hT fun a ob ea z => ?_, hR⟩
      have : a ≠ p := by
        rintro rfl
        rcases z with z | z
        · obtain ⟨o', hm⟩ := hR a z
          exact (en.rr _ hm).2.2 i hp
        · rw [e1] at ea
          cases ea
          rw [st1] at z; cases z
      rw [upd_ne this]
      exact ea
  · obtain ⟨h1, h2, h3⟩ := en.rr r hr2
    have : r.1 ≠ p := fun z => h3 i (z ▸ hp)
    exact ⟨rd_upd this h1, h2, h3⟩
  · obtain ⟨o2, e2, k1, k2⟩ := en.fr a o' e
    by_cases z : a = p
    · subst z
      refine ⟨o, upd_same, fun n1 _ => ?_, fun z => ?_⟩
      · rcases en.new i a S hS hr hp with q | q
        · rw [e] at q; cases q
        · exact absurd q n1
      · have e5 := k2 z
        subst e5
        rw [e1] at e2
        cases e2
        rw [st1] at z; cases z
    · exact ⟨o2, by rw [upd_ne z]; exact e2, k1, k2⟩
  · have hoff := en.nt i p hp t ht
    refine t.1.keep (en.tps t ht) fun a ob ea z => ?_
    have : a ≠ p := by
      rintro rfl
      rcases z with z | z
      · exact hoff z
      · rw [e1] at ea
        cases ea
        rw [st1] at z; cases z
    rw [upd_ne this]
    exact ea
end
/-! ### what is walked -/
theorem le_beta {a b i : Nat} (h : a = b) (hi : b ≤ i) : a ≤ i := h ▸ hi
theorem lt_beta {a b i : Nat} (h : a = b) (hi : i < b) : i < a := h ▸ hi
theorem wipe_get : ∀ (l : List Nat) (τ : List (Option V)) (j : Nat), (wipe τ l)[j]? = if j ∈ l then (τ[j]?).map (fun _ => none) else τ[j]?
  | [], τ, j => by simp [wipe]
  | v :: l, τ, j => by
    show ((wipe τ l).set v none)[j]? = _
    rw [List.getElem?_set]
    by_cases ev : v = j
    · subst ev
      rw [if_pos rfl, if_pos List.mem_cons_self, wipe_length]
      by_cases hl : v < τ.length
      · rw [if_pos hl, List.getElem?_eq_getElem hl]
        rfl
      · rw [if_neg hl, List.getElem?_eq_none (by omega)]
        rfl
    · rw [if_neg ev, wipe_get l τ j]
      have : (j ∈ v :: l) ↔ j ∈ l := by
        rw [List.mem_cons]
        exact ⟨fun z => z.resolve_left (fun q => ev q.symm), .inr⟩
      simp only [this]
theorem wipe_idem (l : List Nat) (τ : List (Option V)) : wipe (wipe τ l) l = wipe τ l := by
  refine List.ext_getElem? fun j => ?_
  rw [wipe_get, wipe_get]
  split
  · rw [Option.map_map]
    rfl
  · rfl
structure ItOk (K : PySem.W.Frag) (B : Bs) (J : It) (H1 : Hp) (ds : List PyData) (sup : List Addr) : Prop where
  sp : ∀ a ∈ sup, B.off a ∧ ∃ o, H1 a = some o
  go : ∀ (i : Nat) (H : Hp), (∀ a o, H1 a = some o → (a ∈ sup ∨ still o = true) → H a = some o) → i < ds.length → J.go i H ∧ ∀ x H', J.yld i H x H' → (∀ a o, H a = some o → H' a = some o) ∧ ∃ d, ds[i]? = some d ∧ Fz K H' x d
  stop : ∀ (i : Nat) (H : Hp), (∀ a o, H1 a = some o → (a ∈ sup ∨ still o = true) → H a = some o) → ds.length ≤ i → J.stop i H
/-- own: slots whose lists are walked -/
def ItG (C : Cn) [Tbs C.K] (Γ : List Ety) {α : Type} (wi : TI) (w : Wp α) (ds : α → List PyData) (own : Nat → Bool) : Prop := ∀ (P : α → Prop) (X : Xn → Prop), w P X → ∀ B σ H fp, En B Γ σ H fp → Exok C B X →
  ∀ R : It → Hp → Prop, (∀ r J H' sup, P r → Stp B H H' → ItOk C.K B J H' (ds r) sup → (∀ a ∈ sup, H a = none ∨ (∃ i, own i = true ∧ a ∈ fp i) ∨ ∃ r, r ∈ B.R ∧ r.1 = a) → R J H') → wi σ H R
section
variable {C : Cn} [Tbs C.K] {Γ : List Ety} {α β γ : Type}
theorem ItG.is {wi : TI} {w w' : Wp α} {ds : α → List PyData} {own : Nat → Bool} (h : ItG C Γ wi w ds own) (e : w = w') : ItG C Γ wi w' ds own := e ▸ h
def noOwn : Nat → Bool := fun _ => false
def ownOf (i : Nat) : Nat → Bool := fun j => decide (j = i)
/-- a tuple -/
theorem it_tup {te : TE} {w : Wp (List α)} {e : α → PyData} (h : EvG C Γ te w (fun r => RF C.K (eT e r))) : ItG C Γ (iTup C.K te) w (fun r => r.map e) noOwn := fun P X hw B σ H fp en ex R q => by
  refine h P X hw B σ H fp en ex _ fun r v H1 hp s hr => ?_
  obtain ⟨a, vs, rfl, hs, hz⟩ := Fz.tup_inv hr
  have hlen := hz.length
  refine ⟨a, rfl, ⟨_, hs⟩, q r _ H1 [] hp s ⟨fun a h => absurd h (by simp), fun i H2 st hi => ?_, fun i H2 st hi => ⟨vs, sqT_stay (fun a o e z => st a o e (.inr z)) hs, le_beta hlen hi⟩⟩ fun a h => absurd h (by simp)⟩
  have stay : Stay H1 H2 := fun a o e z => st a o e (.inr z)
  have hs2 := sqT_stay stay hs
  have hi2 : i < vs.length := lt_beta hlen hi
  refine ⟨⟨vs, vs[i], hs2, List.getElem?_eq_getElem hi2⟩, fun x H3 hy => ?_⟩
  obtain ⟨rfl, hx⟩ := hy
  obtain ⟨d, hd, hf⟩ := (hz.stay stay).getV (hx vs hs2)
  exact ⟨fun _ _ e => e, d, hd, hf⟩
/-- a list read by name (slot i), or new -/
theorem it_list {te : TE} {w : Wp (List α)} {e : α → PyData} (h : EvG C Γ te w (fun r => RN (ls C.K (r.map e)))) : ItG C Γ (iList C.K te) w (fun r => r.map e) noOwn := fun P X hw B σ H fp en ex R q => by
  refine h P X hw B σ H fp en ex _ fun r v H1 hp s hr => ?_
  obtain ⟨fq, ⟨p, vs, rfl, e2, hs, hz⟩, hf⟩ := hr
  have hlen := hz.length
  have hfp : H p = none := hf p (by rw [e2]; exact List.mem_singleton.mpr rfl)
  refine ⟨p, rfl, ⟨vs, .inl (.inl hs)⟩, q r _ H1 [p] hp s ⟨fun a h => ?_, fun i H2 st hi => ?_, fun i H2 st hi => ⟨vs, .inl (.inl (st p _ hs (.inl (by simp)))), le_beta hlen hi⟩⟩ fun a h => ?_⟩
  · rw [List.mem_singleton.mp h]
    exact ⟨en.tps.new hfp, _, hs⟩
  · have stay : Stay H1 H2 := fun a o e z => st a o e (.inr z)
    have hs2 : SqL C.K H2 p vs := .inl (.inl (st p _ hs (.inl (by simp))))
    have hi2 : i < vs.length := lt_beta hlen hi
    refine ⟨⟨vs, vs[i], hs2, List.getElem?_eq_getElem hi2⟩, fun x H3 hy => ?_⟩
    obtain ⟨rfl, hx⟩ := hy
    obtain ⟨d, hd, hf⟩ := (hz.stay stay).getV (hx vs hs2)
    exact ⟨fun _ _ e => e, d, hd, hf⟩
  · rw [List.mem_singleton.mp h]
    exact .inl hfp
theorem it_var {i : Nat} {e : α → PyData} (xs : List α) (h : Γ[i]? = some (.sl (ls C.K (xs.map e)))) : ItG C Γ (iList C.K (tVar i)) (ret xs) (fun r => r.map e) (ownOf i) := fun P X hw B σ H fp en ex R q => by
  obtain ⟨v, hv, p, vs, rfl, e2, hp, hz⟩ := en.sl i _ h
  have hlen := hz.length
  have hm : p ∈ fp i := by rw [e2]; exact List.mem_singleton.mpr rfl
  refine ⟨_, hv, p, rfl, ⟨vs, .inl (.inl hp)⟩, q xs _ H [p] hw (.refl en.tps) ⟨fun a h => ?_, fun i H2 st hi => ?_, fun i H2 st hi => ⟨vs, .inl (.inl (st p _ hp (.inl (by simp)))), le_beta hlen hi⟩⟩ fun a h => ?_⟩
  · rw [List.mem_singleton.mp h]
    exact ⟨en.nt i p hm, _, hp⟩
  · have stay : Stay H H2 := fun a o e z => st a o e (.inr z)
    have hs2 : SqL C.K H2 p vs := .inl (.inl (st p _ hp (.inl (by simp))))
    have hi2 : i < vs.length := lt_beta hlen hi
    refine ⟨⟨vs, vs[i], hs2, List.getElem?_eq_getElem hi2⟩, fun x H3 hy => ?_⟩
    obtain ⟨rfl, hx⟩ := hy
    obtain ⟨d, hd, hf⟩ := (hz.stay stay).getV (hx vs hs2)
    exact ⟨fun _ _ e => e, d, hd, hf⟩
  · rw [List.mem_singleton.mp h]
    exact .inr (.inl ⟨i, by unfold ownOf; simp, hm⟩)
/-- lo, lo + 1, .. -/
def span (lo : Int) (n : Nat) : List Int := (List.range n).map fun k => lo + (k : Nat)
theorem span_length (lo : Int) (n : Nat) : (span lo n).length = n := by unfold span; rw [List.length_map, List.length_range]
theorem itr_ok {B : Bs} {H1 : Hp} {lo : Int} {n : Nat} : ItOk C.K B (Itr lo n) H1 ((span lo n).map eI) [] := by
  refine ⟨fun a h => absurd h (by simp), fun i H2 st hi => ?_, fun i H2 st hi => ?_⟩
  · rw [List.length_map, span_length] at hi
    refine ⟨hi, fun x H3 hy => ?_⟩
    obtain ⟨rfl, rfl⟩ := hy
    refine ⟨fun _ _ e => e, _, ?_, .int _⟩
    unfold span
    rw [List.map_map, List.getElem?_map, List.getElem?_range hi]
    rfl
  · rw [List.length_map, span_length] at hi
    exact hi
def Rng (i : Int) : Prop := -(2 ^ 62) ≤ i ∧ i < 2 ^ 62
theorem it_range1 {te : TE} {w : Wp Int} (h : EvG C Γ te w (fun r => RF C.K (eI r))) : ItG C Γ (iRng1 (tCons te tNil)) (bnd w fun j => grd (Rng j) (ret (span 0 j.toNat))) (fun r => r.map eI) noOwn := fun P X hw B σ H fp en ex R q =>
  h _ X hw B σ H fp en ex _ fun j v H1 hp s hr => by
    have e1 := Fz.int_inv (n := j) hr
    subst e1
    exact ⟨j, rfl, hp.1.1, hp.1.2, q _ _ H1 [] hp.2 s itr_ok fun a h => absurd h (by simp)⟩
theorem it_range2 {ta tb : TE} {w w' : Wp Int} (h : EvG C Γ ta w (fun r => RF C.K (eI r))) (h' : EvG C Γ tb w' (fun r => RF C.K (eI r))) :
    ItG C Γ (iRng2 (tCons ta (tCons tb tNil))) (bnd w fun i => bnd w' fun j => grd (Rng i ∧ Rng j) (ret (span i (j - i).toNat))) (fun r => r.map eI) noOwn := fun P X hw B σ H fp en ex R q =>
  h _ X hw B σ H fp en ex _ fun i v H1 hp s hr => h' _ X hp B σ H1 fp (en.step s) ex _ fun j u H2 hp2 s2 hr2 => by
    have e1 := Fz.int_inv (n := i) hr
    have e2 := Fz.int_inv (n := j) hr2
    subst e1
    subst e2
    exact ⟨i, j, rfl, ⟨hp2.1.1.1, hp2.1.1.2, hp2.1.2.1, hp2.1.2.2⟩, q _ _ H2 [] hp2.2 (s.trans s2) itr_ok fun a h => absurd h (by simp)⟩
/-! ### comprehensions -/
/-- nothing is raised -/
def noX (m : Wp α) : Wp α := fun P _ => m P fun _ => False
def lcW (c : α → Wp Bool) (f : α → Wp β) : List α → Wp (List β)
  | [] => ret []
  | x :: xs => bnd (c x) fun b => sel b (bnd (f x) fun y => bnd (lcW c f xs) fun ys => ret (y :: ys)) (lcW c f xs)
def lcG (c : α → Wp Bool) (f : α → Wp β) (xs : List α) : Wp (List β) := grd (xs.length ≤ 16777216) (noX (lcW c f xs))
abbrev Cn.nox (C : Cn) : Cn := { C with E := fun _ _ _ => False }
theorem exok_no {C : Cn} [Tbs C.K] {B : Bs} (h : tbOf C.K B.T) : Exok C B (fun _ => False) := ⟨h, fun _ _ _ _ h => h.elim⟩
/-- the tape apart, all objects of H1 stand in H -/
theorem lc_list_room (n : Nat) (h : n < 16777216) : n < sizeLine := Nat.lt_of_lt_of_le h (by decide)
/-- the block's target: data x comes in -/
structure TgG (K : PySem.W.Frag) (Γ : List Ety) (g : TG) (vs : List Nat) (d : PyData) (Γ' : List Ety) : Prop where
  run : ∀ B σ H fp v, En B Γ σ H fp → Fz K H v d → ∀ Q : List (Option V) → Hp → Prop, (∀ σ' fp', En B Γ' σ' H fp' → wipe σ' vs = wipe σ vs → (∀ a i, a ∈ fp' i → ∃ j, a ∈ fp j) → Q σ' H) → g v σ H Q
theorem wipe1 (σ : List (Option V)) (i : Nat) (x : Option V) : wipe (σ.set i x) [i] = wipe σ [i] := by
  show (σ.set i x).set i none = σ.set i none
  rw [List.set_set]
theorem tg_name {K : PySem.W.Frag} {i : Nat} {d : PyData} (hi : i < Γ.length) : TgG K Γ (gName i) [i] d (Γ.set i (.sl (fz K d))) := ⟨fun B σ H fp v en hz Q q => q _ _ (en.putF hi hz) (wipe1 σ i _) fun a j h => by
  by_cases e : j = i
  · subst e
    rw [put_same] at h; cases h
  · rw [put_ne e] at h
    exact ⟨j, h⟩⟩
/-- the block's slots forgotten -/
def unA (Γ : List Ety) : List Nat → List Ety
  | [] => Γ
  | v :: vs => (unA Γ vs).set v .un
theorem En.wiped {B : Bs} {σ : List (Option V)} {H : Hp} {fp : Nat → List Addr} (en : En B Γ σ H fp) : ∀ vs : List Nat, ∃ fp', En B (unA Γ vs) (wipe σ vs) H fp' ∧ ∀ a i, a ∈ fp' i → a ∈ fp i
  | [] => ⟨fp, en, fun _ _ h => h⟩
  | v :: vs => by
    obtain ⟨fp', en', h⟩ := En.wiped en vs
    refine ⟨_, en'.drop v none, fun a i ha => ?_⟩
    by_cases e : i = v
    · subst e
      rw [put_same] at ha; cases ha
    · rw [put_ne e] at ha
      exact h a i ha
/-- an object that nobody of the names owns is changed -/
theorem En.side {B : Bs} {σ : List (Option V)} {H : Hp} {fp : Nat → List Addr} (en : En B Γ σ H fp) {D : Addr} {o o' : HO} (hD : H D = some o) (ho : still o = false) (hn : ∀ i, D ∉ fp i) (ht : B.off D) (hb : B.H D = none) (hR : ∀ r ∈ B.R, r.1 ≠ D) : En B Γ σ (upd H D o') fp where
  len := en.len
  sl := fun i S hS => by
    obtain ⟨v, hv, h⟩ := en.sl i S hS
    refine ⟨v, hv, S.keep h fun a ob e z => ?_⟩
    have : a ≠ D := by
      rintro rfl
      rcases z with z | z
      · exact hn i z
      · rw [hD] at e
        cases e
        rw [ho] at z; cases z
    rw [upd_ne this]
    exact e
  tp := en.tp
  off := en.off
  dis := en.dis
  nt := en.nt
  new := en.new
  rd := fun j K' ds hj => by
    obtain ⟨r, us, h1, h2, h3⟩ := en.rd j K' ds hj
    refine ⟨r, us, h1, h2, h3.stay fun a ob ea z => ?_⟩
    have : a ≠ D := by
      rintro rfl
      rw [hD] at ea
      cases ea
      rw [ho] at z; cases z
    rw [upd_ne this]
    exact ea
  rb := fun j T hj => by
    obtain ⟨u, fq, hu, hT, hq⟩ := en.rb j T hj
    refine ⟨u, fq, hu, T.keep hT fun a ob ea z => ?_, hq⟩
    have : a ≠ D := by
      rintro rfl
      rcases z with z | z
      · obtain ⟨o', hm⟩ := hq a z
        exact hR _ hm rfl
      · rw [hD] at ea
        cases ea
        rw [ho] at z; cases z
    rw [upd_ne this]
    exact ea
  rr := fun r hr => by
    obtain ⟨h1, h2, h3⟩ := en.rr r hr
    exact ⟨rd_upd (hR r hr) h1, h2, h3⟩
  fr := fun a ob e => by
    obtain ⟨o2, e2, k⟩ := en.fr a ob e
    have : a ≠ D := by
      rintro rfl
      rw [hb] at e; cases e
    exact ⟨o2, by rw [upd_ne this]; exact e2, k⟩
  tps := fun t h => by
    refine t.1.keep (en.tps t h) fun a ob ea z => ?_
    have : a ≠ D := by
      rintro rfl
      rcases z with z | z
      · exact ht t h z
      · rw [hD] at ea
        cases ea
        rw [ho] at z; cases z
    rw [upd_ne this]
    exact ea
theorem ev_lc {wi : TI} {g : TG} {tt : TT} {te : TE} {vs : List Nat} {w : Wp (List α)} {e : α → PyData} {own : Nat → Bool} {c : α → Wp Bool} {f : α → Wp β} {e' : β → PyData} {Γb : α → List Ety} (hi : ItG C Γ wi w (fun r => r.map e) own)
    (hg : ∀ x, TgG C.K (unA Γ vs) g vs (e x) (Γb x)) (ht : ∀ x, EvT C.nox (Γb x) tt (c x)) (hf : ∀ x, EvG C.nox (Γb x) te (f x) (fun r => RF C.K (e' r))) :
    EvG C Γ (tLc wi g tt te vs) (bnd w fun xs => lcG c f xs) (fun r => RN (ls C.K (r.map e'))) := fun P X hw B σ H fp en ex Q q => by
  refine hi _ X hw B σ H fp en ex _ fun xs J H1 sup hp s1 ok hsup => ?_
  obtain ⟨hlen, hp⟩ := hp
  intro D hD
  have hD0 : H D = none := s1.back en.tps hD
  have offD : B.off D := s1.ts.new hD
  have hBD : B.H D = none := by
    cases z : B.H D with
    | none => rfl
    | some o =>
      obtain ⟨o', e', _⟩ := (en.step s1).fr D o z
      rw [hD] at e'; cases e'
  have nD : ∀ i, D ∉ fp i := fun i hm => by
    obtain ⟨S, hS⟩ := en.lt hm
    obtain ⟨v, _, ho⟩ := en.sl i S hS
    obtain ⟨o, eo, _⟩ := S.dom ho hm
    rw [hD0] at eo; cases eo
  have nsup : D ∉ sup := fun hm => by
    obtain ⟨_, o, eo⟩ := ok.sp D hm
    rw [hD] at eo; cases eo
  have hRD : ∀ r ∈ B.R, r.1 ≠ D := fun r hr z => rd_new ((en.step s1).rr r hr).1 (by rw [z]; exact hD)
  obtain ⟨fpw, enw, subw⟩ := (en.step s1).wiped vs
  -- the invariant: what is still to come answers
  refine ⟨fun i m H2 => m = xs.length - i ∧ i ≤ xs.length ∧ (∀ a o, H1 a = some o → B.off a → H2 a = some o) ∧ TpSt B H2 ∧ En B (unA Γ vs) (wipe σ vs) H2 fpw ∧ ∃ (acc : List V) (ys : List β), H2 D = some (.lst acc) ∧ acc.length ≤ i ∧ FzAll C.K H2 acc (ys.map e') ∧
      lcW c f (xs.drop i) (fun zs => P (ys ++ zs)) (fun _ => False), ⟨xs.length, by omega, Nat.zero_le _, fun a o ea _ => ?_, ?_, ?_, [], [], upd_same, Nat.le_refl _, .nil, hp⟩, ?_⟩
  · rw [upd_ne (ne_of_none ea hD)]
    exact ea
  · exact s1.ts.same (upd_keeps hD)
  · exact enw.step (.new s1.ts hD)
  rintro i m H2 ⟨rfl, hi', kp, ts2, en2, acc, ys, hacc, hal, hz, hlc⟩
  have kst : ∀ a o, H1 a = some o → (a ∈ sup ∨ still o = true) → H2 a = some o := fun a o ea z => by
    rcases z with z | z
    · exact kp a o ea (ok.sp a z).1
    · exact kp a o ea (s1.ts.notstill ea z)
  by_cases hlt : i < xs.length
  · obtain ⟨go, yld⟩ := ok.go i H2 kst (by rw [List.length_map]; exact hlt)
    refine .inr ⟨go, fun H' => ∃ m', m' < xs.length - i ∧ (m' = xs.length - (i + 1) ∧ i + 1 ≤ xs.length ∧ (∀ a o, H1 a = some o → B.off a → H' a = some o) ∧ TpSt B H' ∧ En B (unA Γ vs) (wipe σ vs) H' fpw ∧ ∃ (acc : List V) (ys : List β), H' D = some (.lst acc) ∧ acc.length ≤ i + 1 ∧ FzAll C.K H' acc (ys.map e') ∧
      lcW c f (xs.drop (i + 1)) (fun zs => P (ys ++ zs)) (fun _ => False)), fun H' h => h, fun x H3 hy => ?_⟩
    obtain ⟨kp3, d, hd, hx⟩ := yld x H3 hy
    have ed : d = e xs[i] := by
      rw [List.getElem?_map, List.getElem?_eq_getElem hlt] at hd
      exact (Option.some.inj hd).symm
    subst ed
    have s3 : Stp B H2 H3 := .same ts2 kp3
    have en3 := en2.step s3
    refine (hg xs[i]).run B (wipe σ vs) H3 fpw x en3 hx _ fun σ4 fp4 en4 hw4 sub4 => ?_
    have nD4 : ∀ i, D ∉ fp4 i := fun i hm => by
      obtain ⟨j, hj⟩ := sub4 D i hm
      exact nD j (subw D j hj)
    have hdrop : xs.drop i = xs[i] :: xs.drop (i + 1) := List.drop_eq_getElem_cons hlt
    rw [hdrop] at hlc
    refine ⟨?_, ?_⟩
    · refine hw4.trans ?_
      exact wipe_idem vs σ
    refine ht xs[i] _ (fun _ => False) hlc B σ4 H3 fp4 en4 (exok_no ex.tb) _ fun b H5 hb s5 => ?_
    have en5 := en4.step s5
    have s25 := s3.trans s5
    have kp5 : ∀ a o, H1 a = some o → B.off a → H5 a = some o := fun a o ea na => s25.kp a o (kp a o ea na) na
    cases b with
    | true =>
      refine iteT ?_
      refine hf xs[i] _ (fun _ => False) hb B σ4 H5 fp4 en5 (exok_no ex.tb) _ fun y v H6 hy6 s6 r6 => ?_
      have en6 := en5.step s6
      have s26 := s25.trans s6
      have hD6 : H6 D = some (.lst acc) := s26.kp D _ hacc offD
      have hz6 := hz.stay (s26.stay ts2)
      have enw6 : En B (unA Γ vs) (wipe σ vs) H6 fpw := en2.step s26
      have stE : Stay H6 (upd H6 D (.lst (acc ++ [v]))) := fun a o ea z => by
        have : a ≠ D := by
          rintro rfl
          rw [hD6] at ea; cases ea; cases z
        rw [upd_ne this]
        exact ea
      have eny := enw6.side (o' := .lst (acc ++ [v])) hD6 rfl (fun i hm => nD i (subw D i hm)) offD hBD hRD
      refine ⟨acc, hD6, lc_list_room _ (by omega), xs.length - (i + 1), by omega, rfl, hlt, fun a o ea na => ?_, eny.tps, eny, acc ++ [v], ys ++ [y], upd_same, ?_, ?_, ?_⟩
      · have : a ≠ D := by
          rintro rfl
          rw [hD] at ea; cases ea
        rw [upd_ne this]
        exact s6.kp a o (kp5 a o ea na) na
      · rw [List.length_append, List.length_singleton]
        omega
      · rw [List.map_append]
        exact (hz6.stay stE).append (.one (Fz.stay stE r6))
      · have : (fun zs => P (ys ++ [y] ++ zs)) = fun zs => P (ys ++ y :: zs) := by
          funext zs
          rw [List.append_assoc]
          rfl
        rw [this]
        exact hy6
    | false =>
      refine iteF ?_
      exact ⟨xs.length - (i + 1), by omega, rfl, hlt, kp5, s5.ts, en2.step s25, acc, ys, s25.kp D _ hacc offD, by omega, hz.stay (s25.stay ts2), hb⟩
  · have ei : i = xs.length := by omega
    subst ei
    rw [List.drop_length] at hlc
    refine .inl ⟨ok.stop _ H2 kst (by rw [List.length_map]; exact Nat.le_refl _), ?_⟩
    have hP : P (ys ++ []) := hlc
    rw [List.append_nil] at hP
    refine q ys (.ref D) H2 hP ⟨fun a o ea na => kp a o (s1.kp a o ea na) na, ts2⟩ ⟨[D], ⟨D, acc, rfl, rfl, hacc, hz⟩, fun a ha => ?_⟩
    rw [List.mem_singleton.mp ha]
    exact hD0
theorem et_yes : EvT C Γ tYes (ret true) := fun P X hw B σ H fp en ex Q q => q true H hw (.refl en.tps)
end
end WL
/-! WL, part 4: statements. -/
namespace WL
open PySem PySem.Spec PyProof.Rows L2
/-- a def's outcome -/
inductive Oc where
  | fz (d : PyData)
  | nw (S : Sl)
def OcOk (K : PySem.W.Frag) (B : Bs) (H : Hp) : Oc → V → Prop
  | .fz d, v => Fz K H v d
  | .nw S, v => ∃ q, S.own H v q ∧ (∀ a ∈ q, B.H a = none ∨ a ∈ B.O) ∧ ∀ a ∈ q, B.off a
def Fin {F : Type} (C : Cn) [Tbs C.K] (B : Bs) (D : Ends) (res : F → Oc) (P : F → Prop) : Prop := ∀ out v H', P out → Frame B H' → TpSt B H' → OcOk C.K B H' (res out) v → D.rt v H'
abbrev Cont (F : Type) := (F → Prop) → (Xn → Prop) → Bs → List (Option V) → Hp → Prop
section
variable {F : Type}
def SimB (C : Cn) [Tbs C.K] (res : F → Oc) (N Bk Ct : Cont F) (t : TS) (Γ : List Ety) (m : Wp F) : Prop :=
  ∀ (P : F → Prop) (X : Xn → Prop), m P X → ∀ B D, Exok C B X → Fin C B D res P → (∀ σ H, N P X B σ H → D.nx σ H) → (∀ σ H, Bk P X B σ H → D.bk σ H) → (∀ σ H, Ct P X B σ H → D.ct σ H) →
    ∀ σ H fp, En B Γ σ H fp → t D σ H
def Lands (N : Cont F) (Γ : List Ety) (m : Wp F) : Prop := ∀ (P : F → Prop) (X : Xn → Prop) B σ H fp, m P X → En B Γ σ H fp → N P X B σ H
def noC : Cont F := fun _ _ _ _ _ => False
def atC {S : Type} (Γf : S → List Ety) (k : S → Wp F) : Cont F := fun P X B σ H => ∃ s fp, k s P X ∧ En B (Γf s) σ H fp
def intoC (C : Cn) [Tbs C.K] (res : F → Oc) (N Bk Ct : Cont F) (u : TS) : Cont F := fun P X B σ H => ∃ Γ m fp, SimB C res N Bk Ct u Γ m ∧ m P X ∧ En B Γ σ H fp
/-- Γ' knows less -/
def WkG (Γ Γ' : List Ety) : Prop := ∀ B σ H fp, En B Γ σ H fp → ∃ fp', En B Γ' σ H fp' ∧ ∀ (i : Nat) (a : Addr), a ∈ fp' i → a ∈ fp i
def wkF : List Bool → List Ety → List Ety
  | _, [] => []
  | [], Γ => Γ
  | true :: bs, e :: Γ => e :: wkF bs Γ
  | false :: bs, _ :: Γ => .un :: wkF bs Γ
theorem wkF_length : ∀ (bs : List Bool) (Γ : List Ety), (wkF bs Γ).length = Γ.length
  | [], [] => rfl
  | _ :: _, [] => rfl
  | [], _ :: _ => rfl
  | true :: bs, _ :: Γ => by
    show (wkF bs Γ).length + 1 = _
    rw [wkF_length bs Γ]
    rfl
  | false :: bs, _ :: Γ => by
    show (wkF bs Γ).length + 1 = _
    rw [wkF_length bs Γ]
    rfl
theorem wkF_get : ∀ (bs : List Bool) (Γ : List Ety) (i : Nat), (wkF bs Γ)[i]? = Γ[i]? ∨ (wkF bs Γ)[i]? = some .un
  | [], [], i => .inl rfl
  | _ :: _, [], i => .inl rfl
  | [], _ :: _, i => .inl rfl
  | true :: bs, e :: Γ, 0 => .inl rfl
  | true :: bs, e :: Γ, i + 1 => wkF_get bs Γ i
  | false :: bs, e :: Γ, 0 => .inr rfl
  | false :: bs, e :: Γ, i + 1 => wkF_get bs Γ i
/-- fewer claims -/
theorem En.less {B : Bs} {Γ Γ' : List Ety} {σ : List (Option V)} {H : Hp} {fp : Nat → List Addr} (en : En B Γ σ H fp) (hl : Γ'.length = Γ.length) (h : ∀ i : Nat, Γ'[i]? = Γ[i]? ∨ Γ'[i]? = some .un) : ∃ fp', En B Γ' σ H fp' ∧ ∀ (i : Nat) (a : Addr), a ∈ fp' i → a ∈ fp i := by
  classical
  refine ⟨fun i => if Γ'[i]? = some .un then [] else fp i, ⟨by rw [hl]; exact en.len, fun i S hS => ?_, fun i T hS => ?_, fun i hS => ?_, fun i j a hi hj => ?_, fun i a hi => ?_, fun i a S hS hr ha => ?_, fun i K' ds hS => ?_, fun i S hS => ?_, fun r hr => ?_, en.fr, en.tps⟩, fun i a hi => ?_⟩
  · have : ¬ Γ'[i]? = some .un := by rw [hS]; intro z; cases z
    rw [if_neg this]
    rcases h i with e | e
    · rw [e] at hS
      exact en.sl i S hS
    · exact absurd e this
  · rcases h i with e | e
    · rw [e] at hS
      exact en.tp i T hS
    · rw [e] at hS; cases hS
  · by_cases e : Γ'[i]? = some .un
    · rw [if_pos e]
    · rw [if_neg e]
      rcases h i with e' | e'
      · exact en.off i fun S z => hS S (e'.trans z)
      · exact absurd e' e
  · by_cases e : Γ'[i]? = some .un
    · rw [if_pos e] at hi; cases hi
    · rw [if_neg e] at hi
      by_cases e2 : Γ'[j]? = some .un
      · rw [if_pos e2] at hj; cases hj
      · rw [if_neg e2] at hj
        exact en.dis i j a hi hj
  · by_cases e : Γ'[i]? = some .un
    · rw [if_pos e] at hi; cases hi
    · rw [if_neg e] at hi
      exact en.nt i a hi
  · have : ¬ Γ'[i]? = some .un := by rw [hS]; intro z; cases z
    rw [if_neg this] at ha
    rcases h i with e | e
    · rw [e] at hS
      exact en.new i a S hS hr ha
    · exact absurd e this
  · rcases h i with e | e
    · rw [e] at hS
      exact en.rd i K' ds hS
    · rw [e] at hS; cases hS
  · rcases h i with e | e
    · rw [e] at hS
      exact en.rb i S hS
    · rw [e] at hS; cases hS
  · obtain ⟨h1, h2, h3⟩ := en.rr r hr
    refine ⟨h1, h2, fun i hi => ?_⟩
    by_cases e : Γ'[i]? = some .un
    · rw [if_pos e] at hi; cases hi
    · rw [if_neg e] at hi
      exact h3 i hi
  · by_cases e : Γ'[i]? = some .un
    · have hi : a ∈ (if Γ'[i]? = some .un then [] else fp i) := hi
      rw [if_pos e] at hi; cases hi
    · have hi : a ∈ (if Γ'[i]? = some .un then [] else fp i) := hi
      rw [if_neg e] at hi
      exact hi
theorem wk_mask (bs : List Bool) (Γ : List Ety) : WkG Γ (wkF bs Γ) := fun B σ H fp en => en.less (wkF_length bs Γ) (wkF_get bs Γ)
theorem WkG.trans {Γ Γ' Γ'' : List Ety} (a : WkG Γ Γ') (b : WkG Γ' Γ'') : WkG Γ Γ'' := fun B σ H fp en => by
  obtain ⟨fp', en', s1⟩ := a B σ H fp en
  obtain ⟨fp'', en'', s2⟩ := b B σ H fp' en'
  exact ⟨fp'', en'', fun i x h => s1 i x (s2 i x h)⟩
variable {C : Cn} [Tbs C.K] {res : F → Oc} {N Bk Ct : Cont F} {Γ Γ' : List Ety} {t u : TS} {m : Wp F} {α β γ S : Type}
theorem Lands.wk (h : Lands N Γ' m) (w : WkG Γ Γ') : Lands N Γ m := fun P X B σ H fp hm en => by
  obtain ⟨fp', en', _⟩ := w B σ H fp en
  exact h P X B σ H fp' hm en'
theorem Lands.is {m' : Wp F} (h : Lands N Γ m) (e : m = m') : Lands N Γ m' := e ▸ h
theorem SimB.wk (h : SimB C res N Bk Ct t Γ' m) (w : WkG Γ Γ') : SimB C res N Bk Ct t Γ m := fun P X hm B D ex f n b c σ H fp en => by
  obtain ⟨fp', en', _⟩ := w B σ H fp en
  exact h P X hm B D ex f n b c σ H fp' en'
theorem SimB.is {m' : Wp F} (h : SimB C res N Bk Ct t Γ m) (e : m = m') : SimB C res N Bk Ct t Γ m' := e ▸ h
theorem la_at {Γf : S → List Ety} {k : S → Wp F} (s : S) : Lands (atC Γf k) (Γf s) (k s) := fun P X B σ H fp hm en => ⟨s, fp, hm, en⟩
theorem la_in (h : SimB C res N Bk Ct u Γ m) : Lands (intoC C res N Bk Ct u) Γ m := fun P X B σ H fp hm en => ⟨Γ, m, fp, h, hm, en⟩
theorem sb_seq (h : SimB C res (intoC C res N Bk Ct u) Bk Ct t Γ m) : SimB C res N Bk Ct (tSeq t u) Γ m := fun P X hm B D ex f n b c σ H fp en =>
  h P X hm B { D with nx := u D } ex f (fun σ' H' ⟨Γ', m', fp', hs, hm', en'⟩ => hs P X hm' B D ex f n b c σ' H' fp' en') b c σ H fp en
/-- behind t the rest is written once -/
theorem sb_join {Γf : S → List Ety} {k : S → Wp F} (h : SimB C res (atC Γf k) Bk Ct t Γ m) (hu : ∀ s, SimB C res N Bk Ct u (Γf s) (k s)) : SimB C res N Bk Ct (tSeq t u) Γ m := fun P X hm B D ex f n b c σ H fp en =>
  h P X hm B { D with nx := u D } ex f (fun σ' H' ⟨s, fp', hm', en'⟩ => hu s P X hm' B D ex f n b c σ' H' fp' en') b c σ H fp en
theorem sb_next (h : Lands N Γ m) : SimB C res N Bk Ct tNext Γ m := fun P X hm B D ex f n b c σ H fp en => n σ H (h P X B σ H fp hm en)
theorem sb_ret {te : TE} {w : Wp α} {e : α → PyData} {g : α → F} (h : EvG C Γ te w (fun r => RF C.K (e r))) (hr : ∀ r, res (g r) = .fz (e r)) : SimB C res N Bk Ct (tRet te) Γ (bnd w fun r => ret (g r)) := fun P X hm B D ex f n b c σ H fp en =>
  h _ X hm B σ H fp en ex _ fun r v H' hp s hv => f (g r) v H' hp (en.step s).fr s.ts (by rw [hr]; exact hv)
theorem sb_retS {te : TE} {w : Wp α} {S : α → Sl} {g : α → F} (h : EvG C Γ te w (fun r => RN (S r))) (hr : ∀ r, res (g r) = .nw (S r)) : SimB C res N Bk Ct (tRet te) Γ (bnd w fun r => ret (g r)) := fun P X hm B D ex f n b c σ H fp en =>
  h _ X hm B σ H fp en ex _ fun r v H' hp s ⟨q, ho, hn⟩ => f (g r) v H' hp (en.step s).fr s.ts (by
    rw [hr]
    refine ⟨q, ho, fun a ha => .inl ?_, fun a ha => en.tps.new (hn a ha)⟩
    cases e : B.H a with
    | none => rfl
    | some o =>
      obtain ⟨o', e', _⟩ := en.fr a o e
      rw [hn a ha] at e'; cases e')
theorem sb_retV {i : Nat} {S : Sl} {g : F} (h : Γ[i]? = some (.sl S)) (ro : S.ro = false) (hr : res g = .nw S) : SimB C res N Bk Ct (tRet (tVar i)) Γ (ret g) := fun P X hm B D ex f n b c σ H fp en => by
  obtain ⟨v, hv, ho⟩ := en.sl i S h
  exact ⟨v, hv, f g v H hm en.fr en.tps (by rw [hr]; exact ⟨fp i, ho, fun a ha => en.new i a S h ro ha, fun a ha => en.nt i a ha⟩)⟩
theorem sb_if {tc : TT} {w : Wp Bool} {ma mb : Wp F} {ta tb : TS} (hc : EvT C Γ tc w) (ha : SimB C res N Bk Ct ta Γ ma) (hb : SimB C res N Bk Ct tb Γ mb) : SimB C res N Bk Ct (tIfS tc ta tb) Γ (bnd w fun k => sel k ma mb) := fun P X hm B D ex f n b c σ H fp en =>
  hc _ X hm B σ H fp en ex _ fun k H' hp s => by
    cases k with
    | true => exact iteT (ha P X hp B D ex f n b c σ H' fp (en.step s))
    | false => exact iteF (hb P X hp B D ex f n b c σ H' fp (en.step s))
/-- targets -/
theorem sb_asg {te : TE} {g : TG} {vs : List Nat} {w : Wp α} {e : α → PyData} {Γx : α → List Ety} {k : α → Wp F} (h : EvG C Γ te w (fun r => RF C.K (e r))) (hg : ∀ x, TgG C.K Γ g vs (e x) (Γx x)) (hk : ∀ x, Lands N (Γx x) (k x)) :
    SimB C res N Bk Ct (tAsg te g) Γ (bnd w k) := fun P X hm B D ex f n b c σ H fp en =>
  h _ X hm B σ H fp en ex _ fun r v H' hp s hv => (hg r).run B σ H' fp v (en.step s) hv _ fun σ' fp' en' _ _ => n σ' H' (hk r P X B σ' H' fp' hp en')
/-- x = data -/
theorem sb_set {te : TE} {i : Nat} {w : Wp α} {e : α → PyData} {k : α → Wp F} (h : EvG C Γ te w (fun r => RF C.K (e r))) (hi : i < Γ.length) (hk : ∀ x, Lands N (Γ.set i (.sl (fz C.K (e x)))) (k x)) :
    SimB C res N Bk Ct (tAsg te (gName i)) Γ (bnd w k) := sb_asg (vs := [i]) h (fun x => tg_name hi) hk
/-- x = a new thing -/
theorem sb_setN {te : TE} {i : Nat} {w : Wp α} {S : α → Sl} {k : α → Wp F} (h : EvG C Γ te w (fun r => RN (S r))) (hi : i < Γ.length) (hk : ∀ x, Lands N (Γ.set i (.sl (S x))) (k x)) :
    SimB C res N Bk Ct (tAsg te (gName i)) Γ (bnd w k) := fun P X hm B D ex f n b c σ H fp en =>
  h _ X hm B σ H fp en ex _ fun r v H' hp s ⟨q, ho, hf⟩ => n _ H' (hk r P X B _ H' _ hp ((en.step s).putN hi ho en hf))
/-- the list of one name goes to another: the first is forgotten -/
theorem sb_move {i j : Nat} {S : Sl} (h : Γ[j]? = some (.sl S)) (hi : i < Γ.length) (ro : S.ro = false) (hij : i ≠ j) (hk : Lands N ((Γ.set j .un).set i (.sl S)) m) : SimB C res N Bk Ct (tAsg (tVar j) (gName i)) Γ m := fun P X hm B D ex f n b c σ H fp en => by
  obtain ⟨v, hv, ho⟩ := en.sl j S h
  have en1 := en.forget j
  refine ⟨v, hv, n _ H (hk P X B _ H (put (put fp j []) i (fp j)) hm ?_)⟩
  refine en1.put (by rw [List.length_set]; exact hi) ho (fun a ha k hak => ?_) (fun a ha => en.nt j a ha) (fun _ a ha => en.new j a S h ro ha) fun r hr => (en.rr r hr).2.2 j
  by_cases e : k = j
  · subst e
    rw [put_same] at hak; cases hak
  · rw [put_ne e] at hak
    exact absurd (en.dis k j a hak ha) e
theorem sb_drop {te : TE} {w : Wp α} {R : α → Rk} {k : α → Wp F} (h : EvG C Γ te w R) (hk : ∀ x, Lands N Γ (k x)) : SimB C res N Bk Ct (tDrop te) Γ (bnd w k) := fun P X hm B D ex f n b c σ H fp en =>
  h _ X hm B σ H fp en ex _ fun r v H' hp s _ => n _ H' (hk r P X B σ H' fp hp (en.step s))
/-! ### a list that is one's own -/
theorem En.lst {B : Bs} {σ : List (Option V)} {H : Hp} {fp : Nat → List Addr} {i : Nat} {ds : List PyData} (en : En B Γ σ H fp) (h : Γ[i]? = some (.sl (ls C.K ds))) : ∃ p vs, σ[i]? = some (some (.ref p)) ∧ fp i = [p] ∧ H p = some (.lst vs) ∧ FzAll C.K H vs ds := by
  obtain ⟨v, hv, p, vs, rfl, e2, hp, hz⟩ := en.sl i _ h
  exact ⟨p, vs, hv, e2, hp, hz⟩
/-- its content changes -/
theorem En.relist {B : Bs} {σ : List (Option V)} {H : Hp} {fp : Nat → List Addr} {i : Nat} {ds ds' : List PyData} {p : Addr} {vs vs' : List V} (en : En B Γ σ H fp) (h : Γ[i]? = some (.sl (ls C.K ds))) (hv : σ[i]? = some (some (.ref p))) (hf : fp i = [p]) (hp : H p = some (.lst vs)) (hz : FzAll C.K H vs' ds') :
    En B (Γ.set i (.sl (ls C.K ds'))) σ (upd H p (.lst vs')) fp := by
  refine en.mut h rfl hv (by rw [hf]; exact List.mem_singleton.mpr rfl) (fun q hq => by rw [hf] at hq; exact List.mem_singleton.mp hq) rfl ⟨p, vs', rfl, hf, upd_same, hz.stay fun a o e z => ?_⟩
  have : a ≠ p := by
    rintro rfl
    rw [hp] at e; cases e; cases z
  rw [upd_ne this]
  exact e
theorem sb_append {i : Nat} {te : TE} {e : α → PyData} {xs : List α} {w : Wp α} {k : List α → Wp F} (h : Γ[i]? = some (.sl (ls C.K (xs.map e)))) (he : EvG C Γ te w (fun r => RF C.K (e r))) (hk : ∀ x, Lands N (Γ.set i (.sl (ls C.K ((xs ++ [x]).map e)))) (k (xs ++ [x]))) :
    SimB C res N Bk Ct (tDrop (tBM C.K "list" rAppend (tVar i) (tCons te tNil))) Γ (bnd w fun x => grd (xs.length < 16777216) (k (xs ++ [x]))) := fun P X hm B D ex f n b c σ H fp en => by
  obtain ⟨p, vs, hv, hf, hp, hz⟩ := en.lst h
  refine ⟨_, hv, .inl ⟨rfl, vs, .inl (.inl hp)⟩, he _ X hm B σ H fp en ex _ fun x v H' hpx s hx => ?_⟩
  have en' := en.step s
  obtain ⟨p', vs', hv', hf', hp', hz'⟩ := en'.lst h
  rw [hv] at hv'
  cases hv'
  have hl := hz'.length
  rw [List.length_map] at hl
  refine ⟨p, vs', v, rfl, rfl, hp', by rw [hl]; exact lc_list_room _ hpx.1, n _ _ (hk x P X B σ _ fp hpx.2 (en'.relist h hv hf hp' ?_))⟩
  rw [List.map_append]
  exact hz'.append (.one hx)
theorem sb_extend {i : Nat} {te : TE} {e : α → PyData} {xs : List α} {w : Wp (List α)} {k : List α → Wp F} (h : Γ[i]? = some (.sl (ls C.K (xs.map e)))) (he : EvG C Γ te w (fun r => RN (ls C.K (r.map e)))) (hk : ∀ ys, Lands N (Γ.set i (.sl (ls C.K ((xs ++ ys).map e)))) (k (xs ++ ys))) :
    SimB C res N Bk Ct (tDrop (tBM C.K "list" rExtend (tVar i) (tCons te tNil))) Γ (bnd w fun ys => grd (xs.length + ys.length ≤ 16777216) (k (xs ++ ys))) := fun P X hm B D ex f n b c σ H fp en => by
  obtain ⟨p, vs, hv, hf, hp, hz⟩ := en.lst h
  refine ⟨_, hv, .inl ⟨rfl, vs, .inl (.inl hp)⟩, he _ X hm B σ H fp en ex _ fun ys v H' hpx s hx => ?_⟩
  have en' := en.step s
  obtain ⟨p', vs', hv', hf', hp', hz'⟩ := en'.lst h
  rw [hv] at hv'
  cases hv'
  obtain ⟨q, ⟨b', ws, rfl, e2, hb, hzb⟩, _⟩ := hx
  have hl := hz'.length
  have hl2 := hzb.length
  rw [List.length_map] at hl hl2
  refine ⟨p, b', vs', ws, rfl, rfl, hp', hb, by rw [hl, hl2]; exact hpx.1, n _ _ (hk ys P X B σ _ fp hpx.2 (en'.relist h hv hf hp' ?_))⟩
  rw [List.map_append]
  exact hz'.append hzb
theorem sb_setL {i : Nat} {te ti : TE} {e : α → PyData} {xs : List α} {w : Wp α} {wi : Wp Int} {k : List α → Wp F} (h : Γ[i]? = some (.sl (ls C.K (xs.map e)))) (he : EvG C Γ te w (fun r => RF C.K (e r))) (hi : EvG C Γ ti wi (fun r => RF C.K (eI r)))
    (hk : ∀ (x : α) (j : Nat), Lands N (Γ.set i (.sl (ls C.K ((xs.set j x).map e)))) (k (xs.set j x))) :
    SimB C res N Bk Ct (tAsg te (gSub (tVar i) ti rSetL)) Γ (bnd w fun x => bnd wi fun at' => bnd (opt (ixN xs.length at')) fun j => k (xs.set j x)) := fun P X hm B D ex f n b c σ H fp en => by
  refine he _ X hm B σ H fp en ex _ fun x v H1 h1 s1 hx => ?_
  have en1 := en.step s1
  obtain ⟨p, vs, hv, hf, hp, hz⟩ := en1.lst h
  refine ⟨_, hv, hi _ X h1 B σ H1 fp en1 ex _ fun at' u H2 h2 s2 hu => ?_⟩
  obtain ⟨j, hj, h2⟩ := h2
  have en2 := en1.step s2
  obtain ⟨p', vs', hv', hf', hp', hz'⟩ := en2.lst h
  rw [hv] at hv'
  cases hv'
  have hl := hz'.length
  rw [List.length_map] at hl
  refine ⟨p, vs', at', j, rfl, Fz.int_inv hu, hp', by rw [hl]; exact hj, n _ _ (hk x j P X B σ _ fp h2 (en2.relist h hv hf hp' ?_))⟩
  have := hz'.set j (Fz.stay (s2.stay s1.ts) hx)
  rw [List.map_set]
  exact this
/-! ### loops -/
/-- a further fixed heap -/
structure Reb (B B' : Bs) (H1 : Hp) : Prop where
  h : B'.H = H1
  t : B'.T = B.T
  r : B'.R = B.R
  o : ∀ a ∈ B'.O, B.H a = none ∨ a ∈ B.O
  f : Frame B H1
theorem Reb.off {B B' : Bs} {H1 : Hp} (r : Reb B B' H1) {a : Addr} : B'.off a ↔ B.off a := by
  unfold Bs.off
  rw [r.t]
theorem Reb.none {B B' : Bs} {H1 : Hp} (r : Reb B B' H1) {a : Addr} (h : B'.H a = none ∨ a ∈ B'.O) : B.H a = none ∨ a ∈ B.O := by
  rcases h with h | h
  · rw [r.h] at h
    left
    cases e : B.H a with
    | none => rfl
    | some o =>
      obtain ⟨o', e', _⟩ := r.f a o e
      rw [h] at e'; cases e'
  · exact r.o a h
theorem Reb.frame {B B' : Bs} {H1 H : Hp} (r : Reb B B' H1) (f : Frame B' H) : Frame B H := fun a o e => by
  obtain ⟨o1, e1, k1, k2⟩ := r.f a o e
  obtain ⟨o2, e2, k3, k4⟩ := f a o1 (by rw [r.h]; exact e1)
  refine ⟨o2, e2, fun n1 n2 => ?_, fun z => ?_⟩
  · rw [← k1 n1 n2]
    refine k3 (fun z => ?_) (r.off.mpr n2)
    rcases r.o a z with q | q
    · rw [e] at q; cases q
    · exact n1 q
  · have e5 := k2 z
    subst e5
    exact k4 z
theorem Reb.ts {B B' : Bs} {H1 H : Hp} (r : Reb B B' H1) (f : TpSt B' H) : TpSt B H := fun t ht => f t (by rw [r.t]; exact ht)
theorem Reb.en {B B' : Bs} {H1 H : Hp} {σ : List (Option V)} {fp : Nat → List Addr} (r : Reb B B' H1) (en : En B' Γ σ H fp) : En B Γ σ H fp where
  len := en.len
  sl := en.sl
  tp := fun i S hi => by
    obtain ⟨v, fq, ht, hv⟩ := en.tp i S hi
    exact ⟨v, fq, by rw [← r.t]; exact ht, hv⟩
  off := en.off
  dis := en.dis
  nt := fun i a ha => r.off.mp (en.nt i a ha)
  new := fun i a S hS hr ha => r.none (en.new i a S hS hr ha)
  rd := fun i K' ds hi => by
    have z := en.rd i K' ds hi
    rw [r.r] at z
    exact z
  rb := fun i S hi => by
    have z := en.rb i S hi
    rw [r.r] at z
    exact z
  rr := fun x hx => by
    obtain ⟨h1, h2, h3⟩ := en.rr x (by rw [r.r]; exact hx)
    exact ⟨h1, r.off.mp h2, h3⟩
  fr := r.frame en.fr
  tps := r.ts en.tps
theorem Reb.exok {B B' : Bs} {H1 : Hp} {X : Xn → Prop} (r : Reb B B' H1) (ex : Exok C B X) : Exok C B' X := ⟨by rw [r.t]; exact ex.tb, fun x v d H' hx hf ht hi => ex.ok x v d H' hx (r.frame hf) (r.ts ht) hi⟩
theorem Reb.fin {B B' : Bs} {H1 : Hp} {D : Ends} {P : F → Prop} (r : Reb B B' H1) (f : Fin C B D res P) : Fin C B' D res P := fun out v H' hp hf ht ho => f out v H' hp (r.frame hf) (r.ts ht) (by
  cases e : res out with
  | fz d =>
    rw [e] at ho
    exact ho
  | nw S =>
    rw [e] at ho
    obtain ⟨q, h1, h2, h3⟩ := ho
    exact ⟨q, h1, fun a ha => r.none (h2 a ha), fun a ha => r.off.mp (h3 a ha)⟩)
/-- the objects that the names own and may change -/
def roB (Γ : List Ety) (i : Nat) : Bool := match Γ[i]? with
  | some (.sl S) => S.ro
  | _ => false
def owned (Γ : List Ety) (fp : Nat → List Addr) : List Addr := ((List.range Γ.length).filter fun i => !roB Γ i).flatMap fp
theorem roB_sl {i : Nat} {S : Sl} (h : Γ[i]? = some (.sl S)) : roB Γ i = S.ro := by unfold roB; rw [h]
theorem mem_owned {fp : Nat → List Addr} {a : Addr} : a ∈ owned Γ fp ↔ ∃ i, i < Γ.length ∧ roB Γ i = false ∧ a ∈ fp i := by
  unfold owned
  rw [List.mem_flatMap]
  constructor
  · rintro ⟨i, hi, ha⟩
    obtain ⟨h1, h2⟩ := List.mem_filter.mp hi
    exact ⟨i, List.mem_range.mp h1, by simpa using h2, ha⟩
  · rintro ⟨i, h1, h2, h3⟩
    exact ⟨i, List.mem_filter.mpr ⟨List.mem_range.mpr h1, by simpa using h2⟩, h3⟩
theorem En.rebase {B : Bs} {σ : List (Option V)} {H : Hp} {fp : Nat → List Addr} (en : En B Γ σ H fp) : Reb B ⟨H, owned Γ fp, B.T, B.R⟩ H ∧ En ⟨H, owned Γ fp, B.T, B.R⟩ Γ σ H fp := by
  refine ⟨⟨rfl, rfl, rfl, fun a ha => ?_, en.fr⟩, ⟨en.len, en.sl, en.tp, en.off, en.dis, en.nt, fun i a S hS hr ha => .inr ?_, en.rd, en.rb, en.rr, fun a o e => ⟨o, e, fun _ _ => rfl, fun _ => rfl⟩, en.tps⟩⟩
  · obtain ⟨i, hi, hr, ha⟩ := mem_owned.mp ha
    obtain ⟨S, hS⟩ := en.lt ha
    exact en.new i a S hS (by rw [← roB_sl hS]; exact hr) ha
  · exact mem_owned.mpr ⟨i, (List.getElem?_eq_some_iff.mp hS).1, by rw [roB_sl hS]; exact hr, ha⟩
def forK (body : α → S → (S → Wp F) → (S → Wp F) → Wp F) (exit : S → Wp F) : List α → S → Wp F
  | [], s => exit s
  | x :: xs, s => body x s (fun s' => forK body exit xs s') exit
/-- a loop's turns -/
theorem for_core {g : TG} {tb : TS} {vs : List Nat} {e : α → PyData} {Γh : S → List Ety} {Γb : α → S → List Ety} {body : α → S → (S → Wp F) → (S → Wp F) → Wp F} {exit : S → Wp F} {xs : List α} {s0 : S} {J : It} {sup : List Addr} {B B' : Bs} {H1 : Hp} {σ : List (Option V)}
    {fp1 : Nat → List Addr} {P : F → Prop} {X : Xn → Prop} {D : Ends} (ok : ItOk C.K B J H1 (xs.map e) sup) (reb : Reb B B' H1) (nsup : ∀ a ∈ sup, a ∉ B'.O) (hp : forK body exit xs s0 P X) (en2 : En B' (Γh s0) σ H1 fp1) (ex : Exok C B X) (f : Fin C B D res P)
    (hg : ∀ x s, TgG C.K (Γh s) g vs (e x) (Γb x s)) (hb : ∀ x s kc, SimB C res (atC Γh kc) (atC Γh exit) (atC Γh kc) tb (Γb x s) (body x s kc exit)) (out : ∀ s σ H fp, exit s P X → En B' (Γh s) σ H fp → D.nx σ H) :
    ∃ W : Nat → Nat → L2.St → Hp → Prop, (∃ m, W 0 m σ H1) ∧ ∀ i m σ H, W i m σ H → (J.stop i H ∧ D.nx σ H) ∨ (J.go i H ∧ ∃ N : L2.St → Hp → Prop, (∀ σ' H', N σ' H' → ∃ m', m' < m ∧ W (i + 1) m' σ' H') ∧ ∀ x H', J.yld i H x H' → g x σ H' fun σ2 H2 => tb { D with nx := N, ct := N, bk := D.nx } σ2 H2) := by
  have hB'H : B'.H = H1 := reb.h
  have stand : ∀ H2, Frame B' H2 → ∀ a o, H1 a = some o → (a ∈ sup ∨ still o = true) → H2 a = some o := fun H2 fr a o ea z => by
    obtain ⟨o', e', k1, k2⟩ := fr a o (by rw [hB'H]; exact ea)
    rcases z with z | z
    · rw [k1 (nsup a z) (reb.off.mpr (ok.sp a z).1)] at e'
      exact e'
    · rw [k2 z] at e'
      exact e'
  refine ⟨fun i m' σ2 H2 => m' = xs.length - i ∧ i ≤ xs.length ∧ ∃ s fp2, forK body exit (xs.drop i) s P X ∧ En B' (Γh s) σ2 H2 fp2, ⟨xs.length, by omega, Nat.zero_le _, s0, fp1, hp, en2⟩, ?_⟩
  rintro i m' σ2 H2 ⟨rfl, hi', s, fp2, hk, en3⟩
  by_cases hlt : i < xs.length
  · obtain ⟨go, yld⟩ := ok.go i H2 (stand H2 en3.fr) (by rw [List.length_map]; exact hlt)
    refine .inr ⟨go, fun σ' H' => ∃ m', m' < xs.length - i ∧ (m' = xs.length - (i + 1) ∧ i + 1 ≤ xs.length ∧ ∃ s fp2, forK body exit (xs.drop (i + 1)) s P X ∧ En B' (Γh s) σ' H' fp2), fun σ' H' h => h, fun x H3 hy => ?_⟩
    obtain ⟨kp3, d, hd, hx3⟩ := yld x H3 hy
    have ed : d = e xs[i] := by
      rw [List.getElem?_map, List.getElem?_eq_getElem hlt] at hd
      exact (Option.some.inj hd).symm
    subst ed
    have s3 : Stp B' H2 H3 := .same en3.tps kp3
    have hdrop : xs.drop i = xs[i] :: xs.drop (i + 1) := List.drop_eq_getElem_cons hlt
    rw [hdrop] at hk
    refine (hg xs[i] s).run B' σ2 H3 fp2 x (en3.step s3) hx3 _ fun σ4 fp4 en4 _ _ => ?_
    have again : ∀ σ' H', atC Γh (fun s' => forK body exit (xs.drop (i + 1)) s') P X B' σ' H' → ∃ m', m' < xs.length - i ∧ (m' = xs.length - (i + 1) ∧ i + 1 ≤ xs.length ∧ ∃ s fp2, forK body exit (xs.drop (i + 1)) s P X ∧ En B' (Γh s) σ' H' fp2) := fun σ' H' ⟨s', fp', hk', en'⟩ =>
      ⟨xs.length - (i + 1), by omega, rfl, hlt, s', fp', hk', en'⟩
    exact hb xs[i] s _ P X hk B' { D with nx := _, ct := _, bk := D.nx } (reb.exok ex) (reb.fin f) again (fun σ' H' ⟨s', fp', hk', en'⟩ => out s' σ' H' fp' hk' en') again σ4 H3 fp4 en4
  · have ei : i = xs.length := by omega
    subst ei
    rw [List.drop_length] at hk
    exact .inl ⟨ok.stop _ H2 (stand H2 en3.fr) (by rw [List.length_map]; exact Nat.le_refl _), out s σ2 H2 fp2 hk en3⟩
theorem sb_for {wi : TI} {g : TG} {tb : TS} {vs : List Nat} {w : Wp (List α)} {e : α → PyData} {own : Nat → Bool} {Γh : S → List Ety} {Γb : α → S → List Ety} {body : α → S → (S → Wp F) → (S → Wp F) → Wp F} {exit : S → Wp F} (s0 : S)
    (hi : ItG C Γ wi w (fun r => r.map e) own) (hown : ∀ i, own i = true → roB (Γh s0) i = true) (hw0 : WkG Γ (Γh s0))
    (hg : ∀ x s, TgG C.K (Γh s) g vs (e x) (Γb x s)) (hb : ∀ x s kc, SimB C res (atC Γh kc) (atC Γh exit) (atC Γh kc) tb (Γb x s) (body x s kc exit)) (hx : ∀ s, Lands N (Γh s) (exit s)) :
    SimB C res N Bk Ct (tFor wi g tb) Γ (bnd w fun xs => forK body exit xs s0) := fun P X hm B D ex f n b c σ H fp en => by
  refine hi _ X hm B σ H fp en ex _ fun xs J H1 sup hp s1 ok hsup => ?_
  have en1 := en.step s1
  obtain ⟨fp1, enh, sub⟩ := hw0 B σ H1 fp en1
  obtain ⟨reb, en2⟩ := enh.rebase
  refine for_core ok reb (fun a ha hO => ?_) hp en2 ex f hg hb fun s σ' H' fp' he en' => n σ' H' (hx s P X B σ' H' fp' he (reb.en en'))
  obtain ⟨j, _, hr, hj⟩ := mem_owned.mp hO
  have hj' := sub j a hj
  rcases hsup a ha with z | ⟨i, hoi, hai⟩ | ⟨r, hr, rfl⟩
  · obtain ⟨T, hT⟩ := en.lt hj'
    obtain ⟨v, _, ho⟩ := en.sl j T hT
    obtain ⟨o, eo, _⟩ := T.dom ho hj'
    rw [z] at eo; cases eo
  · have e := en.dis j i a hj' hai
    subst e
    rw [hown j hoi] at hr; cases hr
  · exact (en.rr r hr).2.2 j hj'
/-- a list while it is walked -/
def lkOwn (K : PySem.W.Frag) (p : Addr) (vs : List V) (ds : List PyData) (H : Hp) (v : V) (fp : List Addr) : Prop := v = .ref p ∧ fp = [p] ∧ H p = some (.lst vs) ∧ FzAll K H vs ds
def lk (K : PySem.W.Frag) (p : Addr) (vs : List V) (ds : List PyData) : Sl where
  own := lkOwn K p vs ds
  ro := true
  dom := fun h ha => by
    obtain ⟨_, e, hp, _⟩ := h
    rw [e] at ha
    rw [List.mem_singleton.mp ha]
    exact ⟨_, hp, rfl⟩
  keep := fun h k => by
    obtain ⟨e1, e2, hp, hz⟩ := h
    exact ⟨e1, e2, k p _ hp (.inl (by rw [e2]; exact List.mem_singleton.mpr rfl)), hz.stay fun a o e z => k a o e (.inr z)⟩
/-- for x in xs, xs a name whose list the body leaves as it is -/
theorem sb_forV {i : Nat} {g : TG} {tb : TS} {vs : List Nat} {e : α → PyData} {xs : List α} {Γh : Addr → List V → S → List Ety} {Γb : Addr → List V → α → S → List Ety} {body : α → S → (S → Wp F) → (S → Wp F) → Wp F} {exit : S → Wp F} (s0 : S)
    (h : Γ[i]? = some (.sl (ls C.K (xs.map e)))) (hw0 : ∀ p vs, WkG (Γ.set i (.sl (lk C.K p vs (xs.map e)))) (Γh p vs s0)) (hs : ∀ p vs s, (Γh p vs s)[i]? = some (.sl (lk C.K p vs (xs.map e))))
    (hg : ∀ p ws x s, TgG C.K (Γh p ws s) g vs (e x) (Γb p ws x s)) (hb : ∀ p ws x s kc, SimB C res (atC (Γh p ws) kc) (atC (Γh p ws) exit) (atC (Γh p ws) kc) tb (Γb p ws x s) (body x s kc exit)) (hx : ∀ p vs s, Lands N ((Γh p vs s).set i (.sl (ls C.K (xs.map e)))) (exit s)) :
    SimB C res N Bk Ct (tFor (iList C.K (tVar i)) g tb) Γ (forK body exit xs s0) := fun P X hm B D ex f n b c σ H fp en => by
  obtain ⟨p, ws, hv, hf, hp, hz⟩ := en.lst h
  have hm' : p ∈ fp i := by rw [hf]; exact List.mem_singleton.mpr rfl
  have hilt : i < Γ.length := (List.getElem?_eq_some_iff.mp h).1
  have hnew := en.new i p _ h rfl hm'
  have enk : En B (Γ.set i (.sl (lk C.K p ws (xs.map e)))) σ H (put fp i [p]) := by
    have z := en.put (S := lk C.K p ws (xs.map e)) (v := .ref p) (q := [p]) hilt ⟨rfl, rfl, hp, hz⟩ (fun a ha j hj => ?_) (fun a ha => ?_) (fun z => nomatch z) fun r hr ha => (en.rr r hr).2.2 i (by rw [hf]; exact ha)
    · rw [set_id σ i _ hv] at z
      exact z
    · rw [List.mem_singleton.mp ha] at hj
      exact en.dis j i p hj hm'
    · rw [List.mem_singleton.mp ha]
      exact en.nt i p hm'
  obtain ⟨fp1, enh, sub⟩ := hw0 p ws B σ H _ enk
  obtain ⟨reb, en2⟩ := enh.rebase
  refine ⟨_, hv, p, rfl, ⟨ws, .inl (.inl hp)⟩, ?_⟩
  have ok : ItOk C.K B (Itl C.K p) H (xs.map e) [p] := by
    refine ⟨fun a ha => ?_, fun i H2 st hi => ?_, fun i H2 st hi => ⟨ws, .inl (.inl (st p _ hp (.inl (by simp)))), le_beta hz.length hi⟩⟩
    · rw [List.mem_singleton.mp ha]
      exact ⟨en.nt _ p hm', _, hp⟩
    · have stay : Stay H H2 := fun a o e z => st a o e (.inr z)
      have hs2 : SqL C.K H2 p ws := .inl (.inl (st p _ hp (.inl (by simp))))
      have hi2 : i < ws.length := lt_beta hz.length hi
      refine ⟨⟨ws, ws[i], hs2, List.getElem?_eq_getElem hi2⟩, fun x H3 hy => ?_⟩
      obtain ⟨rfl, hx⟩ := hy
      obtain ⟨d, hd, hf⟩ := (hz.stay stay).getV (hx ws hs2)
      exact ⟨fun _ _ e => e, d, hd, hf⟩
  refine for_core ok reb (fun a ha hO => ?_) hm en2 ex f (hg p ws) (hb p ws) fun s σ' H' fp' he en' => ?_
  · rw [List.mem_singleton.mp ha] at hO
    obtain ⟨j, _, hr, hj⟩ := mem_owned.mp hO
    have hj' := sub j p hj
    by_cases e : j = i
    · subst e
      rw [roB_sl (hs p ws s0)] at hr; cases hr
    · rw [put_ne e] at hj'
      exact e (en.dis j i p hj' hm')
  · have en3 := reb.en en'
    obtain ⟨v, hv3, rfl, e3, hp3, hz3⟩ := en3.sl i _ (hs p ws s)
    have hil : i < (Γh p ws s).length := (List.getElem?_eq_some_iff.mp (hs p ws s)).1
    have en4 : En B ((Γh p ws s).set i (.sl (ls C.K (xs.map e)))) σ' H' (put fp' i [p]) := by
      have z := en3.put (S := ls C.K (xs.map e)) (v := .ref p) (q := [p]) hil ⟨p, ws, rfl, rfl, hp3, hz3⟩ (fun a ha j hj => ?_) (fun a ha => ?_) (fun _ a ha => ?_) fun r hr ha => (en3.rr r hr).2.2 i (by rw [e3]; exact ha)
      · rw [set_id σ' i _ hv3] at z
        exact z
      · rw [List.mem_singleton.mp ha] at hj
        exact en3.dis j i p hj (by rw [e3]; exact List.mem_singleton.mpr rfl)
      · rw [List.mem_singleton.mp ha]
        exact en3.nt i p (by rw [e3]; exact List.mem_singleton.mpr rfl)
      · rw [List.mem_singleton.mp ha]
        exact hnew
    exact n σ' H' (hx p ws s P X B σ' H' _ he en4)
def whileK (c : S → Wp Bool) (body : S → (S → Wp F) → (S → Wp F) → Wp F) (exit : S → Wp F) : Nat → S → Wp F
  | 0, _ => cut
  | n + 1, s => bnd (c s) fun b => sel b (body s (fun s' => whileK c body exit n s') exit) (exit s)
def whileW (c : S → Wp Bool) (body : S → (S → Wp F) → (S → Wp F) → Wp F) (exit : S → Wp F) (s : S) : Wp F := fun P X => ∃ n, whileK c body exit n s P X
theorem sb_while {tc : TT} {tb : TS} {Γh : S → List Ety} {c : S → Wp Bool} {body : S → (S → Wp F) → (S → Wp F) → Wp F} {exit : S → Wp F} (s0 : S) (hw0 : WkG Γ (Γh s0)) (hc : ∀ s, EvT C (Γh s) tc (c s))
    (hb : ∀ s kc, SimB C res (atC Γh kc) (atC Γh exit) (atC Γh kc) tb (Γh s) (body s kc exit)) (hx : ∀ s, Lands N (Γh s) (exit s)) : SimB C res N Bk Ct (tWhile tc tb) Γ (whileW c body exit s0) := fun P X ⟨k, hm⟩ B D ex f n b ct σ H fp en => by
  obtain ⟨fp0, en0, _⟩ := hw0 B σ H fp en
  refine ⟨fun m σ' H' => ∃ s fp', whileK c body exit m s P X ∧ En B (Γh s) σ' H' fp', ⟨k, s0, fp0, hm, en0⟩, ?_⟩
  rintro m σ1 H1 ⟨s, fp1, hk, en1⟩
  cases m with
  | zero => exact hk.elim
  | succ m =>
    refine hc s _ X hk B σ1 H1 fp1 en1 ex _ fun q H2 hq s2 => ?_
    have en2 := en1.step s2
    cases q with
    | true =>
      refine iteT ?_
      refine ⟨fun σ' H' => ∃ s fp', whileK c body exit m s P X ∧ En B (Γh s) σ' H' fp', fun σ' H' h => ⟨m, Nat.lt_succ_self m, h⟩, ?_⟩
      exact hb s _ P X hq B { D with nx := _, ct := _, bk := D.nx } ex f (fun σ' H' ⟨s', fp', h1, h2⟩ => ⟨s', fp', h1, h2⟩) (fun σ' H' ⟨s', fp', h1, h2⟩ => n σ' H' (hx s' P X B σ' H' fp' h1 h2)) (fun σ' H' ⟨s', fp', h1, h2⟩ => ⟨s', fp', h1, h2⟩) σ1 H2 fp1 en2
    | false => exact iteF (n σ1 H2 (hx s P X B σ1 H2 fp1 hq en2))
end
end WL
/-! WL, part 5: defs and calls. -/
namespace WL
open PySem PySem.Spec PyProof.Rows L2
/-- a def's argument: data, a list that is read, the tape -/
inductive Ag where
  | d (x : PyData)
  | l (xs : List PyData)
  | t (S : Sl)
  /-- a thing of the caller's, read -/
  | b (S : Sl)
  /-- a thing that goes over to the def -/
  | o (S : Sl)
def Ag.ety (K : PySem.W.Frag) : Ag → Ety
  | .d x => .sl (fz K x)
  | .l xs => .rd K xs
  | .t S => .tp S
  | .b S => .rb S
  | .o S => .sl S
def Ag.rk (K : PySem.W.Frag) : Ag → Rk
  | .d x => RF K x
  | .l xs => RL K xs
  | .t S => RT S
  | .b S => RB S
  | .o _ => fun _ _ _ _ => False
/-- the promise of a def that raises nothing -/
def spN (K : PySem.W.Frag) [Tbs K] {ι F : Type} (ag : ι → List Ag) (f : ι → Wp F) (res : F → Oc) : Sp := fun vs H Q _ => ∃ (x : ι) (P : F → Prop) (T : Option (Sl × V × List Addr)) (R : List (Addr × HO)) (fp : Nat → List Addr),
  (f x P (fun _ => False) ∧ tbOf K T) ∧ En ⟨H, [], T, R⟩ ((ag x).map (Ag.ety K)) (vs.map some) H fp ∧ ∀ out v H', P out → Frame ⟨H, [], T, R⟩ H' → TpSt ⟨H, [], T, R⟩ H' → OcOk K ⟨H, [], T, R⟩ H' (res out) v → Q v H'
/-- the promise of a def that may raise -/
def spX (K : PySem.W.Frag) [Tbs K] (ct : Nat → Value × Str) {ι F : Type} (ag : ι → List Ag) (f : ι → Wp F) (res : F → Oc) : Sp := fun vs H Q E => ∃ (x : ι) (P : F → Prop) (X : Xn → Prop) (T : Option (Sl × V × List Addr)) (R : List (Addr × HO)) (fp : Nat → List Addr),
  f x P X ∧ En ⟨H, [], T, R⟩ ((ag x).map (Ag.ety K)) (vs.map some) H fp ∧ (∀ out v H', P out → Frame ⟨H, [], T, R⟩ H' → TpSt ⟨H, [], T, R⟩ H' → OcOk K ⟨H, [], T, R⟩ H' (res out) v → Q v H') ∧ Exok ⟨K, E, ct⟩ ⟨H, [], T, R⟩ X
section
variable {K : PySem.W.Frag} [Tbs K] {C : Cn} [Tbs C.K] {Γ : List Ety} {α β γ ι F : Type}
theorem En.slots {B : Bs} {σ : List (Option V)} {H : Hp} {fp : Nat → List Addr} (en : En B Γ σ H fp) (n : Nat) : En B (Γ ++ List.replicate n .un) (σ ++ List.replicate n none) H fp := by
  have get : ∀ (i : Nat) (e : Ety), (Γ ++ List.replicate n .un)[i]? = some e → e ≠ .un → Γ[i]? = some e := fun i e h ne => by
    by_cases hi : i < Γ.length
    · rwa [List.getElem?_append_left hi] at h
    · rw [List.getElem?_append_right (by omega), List.getElem?_replicate] at h
      split at h
      · cases h; exact absurd rfl ne
      · cases h
  have put : ∀ (i : Nat) (v : Option V), σ[i]? = some v → (σ ++ List.replicate n none)[i]? = some v := fun i v h => by
    rw [List.getElem?_append_left (List.getElem?_eq_some_iff.mp h).1]
    exact h
  refine ⟨by rw [List.length_append, List.length_append, en.len, List.length_replicate, List.length_replicate], fun i S h => ?_, fun i S h => ?_, fun i h => ?_, en.dis, en.nt, fun i a S h => ?_, fun i K' ds h => ?_, fun i S h => ?_, en.rr, en.fr, en.tps⟩
  · obtain ⟨v, hv, ho⟩ := en.sl i S (get i _ h nofun)
    exact ⟨v, put i _ hv, ho⟩
  · obtain ⟨v, fq, ht, hv⟩ := en.tp i S (get i _ h nofun)
    exact ⟨v, fq, ht, put i _ hv⟩
  · refine en.off i fun S hS => h S ?_
    rw [List.getElem?_append_left (List.getElem?_eq_some_iff.mp hS).1]
    exact hS
  · exact en.new i a S (get i _ h nofun)
  · obtain ⟨r, us, h1, h2, h3⟩ := en.rd i K' ds (get i _ h nofun)
    exact ⟨r, us, h1, put i _ h2, h3⟩
  · obtain ⟨v, fq, h1, h2, h3⟩ := en.rb i S (get i _ h nofun)
    exact ⟨v, fq, put i _ h1, h2, h3⟩
/-- behind the body: None -/
def endC (res : F → Oc) : Cont F := fun P X B σ H => ∃ out, P out ∧ res out = .fz .none ∧ Frame B H ∧ TpSt B H
theorem la_end {res : F → Oc} {out : F} (h : res out = .fz .none) : Lands (endC res) Γ (ret out) := fun P X B σ H fp hm en => ⟨out, hm, h, en.fr, en.tps⟩
variable {P : Program} {w : World} {mg : Str → Option Value} {base : Heap}
theorem start_eq {N : List Str} {vs : List V} : start N vs = vs.map some ++ List.replicate (N.length - vs.length) none := rfl
theorem run_body {res : F → Oc} {t : TS} {f : Wp F} {Pq : F → Prop} {Xq : Xn → Prop} {T : Option (Sl × V × List Addr)} {R : List (Addr × HO)} {H : Hp} {vs : List V} {N : List Str} {fp : Nat → List Addr} {Q : VK} {ags : List Ag} (hs : SimB C res (endC res) noC noC t (ags.map (Ag.ety C.K) ++ List.replicate (N.length - vs.length) .un) f)
    (hf : f Pq Xq) (en : En ⟨H, [], T, R⟩ (ags.map (Ag.ety C.K)) (vs.map some) H fp) (ex : Exok C ⟨H, [], T, R⟩ Xq) (fin : ∀ out v H', Pq out → Frame ⟨H, [], T, R⟩ H' → TpSt ⟨H, [], T, R⟩ H' → OcOk C.K ⟨H, [], T, R⟩ H' (res out) v → Q v H') :
    t { nx := fun _ H' => Q .non H', rt := Q } (start N vs) H := by
  refine hs Pq Xq hf ⟨H, [], T, R⟩ { nx := fun _ H' => Q .non H', rt := Q } ex fin (fun σ H' h => ?_) (fun σ H' h => h.elim) (fun σ H' h => h.elim) _ _ fp ?_
  · obtain ⟨out, hp, hr, h1, h2⟩ := h
    refine fin out .non H' hp h1 h2 ?_
    rw [hr]
    exact .non
  · rw [start_eq]
    exact en.slots _
/-- a def that raises nothing -/
theorem fn_n {x qual : Str} {st : Stmt} {f : Addr} {fd : FuncData} {N ps : List Str} {k : Nat} {ag : ι → List Ag} {fm : ι → Wp F} {res : F → Oc} (Fu : Fun K x qual st f fd) (S : FnScope N ps (defScope st)) (hlen : ∀ x, (ag x).length = ps.length)
    (hb : ∀ (cdv : Value) (A : Around) (outer : List PySem.Env) (s : Shared) (H : Hp) (E : XK), Room k (A.deeper (envOfC qual (defScope st) s.heap.objs.size f cdv)) →
      ∃ t, PSs (cxOf CX0 P w K mg base N qual (defScope st) f cdv A outer s H E).nox (defBody st) t ∧ ∀ x, SimB ⟨K, E0, fun _ => (.none, "")⟩ res (endC res) noC noC t ((ag x).map (Ag.ety K) ++ List.replicate (N.length - ps.length) .un) (fm x)) :
    FnOk P w K mg base CX0 (k + 1) f fd ps (spN K ag fm res) := by
  refine Fu.ok S (fun vs H Q E h => ?_) (fun cdv A outer s H vs Q E hr h => ?_)
  · obtain ⟨x, P, T, R, fp, _, en, _⟩ := h
    have := en.len
    rw [List.length_map, List.length_map] at this
    rw [this, hlen]
  · obtain ⟨t, ht, hs⟩ := hb cdv A outer s H E hr
    refine ⟨t, ht, ?_⟩
    obtain ⟨x, P, T, R, fp, hf, en, fin⟩ := h
    have hl := en.len
    rw [List.length_map, List.length_map] at hl
    have hs' := hs x
    rw [← hlen x, ← hl] at hs'
    exact run_body (C := ⟨K, E0, fun _ => (.none, "")⟩) hs' hf.1 en (exok_no hf.2) fin
/-! ### calls -/
def ArgAt (K : PySem.W.Frag) (B : Bs) (R : List (Addr × HO)) (H : Hp) (v : V) : Ag → Prop
  | .d x => Fz K H v x
  | .l xs => ∃ (p : Addr) (vs : List V), ((p, HO.lst vs) ∈ R ∨ ∀ H', SqL K H' p vs) ∧ v = .ref p ∧ FzAll K H vs xs
  | .t S => ∃ fq, B.T = some (S, v, fq)
  | .b S => ∃ fq, S.own H v fq ∧ ∀ a ∈ fq, ∃ o, (a, o) ∈ R
  | .o _ => False
theorem ArgAt.more {B : Bs} {R : List (Addr × HO)} {H : Hp} {v : V} {a : Ag} (x : List (Addr × HO)) (h : ArgAt K B R H v a) : ArgAt K B (x ++ R) H v a := by
  cases a with
  | d y => exact h
  | l ys =>
    obtain ⟨r, us, h1, h2⟩ := h
    exact ⟨r, us, h1.imp (fun h => List.mem_append_right _ h) fun h => h, h2⟩
  | t S => exact h
  | o S => exact h
  | b S =>
    obtain ⟨fq, h1, h2⟩ := h
    exact ⟨fq, h1, fun a ha => (h2 a ha).imp fun o ho => List.mem_append_right _ ho⟩
theorem args_R {B : Bs} {H0 H : Hp} : ∀ {vs : List V} {as : List Ag}, RAll B H0 H vs (as.map (Ag.rk K)) → ∃ R : List (Addr × HO), (∀ r ∈ R, Rd H r.1 r.2 ∧ B.off r.1) ∧ vs.length = as.length ∧ ∀ (i : Nat) (a : Ag), as[i]? = some a → ∃ v, vs[i]? = some v ∧ ArgAt K B R H v a
  | vs, [], h => by
    cases h
    exact ⟨[], fun r h => absurd h (by simp), rfl, fun i a h => by simp at h⟩
  | vs, a :: as, h => by
    cases h with
    | cons h1 h2 =>
      obtain ⟨R, hR, hl, hA⟩ := args_R h2
      cases a with
      | d x =>
        refine ⟨R, hR, by rw [List.length_cons, List.length_cons, hl], fun i a hi => ?_⟩
        cases i with
        | zero => cases hi; exact ⟨_, rfl, h1⟩
        | succ i => exact hA i a hi
      | t S =>
        refine ⟨R, hR, by rw [List.length_cons, List.length_cons, hl], fun i a hi => ?_⟩
        cases i with
        | zero => cases hi; exact ⟨_, rfl, h1⟩
        | succ i => exact hA i a hi
      | o S => exact h1.elim
      | b S =>
        obtain ⟨fq, ho, hf⟩ := h1
        refine ⟨fq.map (fun a => (a, (H a).getD (.tup []))) ++ R, fun r hr => ?_, by rw [List.length_cons, List.length_cons, hl], fun i a hi => ?_⟩
        · rcases List.mem_append.mp hr with hr | hr
          · obtain ⟨a, ha, rfl⟩ := List.mem_map.mp hr
            obtain ⟨o, e, _⟩ := S.dom ho ha
            refine ⟨.inl ?_, hf a ha⟩
            show H a = some ((H a).getD (.tup []))
            rw [e]
            rfl
          · exact hR r hr
        · cases i with
          | zero => cases hi; exact ⟨_, rfl, fq, ho, fun a ha => ⟨_, List.mem_append_left _ (List.mem_map.mpr ⟨a, ha, rfl⟩)⟩⟩
          | succ i =>
            obtain ⟨v, h3, h4⟩ := hA i a hi
            exact ⟨v, h3, h4.more _⟩
      | l xs =>
        obtain ⟨p, ws, e, hs, hz⟩ := h1
        rcases hs with ⟨hs, ho⟩ | hs
        · refine ⟨[(p, HO.lst ws)] ++ R, fun r hr => ?_, by rw [List.length_cons, List.length_cons, hl], fun i a hi => ?_⟩
          · rcases List.mem_cons.mp (show r ∈ (p, HO.lst ws) :: R from hr) with rfl | hr
            · exact ⟨hs, ho⟩
            · exact hR r hr
          · cases i with
            | zero => cases hi; exact ⟨_, rfl, p, ws, .inl List.mem_cons_self, e, hz⟩
            | succ i =>
              obtain ⟨v, h3, h4⟩ := hA i a hi
              exact ⟨v, h3, h4.more _⟩
        · refine ⟨R, hR, by rw [List.length_cons, List.length_cons, hl], fun i a hi => ?_⟩
          cases i with
          | zero => cases hi; exact ⟨_, rfl, p, ws, .inr hs, e, hz⟩
          | succ i => exact hA i a hi
theorem args_en {B : Bs} {H0 H : Hp} {vs : List V} {as : List Ag} (ts : TpSt B H) (h : RAll B H0 H vs (as.map (Ag.rk K))) : ∃ R, En ⟨H, [], B.T, R⟩ (as.map (Ag.ety K)) (vs.map some) H (fun _ => []) := by
  obtain ⟨R, hR, hl, hA⟩ := args_R h
  have at' : ∀ (i : Nat) (e : Ety), (as.map (Ag.ety K))[i]? = some e → ∃ a v, as[i]? = some a ∧ e = a.ety K ∧ (vs.map some)[i]? = some (some v) ∧ ArgAt K B R H v a := fun i e hi => by
    rw [List.getElem?_map] at hi
    cases q : as[i]? with
    | none => rw [q] at hi; cases hi
    | some a =>
      rw [q] at hi
      cases hi
      obtain ⟨v, h1, h2⟩ := hA i a q
      exact ⟨a, v, rfl, rfl, by rw [List.getElem?_map, h1]; rfl, h2⟩
  refine ⟨R, by rw [List.length_map, List.length_map, hl], fun i S hi => ?_, fun i S hi => ?_, fun i _ => rfl, fun i j a h => absurd h (by simp), fun i a h => absurd h (by simp), fun i a S _ _ h => absurd h (by simp), fun i K' ds hi => ?_, fun i S hi => ?_, fun r hr => ⟨(hR r hr).1, (hR r hr).2, fun i => by simp⟩, fun a o e => ⟨o, e, fun _ _ => rfl, fun _ => rfl⟩, ts⟩
  · obtain ⟨a, v, h1, h2, h3, h4⟩ := at' i _ hi
    cases a with
    | o x => exact h4.elim
    | d x =>
      cases h2
      exact ⟨v, h3, rfl, h4⟩
    | l x => cases h2
    | t _ => cases h2
    | b _ => cases h2
  · obtain ⟨a, v, h1, h2, h3, h4⟩ := at' i _ hi
    cases a with
    | o x => exact h4.elim
    | d x => cases h2
    | l x => cases h2
    | b _ => cases h2
    | t S' =>
      cases h2
      obtain ⟨fq, ht⟩ := h4
      exact ⟨v, fq, ht, h3⟩
  · obtain ⟨a, v, h1, h2, h3, h4⟩ := at' i _ hi
    cases a with
    | o x => exact h4.elim
    | d x => cases h2
    | t _ => cases h2
    | b _ => cases h2
    | l x =>
      cases h2
      obtain ⟨r, us, h5, h6, h7⟩ := h4
      exact ⟨r, us, h5, by rw [h3, h6], h7⟩
  · obtain ⟨a, v, h1, h2, h3, h4⟩ := at' i _ hi
    cases a with
    | o x => exact h4.elim
    | d x => cases h2
    | l x => cases h2
    | t _ => cases h2
    | b S' =>
      cases h2
      obtain ⟨fq, h5, h6⟩ := h4
      exact ⟨v, fq, h3, h5, h6⟩
theorem after_call {B : Bs} {H H' : Hp} {R : List (Addr × HO)} (f : Frame ⟨H, [], B.T, R⟩ H') (t : TpSt ⟨H, [], B.T, R⟩ H') : Stp B H H' := ⟨fun a o e n => by
  obtain ⟨o', e', k, _⟩ := f a o e
  rw [k (by simp) n] at e'
  exact e', t⟩
/-- a call of a def that raises nothing; what it gives is data -/
theorem ev_call {ta : TA} {wa : Wp ι} {ag : ι → List Ag} {f : ι → Wp F} {res : F → Oc} {e : F → PyData} {E : XK} (ha : EvA C Γ ta wa (fun x => (ag x).map (Ag.rk C.K))) (hr : ∀ o, res o = .fz (e o)) :
    EvG C Γ (tCall (spN C.K ag f res) [] E ta) (bnd wa fun x => noX (f x)) (fun r => RF C.K (e r)) := fun P X hw B σ H fp en ex Q q => by
  refine ha _ X hw B σ H fp en ex _ fun x vs H1 h1 s1 r1 => ?_
  obtain ⟨R, en'⟩ := args_en s1.ts r1
  rw [List.append_nil]
  refine ⟨x, P, B.T, R, _, ⟨h1, ex.tb⟩, en', fun out v H' hp hf ht ho => ?_⟩
  rw [hr] at ho
  exact q out v H' hp (s1.trans (after_call hf ht)) ho
/-- .. a new thing -/
theorem ev_callN {ta : TA} {wa : Wp ι} {ag : ι → List Ag} {f : ι → Wp F} {res : F → Oc} {S : F → Sl} {E : XK} (ha : EvA C Γ ta wa (fun x => (ag x).map (Ag.rk C.K))) (hr : ∀ o, res o = .nw (S o)) :
    EvG C Γ (tCall (spN C.K ag f res) [] E ta) (bnd wa fun x => noX (f x)) (fun r => RN (S r)) := fun P X hw B σ H fp en ex Q q => by
  refine ha _ X hw B σ H fp en ex _ fun x vs H1 h1 s1 r1 => ?_
  obtain ⟨R, en'⟩ := args_en s1.ts r1
  rw [List.append_nil]
  refine ⟨x, P, B.T, R, _, ⟨h1, ex.tb⟩, en', fun out v H' hp hf ht ho => ?_⟩
  rw [hr] at ho
  obtain ⟨fq, h2, h3, _⟩ := ho
  refine q out v H' hp (s1.trans (after_call hf ht)) ⟨fq, h2, fun a ha => ?_⟩
  rcases h3 a ha with z | z
  · exact s1.back en.tps z
  · cases z
/-! ### built-ins -/
theorem c_int (n : Int) : CaG C (fun xs H Q => (∃ i, xs = [.int i] ∧ Q (.int i) H) ∨ ∃ k, xs = [.bl k] ∧ Q (.int (if k then 1 else 0)) H) [RF C.K (eI n)] (ret n) (fun r => RF C.K (eI r)) := fun P X hw B H0 H vs t0 ts hb h Q q => by
  cases h with
  | cons h1 h2 =>
    cases h2
    exact .inl ⟨n, by rw [Fz.int_inv (n := n) h1], q n _ H hw (.refl ts) (.int n)⟩
theorem c_intB (b : Bool) : CaG C (fun xs H Q => (∃ i, xs = [.int i] ∧ Q (.int i) H) ∨ ∃ k, xs = [.bl k] ∧ Q (.int (if k then 1 else 0)) H) [RF C.K (eB b)] (ret (if b then 1 else 0)) (fun r => RF C.K (eI r)) := fun P X hw B H0 H vs t0 ts hb h Q q => by
  cases h with
  | cons h1 h2 =>
    cases h2
    exact .inr ⟨b, by rw [Fz.bl_inv (b := b) h1], q _ _ H hw (.refl ts) (.int _)⟩
abbrev rLen (K : PySem.W.Frag) : List V → Hp → VK → Prop := fun xs H Q => ∃ p ys, xs = [.ref p] ∧ (SqL K H p ys ∨ SqT K H p ys) ∧ Q (.int ys.length) H
theorem c_lenL {e : α → PyData} (xs : List α) : CaG C (rLen C.K) [RL C.K (xs.map e)] (ret (xs.length : Int)) (fun r => RF C.K (eI r)) := fun P X hw B H0 H vs t0 ts hb h Q q => by
  cases h with
  | cons h1 h2 =>
    cases h2
    obtain ⟨p, ws, rfl, hs, hz⟩ := h1
    have hl := hz.length
    rw [List.length_map] at hl
    exact ⟨p, ws, rfl, .inl hs.sq, q _ _ H hw (.refl ts) (by rw [hl]; exact .int _)⟩
theorem c_lenT {e : α → PyData} (xs : List α) : CaG C (rLen C.K) [RF C.K (eT e xs)] (ret (xs.length : Int)) (fun r => RF C.K (eI r)) := fun P X hw B H0 H vs t0 ts hb h Q q => by
  cases h with
  | cons h1 h2 =>
    cases h2
    obtain ⟨p, ws, rfl, hs, hz⟩ := Fz.tup_inv h1
    have hl := hz.length
    rw [List.length_map] at hl
    exact ⟨p, ws, rfl, .inr hs, q _ _ H hw (.refl ts) (by rw [hl]; exact .int _)⟩
abbrev rTup (K : PySem.W.Frag) : List V → Hp → VK → Prop := fun xs H Q => ∃ p ys, xs = [.ref p] ∧ ((SqL K H p ys ∧ ∀ l, H l = none → Q (.ref l) (upd H l (.tup ys))) ∨ (SqT K H p ys ∧ Q (.ref p) H))
theorem c_tupL {e : α → PyData} (xs : List α) : CaG C (rTup C.K) [RL C.K (xs.map e)] (ret xs) (fun r => RF C.K (eT e r)) := fun P X hw B H0 H vs t0 ts hb h Q q => by
  cases h with
  | cons h1 h2 =>
    cases h2
    obtain ⟨p, ws, rfl, hs, hz⟩ := h1
    refine ⟨p, ws, rfl, .inl ⟨hs.sq, fun l hl => ?_⟩⟩
    have s : Stp B H (upd H l (.tup ws)) := .new ts hl
    exact q _ _ _ hw s (.tup (.inl (.inl upd_same)) (hz.stay (s.stay ts)))
abbrev rLst (K : PySem.W.Frag) : List V → Hp → VK → Prop := fun xs H Q => ∃ p ys, xs = [.ref p] ∧ (SqL K H p ys ∨ SqT K H p ys) ∧ ∀ l, H l = none → Q (.ref l) (upd H l (.lst ys))
theorem c_all (bs : List Bool) : CaG C (rAll C.K) [RL C.K (bs.map eB)] (ret (bs.all id)) (fun r => RF C.K (eB r)) := fun P X hw B H0 H vs t0 ts hb h Q q => by
  cases h with
  | cons h1 h2 =>
    cases h2
    obtain ⟨p, ws, rfl, hs, hz⟩ := h1
    have e := FzAll.bools (ns := bs) hz
    subst e
    exact ⟨p, bs, rfl, hs.sq, q _ _ H hw (.refl ts) (.bl _)⟩
/-- x in xs, ints -/
theorem inV_ints (x : Int) (ns : List Int) : inV (.int x) (ns.map V.int) = decide (x ∈ ns) := by
  unfold inV
  induction ns with
  | nil => rfl
  | cons n ns ih =>
    rw [List.map_cons, List.any_cons, ih]
    by_cases e : n = x
    · subst e
      simp [eqV]
    · have : eqV (V.int n) (V.int x) = false := by simp [eqV, e]
      rw [this, Bool.false_or]
      have e2 : ¬ x = n := fun z => e z.symm
      simp [e2]
theorem flat_ints (ns : List Int) : (ns.map V.int).all flatV = true := by
  rw [List.all_map]
  exact List.all_eq_true.mpr fun _ _ => rfl
theorem o_niL (x : Int) (ns : List Int) : OpG C (rIn C.K true) (RF C.K (eI x)) (RL C.K (ns.map eI)) (ret (!decide (x ∈ ns))) (fun r => RF C.K (eB r)) := fun P X hw B H0 H v y _ ts _ hx hy Q q => by
  have e1 := Fz.int_inv (n := x) hx
  obtain ⟨p, ws, rfl, hs, hz⟩ := hy
  have e := FzAll.ints (ns := ns) hz
  subst e
  subst e1
  refine ⟨p, _, rfl, .inl hs.sq, rfl, flat_ints ns, ?_⟩
  show Q (.bl (!inV (.int x) (ns.map V.int))) H
  rw [inV_ints]
  exact q _ _ H hw (.refl ts) (.bl _)
end
end WL
/-! WL, part 6: short forms, as a printer writes them. -/
namespace WL
open PySem PySem.Spec PyProof.Rows L2
section
variable {K : PySem.W.Frag} {C : Cn} [Tbs C.K] {Γ : List Ety} {α β γ δ ι F : Type}
theorem ltb {i n : Nat} (h : Nat.blt i n = true) : i < n := by simpa [Nat.blt_eq] using h
theorem ev_opF {r : R2} {ta tb : TE} {wa : Wp α} {wb : Wp β} {ea : α → PyData} {eb : β → PyData} {w : α → β → Wp γ} {R : γ → Rk} (ha : EvG C Γ ta wa (fun x => RF C.K (ea x))) (hb : EvG C Γ tb wb (fun x => RF C.K (eb x))) (hr : ∀ a b, OpG C r (RF C.K (ea a)) (RF C.K (eb b)) (w a b) R) :
    EvG C Γ (tOp r ta tb) (bnd wa fun a => bnd wb fun b => w a b) R := ev_op ha (fun _ => hb) hr (fun _ => st_F) (fun _ _ => st_F)
theorem ev_opFL {r : R2} {ta tb : TE} {wa : Wp α} {wb : Wp β} {ea : α → PyData} {eb : β → List PyData} {w : α → β → Wp γ} {R : γ → Rk} (ha : EvG C Γ ta wa (fun x => RF C.K (ea x))) (hb : EvG C Γ tb wb (fun x => RL C.K (eb x))) (hr : ∀ a b, OpG C r (RF C.K (ea a)) (RL C.K (eb b)) (w a b) R) :
    EvG C Γ (tOp r ta tb) (bnd wa fun a => bnd wb fun b => w a b) R := ev_op ha (fun _ => hb) hr (fun _ => st_F) (fun _ _ => st_L)
theorem ev_opLF {r : R2} {ta tb : TE} {wa : Wp α} {wb : Wp β} {ea : α → List PyData} {eb : β → PyData} {w : α → β → Wp γ} {R : γ → Rk} (ha : EvG C Γ ta wa (fun x => RL C.K (ea x))) (hb : EvG C Γ tb wb (fun x => RF C.K (eb x))) (hr : ∀ a b, OpG C r (RL C.K (ea a)) (RF C.K (eb b)) (w a b) R) :
    EvG C Γ (tOp r ta tb) (bnd wa fun a => bnd wb fun b => w a b) R := ev_op ha (fun _ => hb) hr (fun _ => st_L) (fun _ _ => st_F)
/-- a list with an int (xs * k) -/
theorem ev_opNF {r : R2} {ta tb : TE} {wa : Wp α} {wb : Wp β} {S : α → Sl} {eb : β → PyData} {w : α → β → Wp γ} {R : γ → Rk} (ha : EvG C Γ ta wa (fun x => RN (S x))) (hb : EvG C Γ tb wb (fun x => RF C.K (eb x))) (hr : ∀ a b, OpG C r (RN (S a)) (RF C.K (eb b)) (w a b) R) :
    EvG C Γ (tOp r ta tb) (bnd wa fun a => bnd wb fun b => w a b) R := ev_op ha (fun _ => hb) hr (fun _ => st_N) (fun _ _ => st_F)
theorem ev_ifF {t : TT} {ta tb : TE} {w : Wp Bool} {wa wb : Wp α} {e : α → PyData} (h : EvT C Γ t w) (h1 : EvG C Γ ta wa (fun x => RF C.K (e x))) (h2 : EvG C Γ tb wb (fun x => RF C.K (e x))) : EvG C Γ (tIf t ta tb) (bnd w fun b => sel b wa wb) (fun x => RF C.K (e x)) := ev_if h h1 h2 fun _ => st_F
theorem ev_chainI {r r' : R2} {ta tb tc : TE} {wa wb wc : Wp Int} {g g' : Int → Int → Bool} (ha : EvG C Γ ta wa (fun x => RF C.K (eI x))) (hb : EvG C Γ tb wb (fun x => RF C.K (eI x))) (hc : EvG C Γ tc wc (fun x => RF C.K (eI x)))
    (hr : ∀ a b, OpG C r (RF C.K (eI a)) (RF C.K (eI b)) (ret (g a b)) (fun r => RF C.K (eB r))) (hr' : ∀ b c, OpG C r' (RF C.K (eI b)) (RF C.K (eI c)) (ret (g' b c)) (fun r => RF C.K (eB r))) :
    EvG C Γ (tChain r r' ta tb tc) (bnd wa fun a => bnd wb fun b => sel (g a b) (bnd wc fun c => ret (g' b c)) (ret false)) (fun r => RF C.K (eB r)) := ev_chain ha hb hc hr hr' (fun _ => st_F) (fun _ => st_F) (fun _ => st_F)
/-- a written number as an operand -/
theorem ev_mulL {n : Int} {tb : TE} {w : Wp Int} (hn : -(2 ^ 64) < n ∧ n < 2 ^ 64) (hb : EvG C Γ tb w (fun x => RF C.K (eI x))) : EvG C Γ (tOp (rI CMul fun i j => .int (i * j)) (tC (.int n)) tb) (bnd w fun y => ret (n * y)) (fun r => RF C.K (eI r)) := fun P X hw B σ H fp en ex Q q =>
  hb _ X hw B σ H fp en ex _ fun y v H' hp s hv => ⟨n, y, rfl, Fz.int_inv hv, .inl hn, q _ _ H' hp s (.int _)⟩
theorem ev_mulR {n : Int} {ta : TE} {w : Wp Int} (hn : -(2 ^ 64) < n ∧ n < 2 ^ 64) (ha : EvG C Γ ta w (fun x => RF C.K (eI x))) : EvG C Γ (tOp (rI CMul fun i j => .int (i * j)) ta (tC (.int n))) (bnd w fun y => ret (y * n)) (fun r => RF C.K (eI r)) := fun P X hw B σ H fp en ex Q q =>
  ha _ X hw B σ H fp en ex _ fun y v H' hp s hv => ⟨y, n, Fz.int_inv hv, rfl, .inr hn, q _ _ H' hp s (.int _)⟩
theorem ev_modC {n : Int} {ta : TE} {w : Wp Int} (hn : n ≠ 0) (ha : EvG C Γ ta w (fun x => RF C.K (eI x))) : EvG C Γ (tOp (rI (fun _ j => j ≠ 0) fun i j => .int (i.fmod j)) ta (tC (.int n))) (bnd w fun y => ret (y.fmod n)) (fun r => RF C.K (eI r)) := fun P X hw B σ H fp en ex Q q =>
  ha _ X hw B σ H fp en ex _ fun y v H' hp s hv => ⟨y, n, Fz.int_inv hv, rfl, hn, q _ _ H' hp s (.int _)⟩
/-- a written place of a tuple of a fixed form -/
theorem ev_ixW {n : Int} {ta : TE} {w : Wp α} {ea : α → PyData} {e' : γ → PyData} (g : α → γ) (k : Nat) (ha : EvG C Γ ta w (fun x => RF C.K (ea x))) (hn : n = (k : Int)) (h : ∀ a, ∃ ds, ea a = .tuple ds ∧ ds[k]? = some (e' (g a))) :
    EvG C Γ (tOp (rIxT C.K) ta (tC (.int n))) (bnd w fun a => ret (g a)) (fun r => RF C.K (e' r)) := fun P X hw B σ H fp en ex Q q =>
  ha _ X hw B σ H fp en ex _ fun a v H' hp s hv => by
    obtain ⟨ds, e1, e2⟩ := h a
    have hv : Fz C.K H' v (ea a) := hv
    rw [e1] at hv
    obtain ⟨p, vs, rfl, hs, hz⟩ := Fz.tup_inv hv
    obtain ⟨u, h1, h2⟩ := hz.get e2
    exact ⟨p, vs, n, u, rfl, rfl, hs, by rw [hn]; exact atI_nat h1, q (g a) u H' hp s h2⟩
/-- arguments with the kinds' stability -/
structure EvS (C : Cn) [Tbs C.K] (Γ : List Ety) (t : TA) (w : Wp α) (R : α → List Rk) : Prop where
  ev : EvA C Γ t w R
  st : ∀ b, ∀ R' ∈ R b, StR R'
theorem es_nil : EvS C Γ tNil (ret ()) (fun _ => []) := ⟨ea_nil, fun _ R h => absurd h (by simp)⟩
theorem es_cons {te : TE} {tr : TA} {wa : Wp α} {wr : Wp β} {Ra : α → Rk} {Rr : β → List Rk} (h : EvG C Γ te wa Ra) (sa : ∀ a, StR (Ra a)) (hr : EvS C Γ tr wr Rr) : EvS C Γ (tCons te tr) (bnd wa fun a => bnd wr fun r => ret (a, r)) (fun x => Ra x.1 :: Rr x.2) :=
  ⟨ea_cons h hr.ev sa hr.st, fun b R hR => by
    rcases List.mem_cons.mp hR with rfl | hR
    · exact sa _
    · exact hr.st _ R hR⟩
theorem es_f {te : TE} {tr : TA} {wa : Wp α} {wr : Wp β} {e : α → PyData} {Rr : β → List Rk} (h : EvG C Γ te wa (fun x => RF C.K (e x))) (hr : EvS C Γ tr wr Rr) : EvS C Γ (tCons te tr) (bnd wa fun a => bnd wr fun r => ret (a, r)) (fun x => RF C.K (e x.1) :: Rr x.2) := es_cons h (fun _ => st_F) hr
theorem es_l {te : TE} {tr : TA} {wa : Wp (List α)} {wr : Wp β} {e : α → PyData} {Rr : β → List Rk} (h : EvG C Γ te wa (fun x => RL C.K (x.map e))) (hr : EvS C Γ tr wr Rr) : EvS C Γ (tCons te tr) (bnd wa fun a => bnd wr fun r => ret (a, r)) (fun x => RL C.K (x.1.map e) :: Rr x.2) := es_cons h (fun _ => st_L) hr
theorem es_t {te : TE} {tr : TA} {wa : Wp Unit} {wr : Wp β} {S : Sl} {Rr : β → List Rk} (h : EvG C Γ te wa (fun _ => RT S)) (hr : EvS C Γ tr wr Rr) : EvS C Γ (tCons te tr) (bnd wa fun a => bnd wr fun r => ret (a, r)) (fun x => RT S :: Rr x.2) := es_cons h (fun _ => st_T) hr
theorem ev_tupS {ta : TA} {w : Wp α} {Rs : α → List Rk} {ds : α → List PyData} (f : α → γ) (e : γ → PyData) (h : EvS C Γ ta w Rs) (hd : ∀ a, AllF C.K (Rs a) (ds a)) (hl : ∀ a, Nat.ble (ds a).length 100 = true) (he : ∀ a, e (f a) = .tuple (ds a)) : EvG C Γ (tTup ta) (mapW f w) (fun r => RF C.K (e r)) :=
  (ev_tup h.ev hd fun a => Nat.le_of_ble_eq_true (hl a)).as f fun r => by rw [he]
theorem ev_lstS {ta : TA} {w : Wp α} {Rs : α → List Rk} {ds : α → List PyData} (f : α → List γ) (e : γ → PyData) (h : EvS C Γ ta w Rs) (hd : ∀ a, AllF C.K (Rs a) (ds a)) (hl : ∀ a, Nat.ble (ds a).length 100 = true) (he : ∀ a, (f a).map e = ds a) : EvG C Γ (tLst ta) (mapW f w) (fun r => RN (ls C.K (r.map e))) :=
  (ev_lst h.ev hd fun a => Nat.le_of_ble_eq_true (hl a)).as f fun r => by rw [he]
theorem ev_callS {ta : TA} {wa : Wp ι} {ag : ι → List Ag} {f : ι → Wp F} {res : F → Oc} {E : XK} (e : F → PyData) (ha : EvS C Γ ta wa (fun x => (ag x).map (Ag.rk C.K))) (hr : ∀ o, res o = .fz (e o)) :
    EvG C Γ (tCall (spN C.K ag f res) [] E ta) (bnd wa fun x => noX (f x)) (fun r => RF C.K (e r)) := ev_call ha.ev hr
theorem ev_callNS {ta : TA} {wa : Wp ι} {ag : ι → List Ag} {f : ι → Wp F} {res : F → Oc} {E : XK} (S : F → Sl) (ha : EvS C Γ ta wa (fun x => (ag x).map (Ag.rk C.K))) (hr : ∀ o, res o = .nw (S o)) :
    EvG C Γ (tCall (spN C.K ag f res) [] E ta) (bnd wa fun x => noX (f x)) (fun r => RN (S r)) := ev_callN ha.ev hr
theorem ev_b1 {r : List V → Hp → VK → Prop} {te : TE} {wa : Wp α} {Ra : α → Rk} {w' : α → Wp γ} {R : γ → Rk} (h : EvG C Γ te wa Ra) (sa : ∀ a, StR (Ra a)) (hr : ∀ a, CaG C r [Ra a] (w' a) R) : EvG C Γ (tCB r (tCons te tNil)) (bnd wa w') R :=
  (ev_cb (es_cons h sa es_nil).ev (w' := fun x => w' x.1) fun a => hr a.1).is rfl
theorem ev_b1F {r : List V → Hp → VK → Prop} {te : TE} {wa : Wp α} {e : α → PyData} {w' : α → Wp γ} {R : γ → Rk} (h : EvG C Γ te wa (fun x => RF C.K (e x))) (hr : ∀ a, CaG C r [RF C.K (e a)] (w' a) R) : EvG C Γ (tCB r (tCons te tNil)) (bnd wa w') R := ev_b1 h (fun _ => st_F) hr
theorem ev_b1L {r : List V → Hp → VK → Prop} {te : TE} {wa : Wp (List α)} {e : α → PyData} {w' : List α → Wp γ} {R : γ → Rk} (h : EvG C Γ te wa (fun x => RL C.K (x.map e))) (hr : ∀ a : List α, CaG C r [RL C.K (a.map e)] (w' a) R) : EvG C Γ (tCB r (tCons te tNil)) (bnd wa w') R := ev_b1 h (fun _ => st_L) hr
/-- xs * k -/
def repL (xs : List α) (k : Int) : List α := (List.replicate k.toNat xs).flatten
theorem o_rep {e : α → PyData} (xs : List α) (k : Int) : OpG C rRep (RN (ls C.K (xs.map e))) (RF C.K (eI k)) (grd (-(2 ^ 63) ≤ k ∧ k < 2 ^ 63 ∧ xs.length * k.toNat ≤ 16777216) (ret (repL xs k))) (fun r => RN (ls C.K (r.map e))) := fun P X hw B H0 H x y t0 ts hb hx hy Q q => by
  obtain ⟨fq, ⟨p, vs, rfl, e2, hp, hz⟩, hf⟩ := hx
  have e1 := Fz.int_inv (n := k) hy
  subst e1
  have hl := hz.length
  rw [List.length_map] at hl
  refine ⟨p, k, vs, rfl, rfl, hp, hw.1.1, hw.1.2.1, by rw [hl]; exact hw.1.2.2, fun l hn => ?_⟩
  have s : Stp B H (upd H l (.lst (List.replicate k.toNat vs).flatten)) := .new ts hn
  refine q _ _ _ hw.2 s ⟨[l], ⟨l, _, rfl, rfl, upd_same, ?_⟩, fun a ha => by rw [List.mem_singleton.mp ha]; exact hb l hn⟩
  have rep : ∀ n : Nat, FzAll C.K H (List.replicate n vs).flatten ((List.replicate n xs).flatten.map e) := fun n => by
    induction n with
    | zero => exact .nil
    | succ n ih =>
      rw [List.replicate_succ, List.replicate_succ, List.flatten_cons, List.flatten_cons, List.map_append]
      exact hz.append ih
  exact (rep k.toNat).stay (s.stay ts)
/-- xs + ys, new lists -/
theorem o_cat {e : α → PyData} (xs ys : List α) : OpG C rCat (RN (ls C.K (xs.map e))) (RN (ls C.K (ys.map e))) (grd (xs.length + ys.length ≤ 16777216) (ret (xs ++ ys))) (fun r => RN (ls C.K (r.map e))) := fun P X hw B H0 H x y t0 ts hb hx hy Q q => by
  obtain ⟨fq, ⟨p, vs, rfl, e2, hp, hz⟩, hf⟩ := hx
  obtain ⟨fq', ⟨p', vs', rfl, e2', hp', hz'⟩, hf'⟩ := hy
  have hl := hz.length
  have hl' := hz'.length
  rw [List.length_map] at hl hl'
  refine ⟨p, p', vs, vs', rfl, rfl, hp, hp', by rw [hl, hl']; exact hw.1, fun l hn => ?_⟩
  have s : Stp B H (upd H l (.lst (vs ++ vs'))) := .new ts hn
  refine q _ _ _ hw.2 s ⟨[l], ⟨l, _, rfl, rfl, upd_same, ?_⟩, fun a ha => by rw [List.mem_singleton.mp ha]; exact hb l hn⟩
  rw [List.map_append]
  exact (hz.append hz').stay (s.stay ts)
/-- the truth of a list -/
theorem et_truL {t : TE} {w : Wp (List α)} {e : α → PyData} (h : EvG C Γ t w (fun x => RL C.K (x.map e))) : EvT C Γ (fun σ H Q => t σ H fun x H' => ∃ k, TruV C.K x H' k ∧ Q k H') (bnd w fun xs => ret (!xs.isEmpty)) := fun P X hw B σ H fp en ex Q q =>
  h _ X hw B σ H fp en ex _ fun r v H' hp s hv => by
    obtain ⟨p, vs, rfl, hs, hz⟩ := hv
    refine ⟨!vs.isEmpty, .inl ⟨vs, hs.sq, rfl⟩, ?_⟩
    have : vs.isEmpty = r.isEmpty := by
      have hl := hz.length
      rw [List.length_map] at hl
      cases vs <;> cases r <;> simp_all
    rw [this]
    exact q _ _ hp s
/-- targets -/
structure TgS (K : PySem.W.Frag) (Γ : List Ety) (g : TGs) (vs : List Nat) (ds : List PyData) (Γ' : List Ety) : Prop where
  run : ∀ B σ H fp xs, En B Γ σ H fp → FzAll K H xs ds → ∀ Q : List (Option V) → Hp → Prop, (∀ σ' fp', En B Γ' σ' H fp' → wipe σ' vs = wipe σ vs → (∀ a i, a ∈ fp' i → ∃ j, a ∈ fp j) → Q σ' H) → g xs σ H Q
theorem ts_nil : TgS K Γ gNil [] [] Γ := ⟨fun B σ H fp xs en hz Q q => by
  cases hz
  exact ⟨rfl, q σ fp en rfl fun a i h => ⟨i, h⟩⟩⟩
theorem wipe_sub {σ σ' : List (Option V)} {vs ws : List Nat} (h : wipe σ vs = wipe σ' vs) (hs : ∀ v ∈ vs, v ∈ ws) (hl : σ.length = σ'.length) : wipe σ ws = wipe σ' ws := by
  refine List.ext_getElem? fun j => ?_
  rw [wipe_get, wipe_get]
  by_cases hj : j ∈ ws
  · rw [if_pos hj, if_pos hj]
    by_cases h1 : j < σ.length
    · rw [List.getElem?_eq_getElem h1, List.getElem?_eq_getElem (hl ▸ h1)]
      rfl
    · rw [List.getElem?_eq_none (by omega), List.getElem?_eq_none (by omega)]
  · rw [if_neg hj, if_neg hj]
    have z := congrArg (fun l => l[j]?) h
    simp only [wipe_get] at z
    have : ¬ j ∈ vs := fun q => hj (hs j q)
    rwa [if_neg this, if_neg this] at z
theorem ts_cons {g : TG} {gs : TGs} {vs ws : List Nat} {d : PyData} {ds : List PyData} {Γ' Γ'' : List Ety} (h : TgG K Γ g vs d Γ') (hs : TgS K Γ' gs ws ds Γ'') : TgS K Γ (gCons g gs) (vs ++ ws) (d :: ds) Γ'' := ⟨fun B σ H fp xs en hz Q q => by
  cases hz with
  | cons h1 h2 =>
    refine ⟨_, _, rfl, h.run B σ H fp _ en h1 _ fun σ1 fp1 en1 w1 s1 => hs.run B σ1 H fp1 _ en1 h2 _ fun σ2 fp2 en2 w2 s2 => ?_⟩
    have l1 : σ1.length = σ.length := by
      have z := congrArg List.length w1
      rw [wipe_length, wipe_length] at z
      exact z
    have l2 : σ2.length = σ1.length := by
      have z := congrArg List.length w2
      rw [wipe_length, wipe_length] at z
      exact z
    refine q σ2 fp2 en2 ?_ fun a i ha => ?_
    · exact (wipe_sub w2 (fun v hv => List.mem_append_right _ hv) l2).trans (wipe_sub w1 (fun v hv => List.mem_append_left _ hv) l1)
    · obtain ⟨j, hj⟩ := s2 a i ha
      exact s1 a j hj⟩
theorem tg_tup {g : TGs} {vs : List Nat} {d : PyData} {ds : List PyData} {n : Nat} {Γ' : List Ety} (h : TgS K Γ g vs ds Γ') (hd : d = .tuple ds) (hn : ds.length = n) : TgG K Γ (gTup K n g) vs d Γ' := ⟨fun B σ H fp v en hz Q q => by
  subst hd
  obtain ⟨a, xs, rfl, hs, hz'⟩ := Fz.tup_inv hz
  exact ⟨a, xs, rfl, hs, by rw [hz'.length]; exact hn, h.run B σ H fp xs en hz' Q q⟩⟩
end
end WL
/-! WL, part 7: what the printer writes; lists of data sorted, their least. -/
namespace WL
open PySem PySem.Spec PyProof.Rows L2
section
variable {F α β γ S : Type}
def setW (xs : List α) (w : Wp α) (wi : Wp Int) (k : List α → Wp F) : Wp F := bnd w fun x => bnd wi fun i => bnd (opt (ixN xs.length i)) fun j => k (xs.set j x)
def appW (xs : List α) (w : Wp α) (k : List α → Wp F) : Wp F := bnd w fun x => grd (xs.length < 16777216) (k (xs ++ [x]))
def extW (xs : List α) (w : Wp (List α)) (k : List α → Wp F) : Wp F := bnd w fun ys => grd (xs.length + ys.length ≤ 16777216) (k (xs ++ ys))
def letK (k : S → Wp F) (f : (S → Wp F) → Wp F) : Wp F := f k
def eqW (d d' : PyData) : Wp Bool := grd (SeqAt.shaped d = true ∧ SeqAt.shaped d' = true) (ret (PyData.eqv d d'))
def eqWN (d d' : PyData) : Wp Bool := grd (SeqAt.shaped d = true ∧ SeqAt.shaped d' = true) (ret (!PyData.eqv d d'))
/-- sorted, by Python's order of data -/
def sortW (e : α → PyData) (xs : List α) : Wp (List α) := grd (PySem.W.AllAlike (xs.map e) ∧ PySem.W.Sortable (xs.map e) ∧ xs.length ≤ 16777216 ∧ ∀ x ∈ xs, (e x).depth ≤ 60) (ret (xs.mergeSort (PySem.W.dataLe false e)))
variable {K : PySem.W.Frag} {C : Cn} [Tbs C.K] {Γ : List Ety} {res : F → Oc} {N Bk Ct : Cont F}
theorem sb_retF {te : TE} {w : Wp F} {e : F → PyData} (h : EvG C Γ te w (fun r => RF C.K (e r))) (hr : ∀ r, res r = .fz (e r)) : SimB C res N Bk Ct (tRet te) Γ w := sb_ret (g := fun r => r) h hr
theorem sb_retSS {te : TE} {w : Wp F} {S : F → Sl} (h : EvG C Γ te w (fun r => RN (S r))) (hr : ∀ r, res r = .nw (S r)) : SimB C res N Bk Ct (tRet te) Γ w := sb_retS (g := fun r => r) h hr
theorem sb_setLK {i : Nat} {te ti : TE} {e : α → PyData} {xs : List α} {w : Wp α} {wi : Wp Int} {k : List α → Wp F} (h : Γ[i]? = some (.sl (ls C.K (xs.map e)))) (he : EvG C Γ te w (fun r => RF C.K (e r))) (hi : EvG C Γ ti wi (fun r => RF C.K (eI r)))
    (hk : ∀ ys, Lands N (Γ.set i (.sl (ls C.K (ys.map e)))) (k ys)) : SimB C res N Bk Ct (tAsg te (gSub (tVar i) ti rSetL)) Γ (setW xs w wi k) := sb_setL h he hi fun x j => hk _
theorem sb_appendK {i : Nat} {te : TE} {e : α → PyData} {xs : List α} {w : Wp α} {k : List α → Wp F} (h : Γ[i]? = some (.sl (ls C.K (xs.map e)))) (he : EvG C Γ te w (fun r => RF C.K (e r))) (hk : ∀ ys, Lands N (Γ.set i (.sl (ls C.K (ys.map e)))) (k ys)) :
    SimB C res N Bk Ct (tDrop (tBM C.K "list" rAppend (tVar i) (tCons te tNil))) Γ (appW xs w k) := sb_append h he fun x => hk _
theorem sb_extendK {i : Nat} {te : TE} {e : α → PyData} {xs : List α} {w : Wp (List α)} {k : List α → Wp F} (h : Γ[i]? = some (.sl (ls C.K (xs.map e)))) (he : EvG C Γ te w (fun r => RN (ls C.K (r.map e)))) (hk : ∀ ys, Lands N (Γ.set i (.sl (ls C.K (ys.map e)))) (k ys)) :
    SimB C res N Bk Ct (tDrop (tBM C.K "list" rExtend (tVar i) (tCons te tNil))) Γ (extW xs w k) := sb_extend h he fun x => hk _
/-! ### slices -/
def cutA (xs : List α) (lo hi : Option Int) : List α := (xs.drop (HT.sIx xs.length 0 lo)).take (HT.sIx xs.length xs.length hi - HT.sIx xs.length 0 lo)
def EvO (C : Cn) [Tbs C.K] (Γ : List Ety) (t : TO) (w : Wp (Option Int)) : Prop := ∀ (P : Option Int → Prop) (X : Xn → Prop), w P X → ∀ B σ H fp, En B Γ σ H fp → Exok C B X →
  ∀ Q : Option Int → Hp → Prop, (∀ b H', P b → Stp B H H' → Q b H') → t σ H Q
theorem eo_none : EvO C Γ tNoPart (ret none) := fun P X hw B σ H fp en ex Q q => q none H hw (.refl en.tps)
theorem eo_some {t : TE} {w : Wp Int} (h : EvG C Γ t w (fun r => RF C.K (eI r))) : EvO C Γ (tPart t) (bnd w fun i => ret (some i)) := fun P X hw B σ H fp en ex Q q =>
  h _ X hw B σ H fp en ex _ fun i v H' hp s hv => ⟨i, Fz.int_inv hv, q (some i) H' hp s⟩
theorem cut_fz {H : Hp} {vs : List V} {e : α → PyData} {xs : List α} (hz : FzAll K H vs (xs.map e)) (lo hi : Option Int) : FzAll K H (cutV vs lo hi) ((cutA xs lo hi).map e) := by
  have hl : vs.length = xs.length := by rw [hz.length, List.length_map]
  unfold cutV cutA
  rw [hl, List.map_take, List.map_drop]
  exact (hz.drop _).take _
theorem ev_slT {te : TE} {tl th : TO} {w : Wp (List α)} {wl wh : Wp (Option Int)} {e : α → PyData} (h : EvG C Γ te w (fun r => RF C.K (eT e r))) (hl : EvO C Γ tl wl) (hh : EvO C Γ th wh) :
    EvG C Γ (tSl (rSlA C.K) te tl th) (bnd w fun xs => bnd wl fun l => bnd wh fun u => ret (cutA xs l u)) (fun r => RF C.K (eT e r)) := fun P X hw B σ H fp en ex Q q => by
  refine h _ X hw B σ H fp en ex _ fun xs v H1 h1 s1 hv => ?_
  refine hl _ X h1 B σ H1 fp (en.step s1) ex _ fun l H2 h2 s2 => ?_
  refine hh _ X h2 B σ H2 fp ((en.step s1).step s2) ex _ fun u H3 h3 s3 => ?_
  have s13 := s2.trans s3
  obtain ⟨a, vs, rfl, hs, hz⟩ := Fz.tup_inv hv
  have hz3 := hz.stay (s13.stay s1.ts)
  have hs3 := sqT_stay (s13.stay s1.ts) hs
  have hc := cut_fz hz3 l u
  refine ⟨a, vs, rfl, hs3, fun hw0 => ?_, fun hw0 p hp => ?_⟩
  · have : cutV vs l u = vs := by
      unfold cutV
      rw [hw0.1, hw0.2, List.drop_zero, Nat.sub_zero, List.take_length]
    rw [this] at hc
    exact q _ _ H3 h3 (s1.trans s13) (.tup hs3 hc)
  · have s4 : Stp B H3 (upd H3 p (.tup (cutV vs l u))) := .new s3.ts hp
    exact q _ _ _ h3 ((s1.trans s13).trans s4) (.tup (.inl (.inl upd_same)) (hc.stay (s4.stay s3.ts)))
/-- t + u -/
theorem o_catT {e : α → PyData} (xs ys : List α) : OpG C (rCatA C.K) (RF C.K (eT e xs)) (RF C.K (eT e ys)) (grd (xs.length + ys.length ≤ 16777216) (ret (xs ++ ys))) (fun r => RF C.K (eT e r)) := fun P X hw B H0 H x y t0 ts hb hx hy Q q => by
  obtain ⟨a, vs, rfl, hs, hz⟩ := Fz.tup_inv hx
  obtain ⟨b, ws, rfl, hs2, hz2⟩ := Fz.tup_inv hy
  have hl := hz.length
  have hl2 := hz2.length
  rw [List.length_map] at hl hl2
  have hc : FzAll C.K H (vs ++ ws) ((xs ++ ys).map e) := by
    rw [List.map_append]
    exact hz.append hz2
  refine ⟨a, b, vs, ws, rfl, rfl, hs, hs2, by rw [hl, hl2]; exact hw.1, fun e0 => ?_, fun e1 e0 => ?_, fun e1 e2 p hp => ?_⟩
  · subst e0
    exact q _ _ H hw.2 (.refl ts) (.tup hs2 hc)
  · subst e0
    rw [List.append_nil] at hc
    exact q _ _ H hw.2 (.refl ts) (.tup hs hc)
  · have s : Stp B H (upd H p (.tup (vs ++ ws))) := .new ts hp
    exact q _ _ _ hw.2 s (.tup (.inl (.inl upd_same)) (hc.stay (s.stay ts)))
theorem ev_opNN {r : R2} {ta tb : TE} {wa : Wp α} {wb : Wp β} {S1 : α → Sl} {S2 : β → Sl} {w : α → β → Wp γ} {R : γ → Rk} (ha : EvG C Γ ta wa (fun x => RN (S1 x))) (hb : EvG C Γ tb wb (fun x => RN (S2 x))) (hr : ∀ a b, OpG C r (RN (S1 a)) (RN (S2 b)) (w a b) R) :
    EvG C Γ (tOp r ta tb) (bnd wa fun a => bnd wb fun b => w a b) R := ev_op ha (fun _ => hb) hr (fun _ => st_N) (fun _ _ => st_N)
/-! ### sorted, min: lists of data -/
theorem each_of {H : Hp} {e : β → PyData} : ∀ {xs : List V} {us : List Value} {bs : List β}, Vals xs us → FzAll K H xs (bs.map e) → PySem.W.EachIs (fun u b => ∃ x, RelV x u ∧ Fz K H x (e b)) us bs
  | _, _, [], r, h => by
    cases h
    cases r
    exact .nil
  | _, _, b :: bs, r, h => by
    cases h with
    | cons h1 h2 =>
      cases r with
      | cons r1 r2 => exact .cons ⟨_, r1, h1⟩ (each_of r2 h2)
theorem of_each {H : Hp} {e : β → PyData} : ∀ {us : List Value} {bs : List β}, PySem.W.EachIs (fun u b => ∃ x, RelV x u ∧ Fz K H x (e b)) us bs → ∃ xs, Vals xs us ∧ FzAll K H xs (bs.map e)
  | _, _, .nil => ⟨[], .nil, .nil⟩
  | _, _, .cons ⟨x, h1, h2⟩ t => by
    obtain ⟨xs, h3, h4⟩ := of_each t
    exact ⟨x :: xs, .cons h1 h3, .cons h2 h4⟩
def rSortD (K : PySem.W.Frag) : List V → Hp → VK → Prop := fun vs H Q => ∃ (β : Type) (a : Addr) (xs : List V) (bs : List β) (e : β → PyData), vs = [.ref a] ∧ SqL K H a xs ∧ FzAll K H xs (bs.map e) ∧ PySem.W.AllAlike (bs.map e) ∧ PySem.W.Sortable (bs.map e) ∧ bs.length ≤ sizeLine ∧
  (∀ b ∈ bs, (e b).depth ≤ 60) ∧ ∀ (ys : List V) (p : Addr), H p = none → FzAll K H ys ((bs.mergeSort (PySem.W.dataLe false e)).map e) → Q (.ref p) (upd H p (.lst ys))
theorem cr_sortD {X : Cx} (hu : X.A.units + 64 < cLine) : CallR X (.builtin "sorted") (rSortD X.K) := by
  intro pins s σ H vs us Q I r h
  obtain ⟨β, a, xs, bs, e, rfl, hs, hz, hal, hso, hlen, hdp, q⟩ := h
  obtain ⟨its, rv, hl, hsz⟩ := I.list hs
  rw [Vals.ref1 r]
  have er := each_of rv hz
  refine PySem.W.sorted_data (enc := e) (R := fun u b => ∃ x, RelV x u ∧ Fz X.K H x (e b)) hl.isList er (er.mono fun u b ⟨x, h1, h2⟩ => Dp.reads I _ _ _ h2.dp h1) hal hso hlen (fun b hb => ?_) fun out hol heach => ?_
  · have := hdp b hb
    omega
  · obtain ⟨ys, h1, h2⟩ := of_each heach
    obtain ⟨ep, he'⟩ := PyProof.Rows.sortedAll_at s.heap its out.toArray
    have hyl : ys.length ≤ sizeLine := by rw [h1.length, hol]; exact hlen
    exact ⟨.ref _, upd H (s.heap.objs.size + 1) (.lst ys), I.laid (t' := s.toks) (fun _ _ => PyProof.Rows.sortedAll_old) (Nat.le_succ _) ⟨hyl, out, ep, h1, he'⟩, rfl, q ys _ (I.hok.fresh (Nat.le_succ _)) h2⟩
theorem c_sortD {e : α → PyData} (xs : List α) : CaG C (rSortD C.K) [RL C.K (xs.map e)] (sortW e xs) (fun r => RN (ls C.K (r.map e))) := fun P X ⟨hg, hw⟩ B H0 H vs t0 ts hb h Q q => by
  cases h with
  | cons h1 h2 =>
    cases h2
    obtain ⟨p, ws, rfl, hs, hz⟩ := h1
    refine ⟨α, p, ws, xs, e, rfl, hs.sq, hz, hg.1, hg.2.1, hg.2.2.1, hg.2.2.2, fun ys l hl hy => ?_⟩
    have s : Stp B H (upd H l (.lst ys)) := .new ts hl
    exact q _ _ _ hw s ⟨[l], ⟨l, ys, rfl, rfl, upd_same, hy.stay (s.stay ts)⟩, fun a ha => by rw [List.mem_singleton.mp ha]; exact hb l hl⟩
theorem ev_unO {t : TE} {w : Wp (Option α)} {e : α → PyData} (h : EvG C Γ t w (fun r => RF C.K (eO e r))) : EvG C Γ t (bnd w fun o => opt o) (fun r => RF C.K (e r)) := fun P X hw B σ H fp en ex Q q =>
  h _ X hw B σ H fp en ex Q fun o v H' ⟨a, ho, hp⟩ s hv => by
    subst ho
    exact q a v H' hp s hv
end
end WL
/-! WL, part 8: the layer's rules with the written part said apart (so that they fit a comprehension's block too). -/
namespace WL
open PySem PySem.Spec PyProof.Rows L2
section
variable {X : Cx} {K : PySem.W.Frag}
theorem ix_tupK (h : X.K = K) : IxR X (rIxT K) := by subst h; exact ix_tup
theorem ix_listK (h : X.K = K) : IxR X (rIxL K) := by subst h; exact ix_list
theorem op_niK (h : X.K = K) : OpR X (compareOp .NotIn) (rIn K true) := by subst h; exact op_notIn_seq
theorem op_eqDK (h : X.K = K) (hu : X.A.units + 64 < cLine) : OpR X (compareOp .Eq) (rEqD K) := by subst h; exact op_eqD hu
theorem op_neDK (h : X.K = K) (hu : X.A.units + 64 < cLine) : OpR X (compareOp .NotEq) (rNeD K) := by subst h; exact op_neD hu
theorem call_lenK (h : X.K = K) : CallR X (.builtin "len") (rLen K) := by subst h; exact call_len_seq
theorem call_tupK (h : X.K = K) : CallR X (.type "tuple") (rTup K) := by subst h; exact call_tuple_of
theorem call_lstK (h : X.K = K) : CallR X (.type "list") (rLst K) := by subst h; exact call_list_of
theorem cr_allK (h : X.K = K) (hc : X.calm = true) : CallR X (.builtin "all") (rAll K) := by subst h; exact cr_all hc
theorem cr_sortDK (h : X.K = K) (hu : X.A.units + 64 < cLine) : CallR X (.builtin "sorted") (rSortD K) := by subst h; exact cr_sortD hu
theorem sl_tupK (h : X.K = K) : SlR X (rSlA K) := by subst h; exact sl_tupA
theorem op_catK (h : X.K = K) : OpR X (binaryOp .Add) (rCatA K) := by subst h; exact op_catA
theorem pg_tupK {es : List Expr} {k : Nat} {t : TGs} {n : Nat} {pos : Pos} (hK : X.K = K) (hc : X.calm = true) (h : PGs X es t)
    (hn : (assignEach es X.env).length = n := by rfl) (hst : (assignEach es X.env).findIdx? (·.1) = none := by rfl) : PG X (.Tuple es k pos) (gTup K n t) := by subst hK; exact pg_tup hc h hn hst
theorem pi_listK {tg l : Expr} {tl : TE} (hK : X.K = K) (hl : PE X l tl) : PI X tg l (iList K tl) := by subst hK; exact pi_list hl
theorem pi_tupK {tg l : Expr} {tl : TE} (hK : X.K = K) (hl : PE X l tl) : PI X tg l (iTup K tl) := by subst hK; exact pi_tup hl
theorem pt_truthK {a : Expr} {ta : TE} (hK : X.K = K) (ha : PE X a ta) (he : ∀ whole, isTrue a X.env whole = (do let v ← whole; standAt a.pos; holding [v] (truthy v))) :
    PT X a (fun σ H Q => ta σ H fun x H' => ∃ k, TruV K x H' k ∧ Q k H') := by subst hK; exact pt_truth ha he
theorem o_eqDW {C : Cn} [Tbs C.K] (d d' : PyData) : OpG C (rEqD C.K) (RF C.K d) (RF C.K d') (eqW d d') (fun r => RF C.K (eB r)) := o_eqD d d'
theorem o_neDW {C : Cn} [Tbs C.K] (d d' : PyData) : OpG C (rNeD C.K) (RF C.K d) (RF C.K d') (eqWN d d') (fun r => RF C.K (eB r)) := o_neD d d'
theorem ev_fdivW {C : Cn} [Tbs C.K] {Γ : List Ety} {n : Int} {ta : TE} {w : Wp Int} (hn : 0 < n ∧ n.natAbs.log2 < 9000) (ha : EvG C Γ ta w (fun x => RF C.K (eI x))) : EvG C Γ (tOp (rI CDivW fun i j => .int (i / j)) ta (tC (.int n))) (bnd w fun y => ret (y / n)) (fun r => RF C.K (eI r)) := fun P X hw B σ H fp en ex Q q =>
  ha _ X hw B σ H fp en ex _ fun y v H' hp s hv => ⟨y, n, Fz.int_inv hv, rfl, hn, q _ _ H' hp s (.int _)⟩
/-- the first part of a block by what it reaches -/
theorem seq_via {t u : TS} {D : Ends} {σ : L2.St} {H : Hp} (I : L2.St → Hp → Prop) (h : ∀ N : L2.St → Hp → Prop, (∀ σ H, I σ H → N σ H) → t { D with nx := N } σ H) (r : ∀ σ H, I σ H → u D σ H) : tSeq t u D σ H := h _ r
/-- the tape: a list of the cells, the place, the number, the mixture, the budget -/
def tape1 : Sl where
  own := fun H v fp => ∃ (p q : Addr) (cells : List Int) (a b c d : Int), v = .ref p ∧ fp = [p, q] ∧ p ≠ q ∧ H p = some (.lst [.ref q, .int a, .int b, .int c, .int d]) ∧ H q = some (.lst (cells.map V.int)) ∧ 0 ≤ a ∧ 0 ≤ b ∧ 0 ≤ c
  ro := false
  dom := fun h ha => by
    obtain ⟨p, q, cells, a, b, c, d, _, e, _, h1, h2, _⟩ := h
    rw [e] at ha
    rcases List.mem_cons.mp ha with rfl | ha
    · exact ⟨_, h1, rfl⟩
    · rw [List.mem_singleton.mp ha]
      exact ⟨_, h2, rfl⟩
  keep := fun h k => by
    obtain ⟨p, q, cells, a, b, c, d, e1, e, hne, h1, h2, r⟩ := h
    exact ⟨p, q, cells, a, b, c, d, e1, e, hne, k p _ h1 (.inl (by rw [e]; simp)), k q _ h2 (.inl (by rw [e]; simp)), r⟩
end
end WL
/-! WL, part 9: dicts of the def's own with int keys. -/
namespace WL
open PySem PySem.Spec PyProof.Rows L2
section
variable {α β F : Type}
def valI (kvs : List (Int × α)) (k : Int) : Option α := (kvs.find? fun p => decide (p.1 = k)).map (·.2)
def putI (kvs : List (Int × α)) (k : Int) (v : α) : List (Int × α) := if (kvs.any fun p => decide (p.1 = k)) = true then kvs.map (fun p => if p.1 = k then (p.1, v) else p) else kvs ++ [(k, v)]
/-- entries that stand for kvs -/
inductive DkAll (K : PySem.W.Frag) (H : Hp) : List (Key × V) → List (Int × PyData) → Prop
  | nil : DkAll K H [] []
  | cons {k : Int} {v : V} {d : PyData} {a : List (Key × V)} {b : List (Int × PyData)} : Fz K H v d → DkAll K H a b → DkAll K H ((.inl k, v) :: a) ((k, d) :: b)
theorem DkAll.stay {K : PySem.W.Frag} {H H' : Hp} (st : Stay H H') : ∀ {a : List (Key × V)} {b : List (Int × PyData)}, DkAll K H a b → DkAll K H' a b
  | _, _, .nil => .nil
  | _, _, .cons h t => .cons (h.stay st) (t.stay st)
theorem DkAll.length {K : PySem.W.Frag} {H : Hp} : ∀ {a : List (Key × V)} {b : List (Int × PyData)}, DkAll K H a b → a.length = b.length
  | _, _, .nil => rfl
  | _, _, .cons _ t => congrArg Nat.succ t.length
theorem DkAll.get {K : PySem.W.Frag} {H : Hp} (k : Int) : ∀ {a : List (Key × V)} {b : List (Int × PyData)}, DkAll K H a b → (valV a (.inl k)).isSome = (valI b k).isSome ∧ ∀ d, valI b k = some d → ∃ v, valV a (.inl k) = some v ∧ Fz K H v d
  | _, _, .nil => ⟨rfl, fun d e => by cases e⟩
  | _, _, @DkAll.cons _ _ k' v d a b h t => by
    by_cases e : k' = k
    · subst e
      have e1 : valV ((Sum.inl k', v) :: a) (.inl k') = some v := valV_pos rfl
      have e2 : valI ((k', d) :: b) k' = some d := by simp [valI, List.find?_cons]
      rw [e1, e2]
      exact ⟨rfl, fun d' e' => by cases e'; exact ⟨v, rfl, h⟩⟩
    · have e1 : valV ((Sum.inl k', v) :: a) (.inl k) = valV a (.inl k) := valV_neg (fun z => e (Sum.inl.inj z))
      have e2 : valI ((k', d) :: b) k = valI b k := by simp [valI, List.find?_cons, e]
      rw [e1, e2]
      exact t.get k
theorem DkAll.any {K : PySem.W.Frag} {H : Hp} (k : Int) : ∀ {a : List (Key × V)} {b : List (Int × PyData)}, DkAll K H a b → (a.any fun kv => decide (kv.1 = .inl k)) = b.any fun p => decide (p.1 = k)
  | _, _, .nil => rfl
  | _, _, @DkAll.cons _ _ k' v d a b h t => by
    rw [List.any_cons, List.any_cons, t.any k]
    congr 1
    by_cases e : k' = k
    · subst e; simp
    · have : ¬ (Sum.inl k' : Key) = .inl k := fun z => e (Sum.inl.inj z)
      simp [e]
theorem DkAll.snoc {K : PySem.W.Frag} {H : Hp} {k : Int} {v : V} {d : PyData} (h : Fz K H v d) : ∀ {a : List (Key × V)} {b : List (Int × PyData)}, DkAll K H a b → DkAll K H (a ++ [(.inl k, v)]) (b ++ [(k, d)])
  | _, _, .nil => .cons h .nil
  | _, _, .cons h' t => .cons h' (t.snoc h)
theorem DkAll.over {K : PySem.W.Frag} {H : Hp} {k : Int} {v : V} {d : PyData} (h : Fz K H v d) : ∀ {a : List (Key × V)} {b : List (Int × PyData)}, DkAll K H a b → DkAll K H (a.map fun kv => if kv.1 = .inl k then (kv.1, v) else kv) (b.map fun p => if p.1 = k then (p.1, d) else p)
  | _, _, .nil => .nil
  | _, _, @DkAll.cons _ _ k' v' d' a b h' t => by
    rw [List.map_cons, List.map_cons]
    by_cases e : k' = k
    · subst e
      rw [if_pos rfl, if_pos rfl]
      exact .cons h (t.over h)
    · rw [if_neg (fun z => e (Sum.inl.inj z)), if_neg e]
      exact .cons h' (t.over h)
theorem DkAll.put {K : PySem.W.Frag} {H : Hp} {k : Int} {v : V} {d : PyData} {a : List (Key × V)} {b : List (Int × PyData)} (t : DkAll K H a b) (h : Fz K H v d) : DkAll K H (putK a (.inl k) v) (putI b k d) := by
  unfold putK putI
  rw [t.any k]
  split
  · exact t.over h
  · exact t.snoc h
variable {K : PySem.W.Frag} {C : Cn} [Tbs C.K] {Γ : List Ety}
/-! sorted(d) -/
end
end WL
/-! WL, part 10: the law itself: the script's tape, the rest, the end. -/
namespace WL
open PySem PySem.Spec PyProof.Rows L2
/-- the tape of a script -/
def spTape (K : PySem.W.Frag) : Sp := fun vs H Q _ => ∃ (p : Addr) (ns : List Int) (z : Int), vs = [.ref p, .int z] ∧ SqL K H p (ns.map V.int) ∧ ∀ H' a b, (∀ x o, H x = some o → H' x = some o) → tape1.own H' (.ref a) [a, b] → Q (.ref a) H'
theorem tape_new {K : PySem.W.Frag} {H : Hp} {Q : VK} {p : Addr} {ns : List Int} {z : Int} (hs : SqL K H p (ns.map V.int)) (q : ∀ H' a b, (∀ x o, H x = some o → H' x = some o) → tape1.own H' (.ref a) [a, b] → Q (.ref a) H') :
    (fun xs H Q => ∃ p ys, xs = [V.ref p] ∧ (SqL K H p ys ∨ SqT K H p ys) ∧ ∀ l, H l = none → Q (.ref l) (upd H l (.lst ys)) : List V → Hp → VK → Prop) [.ref p] H fun x H1 => ∀ a, H1 a = none → Q (.ref a) (upd H1 a (.lst [x, .int 0, .int 0, .int 1, .int z])) := by
  refine ⟨p, _, rfl, .inl hs, fun l hl a ha => q _ a l (fun x o e => ?_) ⟨a, l, ns, 0, 0, 1, z, rfl, rfl, (ne_of_none upd_same ha).symm, upd_same, ?_, by decide, by decide, by decide⟩⟩
  · have h1 : x ≠ l := ne_of_none e hl
    have e1 : upd H l (.lst (ns.map V.int)) x = some o := by rw [upd_ne h1]; exact e
    rw [upd_ne (ne_of_none e1 ha)]
    exact e1
  · rw [upd_ne (ne_of_none upd_same ha)]
    exact upd_same
end WL
/-! WL, part 11: what a transformer is sure to answer. -/
namespace WL
open PySem
variable {α β γ S F : Type}
/-- m answers, raises nothing, and what it answers has Q -/
def Ens (m : Wp α) (Q : α → Prop) : Prop := ∀ (P : α → Prop) (X : Xn → Prop), (∀ v, Q v → P v) → m P X
theorem Ens.mono {m : Wp α} {Q R : α → Prop} (h : Ens m Q) (k : ∀ v, Q v → R v) : Ens m R := fun P X hp => h P X fun v hv => hp v (k v hv)
theorem en_ret {a : α} {Q : α → Prop} (h : Q a) : Ens (ret a) Q := fun P X hp => hp a h
theorem en_eq (a : α) : Ens (ret a) (fun v => v = a) := en_ret rfl
theorem en_bnd {m : Wp α} {k : α → Wp β} {R : α → Prop} {Q : β → Prop} (h : Ens m R) (hk : ∀ a, R a → Ens (k a) Q) : Ens (bnd m k) Q := fun P X hp => h _ X fun a ha => hk a ha P X hp
theorem en_bndE {m : Wp α} {k : α → Wp β} {a : α} {Q : β → Prop} (h : Ens m (fun v => v = a)) (hk : Ens (k a) Q) : Ens (bnd m k) Q := en_bnd h fun _ e => e ▸ hk
theorem en_grd {c : Prop} {m : Wp α} {Q : α → Prop} (hc : c) (h : Ens m Q) : Ens (grd c m) Q := fun P X hp => ⟨hc, h P X hp⟩
theorem en_opt {o : Option α} {a : α} {Q : α → Prop} (e : o = some a) (h : Q a) : Ens (opt o) Q := fun P X hp => ⟨a, e, hp a h⟩
theorem en_optE {o : Option α} {a : α} (e : o = some a) : Ens (opt o) (fun v => v = a) := en_opt e rfl
theorem en_sel {b : Bool} {m n : Wp α} {Q : α → Prop} (h1 : b = true → Ens m Q) (h2 : b = false → Ens n Q) : Ens (sel b m n) Q := by
  cases b with
  | true => exact h1 rfl
  | false => exact h2 rfl
theorem en_any {p : α → Prop} {Q : α → Prop} (h : ∀ a, p a → Q a) : Ens (anyW p) Q := fun P X hp a ha => hp a (h a ha)
theorem en_noX {m : Wp α} {Q : α → Prop} (h : Ens m Q) : Ens (noX m) Q := fun P X hp => h P _ hp
theorem en_letK {k : S → Wp F} {f : (S → Wp F) → Wp F} {Q : F → Prop} {I : S → Prop} (hk : ∀ s, I s → Ens (k s) Q) (hf : ∀ k' : S → Wp F, (∀ s, I s → Ens (k' s) Q) → Ens (f k') Q) : Ens (letK k f) Q := hf k hk
/-- a loop: an invariant by what is walked -/
theorem en_for {body : α → S → (S → Wp F) → (S → Wp F) → Wp F} {exit : S → Wp F} {Q : F → Prop} (I : List α → S → Prop) (xs : List α) {s : S} (h0 : I [] s)
    (hb : ∀ pre x post s k, xs = pre ++ x :: post → I pre s → (∀ s', I (pre ++ [x]) s' → Ens (k s') Q) → Ens (body x s k exit) Q) (hx : ∀ s, I xs s → Ens (exit s) Q) : Ens (forK body exit xs s) Q := by
  have : ∀ (post pre : List α) (s : S), xs = pre ++ post → I pre s → Ens (forK body exit post s) Q := by
    intro post
    induction post with
    | nil =>
      intro pre s e h
      rw [List.append_nil] at e
      exact hx s (e ▸ h)
    | cons x post ih =>
      intro pre s e h
      exact hb pre x post s _ e h fun s' h' => ih (pre ++ [x]) s' (by rw [e]; simp) h'
  exact this xs [] s rfl h0
theorem en_while {c : S → Wp Bool} {body : S → (S → Wp F) → (S → Wp F) → Wp F} {exit : S → Wp F} {Q : F → Prop} (I : S → Prop) (b : S → Bool) (μ : S → Nat) {s : S} (h0 : I s) (hc : ∀ s, I s → Ens (c s) (fun v => v = b s))
    (hb : ∀ s k, I s → b s = true → (∀ s', I s' → μ s' < μ s → Ens (k s') Q) → Ens (body s k exit) Q) (hx : ∀ s, I s → b s = false → Ens (exit s) Q) : Ens (whileW c body exit s) Q := by
  have : ∀ (n : Nat) (s : S), I s → μ s < n → Ens (whileK c body exit n s) Q := by
    intro n
    induction n with
    | zero => intro s _ h; omega
    | succ n ih =>
      intro s h hm
      exact en_bndE (hc s h) (en_sel (fun e => hb s _ h e fun s' h' hl => ih s' h' (by omega)) fun e => hx s h e)
  exact fun P X hp => ⟨μ s + 1, this _ s h0 (by omega) P X hp⟩
/-- a comprehension that is sure of its answer -/
theorem en_lcW {c : α → Wp Bool} {f : α → Wp β} {p : α → Bool} {g : α → β} : ∀ (xs : List α), (∀ x ∈ xs, Ens (c x) (fun v => v = p x)) → (∀ x ∈ xs, p x = true → Ens (f x) (fun v => v = g x)) → Ens (lcW c f xs) (fun v => v = (xs.filter p).map g)
  | [], _, _ => en_eq _
  | x :: xs, h1, h2 => by
    have ih := en_lcW xs (fun y hy => h1 y (List.mem_cons_of_mem _ hy)) fun y hy => h2 y (List.mem_cons_of_mem _ hy)
    refine en_bndE (h1 x List.mem_cons_self) (en_sel (fun e => ?_) fun e => ?_)
    · rw [List.filter_cons_of_pos e]
      exact en_bndE (h2 x List.mem_cons_self e) (en_bndE ih (en_eq _))
    · rw [List.filter_cons_of_neg (by rw [e]; decide)]
      exact ih
theorem en_lc {c : α → Wp Bool} {f : α → Wp β} (p : α → Bool) (g : α → β) (xs : List α) (hl : xs.length ≤ 16777216) (h1 : ∀ x ∈ xs, Ens (c x) (fun v => v = p x)) (h2 : ∀ x ∈ xs, p x = true → Ens (f x) (fun v => v = g x)) : Ens (lcG c f xs) (fun v => v = (xs.filter p).map g) :=
  en_grd hl (en_noX (en_lcW xs h1 h2))
theorem en_lcF {c : α → Wp Bool} {f : α → Wp α} (p : α → Bool) (xs : List α) (hl : xs.length ≤ 16777216) (h1 : ∀ x ∈ xs, Ens (c x) (fun v => v = p x)) (h2 : ∀ x ∈ xs, p x = true → Ens (f x) (fun v => v = x)) : Ens (lcG c f xs) (fun v => v = xs.filter p) := by
  have := en_lc p (fun x => x) xs hl h1 h2
  simpa using this
theorem en_app {xs : List α} {w : Wp α} {k : List α → Wp F} {R : α → Prop} {Q : F → Prop} (h : Ens w R) (hl : xs.length < 16777216) (hk : ∀ a, R a → Ens (k (xs ++ [a])) Q) : Ens (appW xs w k) Q := en_bnd h fun a ha => en_grd hl (hk a ha)
theorem en_ext {xs : List α} {w : Wp (List α)} {k : List α → Wp F} {R : List α → Prop} {Q : F → Prop} (h : Ens w R) (hl : ∀ ys, R ys → xs.length + ys.length ≤ 16777216) (hk : ∀ ys, R ys → Ens (k (xs ++ ys)) Q) : Ens (extW xs w k) Q := en_bnd h fun a ha => en_grd (hl a ha) (hk a ha)
theorem rng_small {i : Int} (h0 : 0 ≤ i) (h1 : i < 1000000) : Rng i := ⟨by omega, by omega⟩
theorem mem_span {lo : Int} {n : Nat} {x : Int} : x ∈ span lo n ↔ lo ≤ x ∧ x < lo + n := by
  unfold span
  rw [List.mem_map]
  constructor
  · rintro ⟨k, hk, rfl⟩
    rw [List.mem_range] at hk
    omega
  · rintro ⟨h1, h2⟩
    exact ⟨(x - lo).toNat, List.mem_range.mpr (by omega), by omega⟩
end WL
/-! WL, part 12: comprehensions with two for. -/
namespace WL
open PySem PySem.Spec PyProof.Rows L2
end WL
/-! WL, part 13: enumerate of a tuple. -/
namespace WL
open PySem PySem.Spec PyProof.Rows L2
set_option maxHeartbeats 1000000 in
theorem enum_newB1 {v : Value} {o : Obj} {H : Heap → Prop} (B : Begins v o H) :
    Meets (Builtin.«enumerate.__new__» ⟨[.type "enumerate", v], []⟩) (fun _ R s => H s.heap ∧
      R (.ok (.ret (.ref (s.heap.push o).objs.size))) { s with heap := (s.heap.push o).push { cls := .type "enumerate", data := .fields #[.none, .bool false, .ref s.heap.objs.size, rawInt 0, .none, .none] } }) :=
  .of_wp fun prog w A R s h => by
    obtain ⟨hp, g, d, tk, os⟩ := s
    obtain ⟨h1, h⟩ := h
    have hsub := sub_enumerate
    have q1 : ∀ {A' : Around} {E : Value → Shared → Prop} {Q : Value → Shared → Prop}, Q (.ref hp.objs.size) ⟨hp.push o, g, d, tk, os⟩ → wpAny (model prog w) A' (pyIter v) Q E ⟨hp, g, d, tk, os⟩ := fun q => B.iter prog w _ _ ⟨hp, g, d, tk, os⟩ _ h1 q
    wp_walk using q1
    refine wpAny_stack_any fun st => wpAny_pure ?_
    split
    · rename_i c _ _ _ _ _
      cases (c == Value.type "enumerate") <;> (wp_walk using q1; exact ⟨_, rfl, h⟩)
    · wp_walk using q1
      exact ⟨_, rfl, h⟩
section
variable {prog : Program} {w : World} {A : Around} {E : Value → Shared → Prop} {s : Shared}
theorem enum_call1 {v : Value} {o : Obj} {H : Heap → Prop} {Q : Value → Shared → Prop} (B : Begins v o H) (h1 : H s.heap)
    (h : ∀ h', IsEnum h' (s.heap.objs.size + 1) s.heap.objs.size 0 .none → h'.get? s.heap.objs.size = some o → h'.objs.size = s.heap.objs.size + 2 → (∀ b o, s.heap.get? b = some o → h'.get? b = some o) → Q (.ref (s.heap.objs.size + 1)) { s with heap := h' }) :
    wpAny (model prog w) A (call (.type "enumerate") [v]) Q E s := by
  refine callType_new F.called_enumerate (by decide) (F.typeCall_enumerate_1 _) (F.newCall_enumerate_1 _) (fun obj => F.args_object_init_2 obj _) F.entry_enumerate_new (enum_newB1 B) ⟨h1, ?_⟩
  have hz : (s.heap.push o).objs.size = s.heap.objs.size + 1 := Heap.size_push ..
  show _ ∧ _
  rw [hz]
  have he : IsEnum ((s.heap.push o).push { cls := .type "enumerate", data := .fields #[.none, .bool false, .ref s.heap.objs.size, rawInt 0, .none, .none] }) (s.heap.objs.size + 1) s.heap.objs.size 0 .none := by
    have := Heap.get?_push_size (s.heap.push o) (o := { cls := .type "enumerate", data := .fields #[.none, .bool false, .ref s.heap.objs.size, rawInt 0, .none, .none] }) rfl
    rw [hz] at this
    exact this
  exact ⟨⟨_, he, rfl⟩, h _ he (Heap.get?_push_of_some _ (Heap.get?_push_size _ B.free)) (by rw [Heap.size_push, hz]) fun b o x => Heap.get?_push_of_some _ (Heap.get?_push_of_some _ x)⟩
end
/-- an iterator that is at its end -/
theorem drained {prog : Program} {w : World} {A : Around} (hh : A.handled = none) (it t : Addr) (i : Nat) {items : Array Value} (hi : items.size ≤ i) :
    Draws prog w A it [it, t] i (fun _ _ => False) (fun j h => j = i ∧ h.IsTupleIter it t i ∧ h.IsTuple t items) where
  live := fun _ _ st => let ⟨o, ho, _⟩ := st.2.1; ⟨o, ho⟩
  frame := fun _ _ _ st hk => ⟨st.1, st.2.1.at fun o e => hk it (by simp) o e, st.2.2.at fun o e => hk t (by simp) o e⟩
  item := fun j s Q E hj st _ => absurd st.1 (Nat.ne_of_lt hj)
  done := fun s Q E st hE => wpAny_nextOf_tuple_end hh st.2.1 st.2.2 (by simp; omega) hE
/-- the tuple at a, each item in a new pair -/
def IteT (K : PySem.W.Frag) (a : Addr) : It :=
  ⟨fun i H => ∃ (xs : List V) (x : V), SqT K H a xs ∧ xs[i]? = some x, fun i H v H' => ∃ T x, v = .ref T ∧ H T = none ∧ H' = upd H T (.tup [.int (i : Nat), x]) ∧ ∀ xs, SqT K H a xs → xs[i]? = some x, fun i H => ∃ xs : List V, SqT K H a xs ∧ xs.length ≤ i⟩
theorem turn_enumT {P : Program} {w : World} {K : PySem.W.Frag} {elts : List Expr} {kk : Nat} {tpos : Pos} (a e it : Addr) :
    Turn P w K (.Tuple elts kk tpos) (IteT K a) [e, it] e (fun i h => (∃ old, IsEnum h e it ((i : Nat) : Int) old) ∧ h.IsTupleIter it a i ∧ e ≠ it ∧ a ≠ it ∧ a ≠ e) where
  mem := by simp
  obj := fun i h st b hb => by
    obtain ⟨⟨old, he⟩, ⟨o, ho, hc, hd⟩, _⟩ := st
    have e' : b = e ∨ b = it := by simpa using hb
    rcases e' with z | z
    · rw [z]; exact ⟨_, he, fun v q => nomatch q⟩
    · rw [z]; exact ⟨o, ho, fun v q => by rw [hd] at q; cases q⟩
  keep := fun i h h' st k => let ⟨⟨old, he⟩, hi, hne⟩ := st; ⟨⟨old, k e (by simp) _ he⟩, hi.at fun o q => k it (by simp) o q, hne⟩
  item := by
    intro X hP hw hK hc i pins s σ H E I hf st hg
    subst hP hw hK
    obtain ⟨⟨old, he⟩, hit, hne, hai, hae⟩ := st
    obtain ⟨xs, x, hq, hx⟩ := hg
    obtain ⟨its, rv, p, hz⟩ := I.tuple hq
    obtain ⟨u, hu, ru⟩ := rv.get hx
    have hel : e < s.heap.objs.size := Heap.lt_size he
    have hil : it < s.heap.objs.size := by obtain ⟨_, q, _⟩ := hit; exact Heap.lt_size q
    have hlt : i < its.toArray.size := by
      have := (List.getElem?_eq_some_iff.mp hu).1
      simpa using this
    refine wpAny_pyNext_enum_itemD (Draws.tuple (prog := X.prog) (w := X.w) (A := X.A.in1) (I.ok.hd hc) it a hai its.toArray) he ⟨hit, p⟩ hlt hne (by simp; exact ⟨hne, fun z => hae z.symm⟩) fun x' h' tk hx' ho hst' hT hsz hk => ?_
    have ex : x' = u := by
      rw [List.getElem?_toArray, hu] at hx'
      exact (Option.some.inj hx').symm
    subst ex
    refine ⟨_, rfl, wpAny_letOwnedTupleGo_enum (s := { s with heap := h', toks := tk + 1 }) ho fun h'' he' sb => ?_⟩
    have hT2 : h''.get? s.heap.objs.size = some { cls := .type "tuple", data := .seq #[.int i tk, x'] } := (sb.2 _ (Nat.ne_of_gt hel)).trans hT
    have new : ObjOk X.prog X.w (upd H s.heap.objs.size (.tup [.int (i : Nat), x])) h'' s.heap.objs.size (.tup [.int (i : Nat), x]) :=
      ⟨by show 2 ≤ sizeLine; decide, [.int i tk, x'], .cons ⟨_, rfl⟩ (.cons ru .nil), ⟨_, hT2, rfl, _, rfl⟩⟩
    have I1 : Inv X pins σ (upd H s.heap.objs.size (.tup [.int (i : Nat), x])) { s with heap := h'', toks := tk + 1 } :=
      I.turnedNew (ch := [e, it]) (fun b ob hb q => (sb.2 b (fun z => hb (by simp [z]))).trans (hk b ob (fun z => hb (by simp [z])) (fun z => hb (by simp [z])) q)) hf (Nat.le_refl _) new
    refine ⟨.ref s.heap.objs.size, _, I1, rfl, ⟨_, x, rfl, I.hok.fresh (Nat.le_refl _), rfl, fun ys hy => by rw [I.tuple_inj hy hq]; exact hx⟩, ⟨⟨x', ?_⟩, hst'.1.at fun o q => (sb.2 it (Ne.symm hne)).trans q, hne, hai, hae⟩, fun b hb => ?_⟩
    · have e1 : ((i + 1 : Nat) : Int) = (i : Int) + 1 := by omega
      rw [e1]; exact he'
    · have hb' : b < s.heap.objs.size := by
        have e' : b = e ∨ b = it := by simpa using hb
        rcases e' with z | z
        · rw [z]; exact hel
        · rw [z]; exact hil
      rw [upd_ne (Nat.ne_of_lt hb')]
      exact (hf b hb).1
  done := by
    intro X hP hw hK hc i pins s σ H E I hf st hg
    subst hP hw hK
    obtain ⟨⟨old, he⟩, hit, hne, hai, hae⟩ := st
    obtain ⟨xs, hq, hx⟩ := hg
    obtain ⟨its, rv, p, hz⟩ := I.tuple hq
    obtain ⟨f0, f1, f2, f3, f4, f5⟩ := hf it (by simp)
    have hl := rv.length
    exact wpAny_pyNext_enum_endD (drained (prog := X.prog) (w := X.w) (A := X.A.in1) (I.ok.hd hc) it a i (by simp; omega)) he ⟨rfl, hit, p⟩ fun h' eb => ⟨rfl, I.turned (t' := s.toks) (fun b o hb q => eb b o hb q) f0 f1 f3 f4 f5⟩
  self := fun A i s Q E st h => let ⟨⟨_, he⟩, _⟩ := st; wpAny_pyIter_enum he h
def iEnumT (K : PySem.W.Frag) (ta : TA) : TI := fun σ H R => ta σ H fun vs H1 => ∃ a xs, vs = [.ref a] ∧ SqT K H1 a xs ∧ R (IteT K a) H1
theorem pi_enumT {X : Cx} {K : PySem.W.Frag} (hK : X.K = K) {e : Expr} {ta : TA} {p pos tpos : Pos} {elts : List Expr} {kk : Nat} (hg : Gl X "enumerate") (hm : X.mg "enumerate" = none) (ha : PA X [e] ta) (hs : starEach [e] X.env = [(false, eval e X.env)] := by rfl) :
    PI X (.Tuple elts kk tpos) (.Call (.Name "enumerate" p) [e] [] pos) (iEnumT K ta) := by
  subst hK
  refine ⟨fun pins s σ H R I h => ?_⟩
  refine Call_ (ld_blt I hg hm boot_enumerate (PyProof.Rows.callWith_type1 (thn (ha.run pos pins s σ H _ I h) fun us s1 ⟨vs, H1, I1, r1, q1⟩ => ?_) hs rfl))
  obtain ⟨a, xs, ex, hq, q⟩ := q1
  subst ex
  cases r1 with
  | cons r rr =>
    cases rr
    cases r
    obtain ⟨its, rv, p', hz⟩ := I1.tuple hq
    have hal : a < s1.heap.objs.size := by obtain ⟨o, q, _⟩ := p'; exact Heap.lt_size q
    refine enum_call1 (begins_tuple a its.toArray) p' fun h' he hit hsz hk => wpAny_pyIter_enum he ?_
    have I2 : Inv X pins σ H1 { s1 with heap := h' } := I1.kept (t' := s1.toks) hk
    refine ⟨s1.heap.objs.size + 1, [s1.heap.objs.size + 1, s1.heap.objs.size], _, _, H1, rfl, I2, turn_enumT a (s1.heap.objs.size + 1) s1.heap.objs.size, ⟨⟨.none, he⟩, ⟨_, hit, rfl, rfl⟩, Nat.succ_ne_self _, Nat.ne_of_lt hal, Nat.ne_of_lt (Nat.lt_succ_of_lt hal)⟩, fun b hb => ?_, q⟩
    have e' : b = s1.heap.objs.size + 1 ∨ b = s1.heap.objs.size := by simpa using hb
    have hle : s1.heap.objs.size ≤ b := by
      rcases e' with z | z
      · rw [z]; exact Nat.le_add_right _ _
      · rw [z]; exact Nat.le_refl _
    exact I1.fpOk hle (I1.hok.fresh hle)
section
variable {α : Type} {C : Cn} [Tbs C.K] {Γ : List Ety}
def enumI (xs : List α) : List (Int × α) := (span 0 xs.length).zip xs
theorem enumI_length (xs : List α) : (enumI xs).length = xs.length := by
  unfold enumI
  rw [List.length_zip, span_length, Nat.min_self]
theorem enumI_get {xs : List α} {i : Nat} {x : α} (h : xs[i]? = some x) : (enumI xs)[i]? = some ((i : Int), x) := by
  obtain ⟨hi, e⟩ := List.getElem?_eq_some_iff.mp h
  unfold enumI
  rw [List.getElem?_zip_eq_some.mpr]
  refine ⟨?_, h⟩
  unfold span
  rw [List.getElem?_map, List.getElem?_range hi]
  show some ((0 : Int) + (i : Int)) = some (i : Int)
  congr 1
  omega
theorem it_enumT {te : TE} {w : Wp (List α)} {e : α → PyData} (h : EvG C Γ te w (fun r => RF C.K (eT e r))) : ItG C Γ (iEnumT C.K (tCons te tNil)) (bnd w fun xs => ret (enumI xs)) (fun r => r.map (e2 eI e)) noOwn := fun P X hw B σ H fp en ex R q => by
  refine h _ X hw B σ H fp en ex _ fun r v H1 hp s hr => ?_
  obtain ⟨a, vs, rfl, hs, hz⟩ := Fz.tup_inv hr
  have hlen := hz.length
  rw [List.length_map] at hlen
  refine ⟨a, vs, rfl, hs, q (enumI r) _ H1 [] hp s ⟨fun a h => absurd h (by simp), fun i H2 st hi => ?_, fun i H2 st hi => ⟨vs, sqT_stay (fun a o e z => st a o e (.inr z)) hs, by rw [List.length_map, enumI_length] at hi; omega⟩⟩ fun a h => absurd h (by simp)⟩
  have stay : Stay H1 H2 := fun a o e z => st a o e (.inr z)
  have hs2 := sqT_stay stay hs
  rw [List.length_map, enumI_length] at hi
  have hi2 : i < vs.length := by omega
  refine ⟨⟨vs, vs[i], hs2, List.getElem?_eq_getElem hi2⟩, fun x H3 hy => ?_⟩
  obtain ⟨T, y, rfl, hT, rfl, hx⟩ := hy
  obtain ⟨d, hd, hf⟩ := (hz.stay stay).getV (hx vs hs2)
  have keep : ∀ a o, H2 a = some o → upd H2 T (.tup [.int (i : Nat), y]) a = some o := fun a o e => by
    rw [upd_ne (ne_of_none e hT)]
    exact e
  rw [List.getElem?_map] at hd
  have hr2 : r[i]? = some r[i] := List.getElem?_eq_getElem hi
  rw [hr2] at hd
  cases hd
  refine ⟨keep, e2 eI e ((i : Int), r[i]), by rw [List.getElem?_map, enumI_get hr2]; rfl, ?_⟩
  exact .tup (.inl (.inl upd_same)) (.cons (.int _) (.one (hf.stay fun a o e _ => keep a o e)))
end
end WL
/-! WL, part 14: lists of lists that are read; `in` for data. -/
namespace WL
open PySem PySem.Spec PyProof.Rows L2
section
variable {α β γ : Type} {C : Cn} [Tbs C.K] {Γ : List Ety} {K : PySem.W.Frag}
/-- lists at addresses -/
inductive LA (K : PySem.W.Frag) (H : Hp) : List Addr → List (List PyData) → Prop
  | nil : LA K H [] []
  | cons {r : Addr} {vs : List V} {ds : List PyData} {rs : List Addr} {dss : List (List PyData)} : H r = some (.lst vs) → FzAll K H vs ds → LA K H rs dss → LA K H (r :: rs) (ds :: dss)
theorem LA.keep {H H' : Hp} : ∀ {rs : List Addr} {dss : List (List PyData)}, LA K H rs dss → (∀ a o, H a = some o → (a ∈ rs ∨ still o = true) → H' a = some o) → LA K H' rs dss
  | _, _, .nil, _ => .nil
  | _, _, .cons h1 h2 h3, k => .cons (k _ _ h1 (.inl List.mem_cons_self)) (h2.stay fun a o e z => k a o e (.inr z)) (h3.keep fun a o e z => k a o e (z.imp (List.mem_cons_of_mem _) id))
theorem LA.snoc {H : Hp} {r : Addr} {vs : List V} {ds : List PyData} (h1 : H r = some (.lst vs)) (h2 : FzAll K H vs ds) : ∀ {rs : List Addr} {dss : List (List PyData)}, LA K H rs dss → LA K H (rs ++ [r]) (dss ++ [ds])
  | _, _, .nil => .cons h1 h2 .nil
  | _, _, .cons a b c => .cons a b (c.snoc h1 h2)
theorem LA.length {H : Hp} : ∀ {rs : List Addr} {dss : List (List PyData)}, LA K H rs dss → rs.length = dss.length
  | _, _, .nil => rfl
  | _, _, .cons _ _ h => congrArg Nat.succ h.length
theorem LA.at {H : Hp} : ∀ {rs : List Addr} {dss : List (List PyData)} {i : Nat} {ds : List PyData}, LA K H rs dss → dss[i]? = some ds → ∃ r vs, rs[i]? = some r ∧ H r = some (.lst vs) ∧ FzAll K H vs ds
  | _, _, 0, _, .cons a b _, e => by cases e; exact ⟨_, _, rfl, a, b⟩
  | _, _, i + 1, _, .cons _ _ c, e => c.at (i := i) e
  | _, _, 0, _, .nil, e => by cases e
  | _, _, _ + 1, _, .nil, e => by cases e
theorem LA.mem {H : Hp} : ∀ {rs : List Addr} {dss : List (List PyData)} {r : Addr}, LA K H rs dss → r ∈ rs → ∃ vs, H r = some (.lst vs)
  | _, _, _, .cons a b c, h => by
    rcases List.mem_cons.mp h with rfl | h
    · exact ⟨_, a⟩
    · exact c.mem h
def ls2 (K : PySem.W.Frag) (dss : List (List PyData)) : Sl where
  own := fun H v fp => ∃ (p : Addr) (rs : List Addr), v = .ref p ∧ fp = p :: rs ∧ (p :: rs).Nodup ∧ H p = some (.lst (rs.map V.ref)) ∧ LA K H rs dss
  ro := false
  dom := fun h ha => by
    obtain ⟨p, rs, _, e, _, hp, hl⟩ := h
    rw [e] at ha
    rcases List.mem_cons.mp ha with rfl | ha
    · exact ⟨_, hp, rfl⟩
    · obtain ⟨vs, hv⟩ := hl.mem ha
      exact ⟨_, hv, rfl⟩
  keep := fun h k => by
    obtain ⟨p, rs, e1, e2, nd, hp, hl⟩ := h
    exact ⟨p, rs, e1, e2, nd, k p _ hp (.inl (by rw [e2]; exact List.mem_cons_self)), hl.keep fun a o e z => k a o e (z.imp (fun m => by rw [e2]; exact List.mem_cons_of_mem _ m) id)⟩
def e2L (e : β → PyData) (r : List (List β)) : List (List PyData) := r.map fun x => x.map e
theorem ev_lcN {wi : TI} {g : TG} {tt : TT} {te : TE} {vs : List Nat} {w : Wp (List α)} {e : α → PyData} {own : Nat → Bool} {c : α → Wp Bool} {f : α → Wp (List β)} {e' : β → PyData} {Γb : α → List Ety} (hi : ItG C Γ wi w (fun r => r.map e) own)
    (hg : ∀ x, TgG C.K (unA Γ vs) g vs (e x) (Γb x)) (ht : ∀ x, EvT C.nox (Γb x) tt (c x)) (hf : ∀ x, EvG C.nox (Γb x) te (f x) (fun r => RN (ls C.K (r.map e')))) :
    EvG C Γ (tLc wi g tt te vs) (bnd w fun xs => lcG c f xs) (fun r => RN (ls2 C.K (e2L e' r))) := fun P X hw B σ H fp en ex Q q => by
  refine hi _ X hw B σ H fp en ex _ fun xs J H1 sup hp s1 ok hsup => ?_
  obtain ⟨hlen, hp⟩ := hp
  intro D hD
  have hD0 : H D = none := s1.back en.tps hD
  have offD : B.off D := s1.ts.new hD
  have hBD : B.H D = none := by
    cases z : B.H D with
    | none => rfl
    | some o =>
      obtain ⟨o', e', _⟩ := (en.step s1).fr D o z
      rw [hD] at e'; cases e'
  have nD : ∀ i, D ∉ fp i := fun i hm => by
    obtain ⟨S, hS⟩ := en.lt hm
    obtain ⟨v, _, ho⟩ := en.sl i S hS
    obtain ⟨o, eo, _⟩ := S.dom ho hm
    rw [hD0] at eo; cases eo
  have nsup : D ∉ sup := fun hm => by
    obtain ⟨_, o, eo⟩ := ok.sp D hm
    rw [hD] at eo; cases eo
  have hRD : ∀ r ∈ B.R, r.1 ≠ D := fun r hr z => rd_new ((en.step s1).rr r hr).1 (by rw [z]; exact hD)
  obtain ⟨fpw, enw, subw⟩ := (en.step s1).wiped vs
  refine ⟨fun i m H2 => m = xs.length - i ∧ i ≤ xs.length ∧ (∀ a o, H1 a = some o → B.off a → H2 a = some o) ∧ TpSt B H2 ∧ En B (unA Γ vs) (wipe σ vs) H2 fpw ∧ ∃ (rs : List Addr) (ys : List (List β)), H2 D = some (.lst (rs.map V.ref)) ∧ rs.length ≤ i ∧ LA C.K H2 rs (e2L e' ys) ∧ rs.Nodup ∧ (∀ r ∈ rs, B.off r ∧ H r = none ∧ r ≠ D) ∧
      lcW c f (xs.drop i) (fun zs => P (ys ++ zs)) (fun _ => False), ⟨xs.length, by omega, Nat.zero_le _, fun a o ea _ => ?_, ?_, ?_, [], [], upd_same, Nat.le_refl _, .nil, .nil, fun r hr => (by cases hr), hp⟩, ?_⟩
  · rw [upd_ne (ne_of_none ea hD)]
    exact ea
  · exact s1.ts.same (upd_keeps hD)
  · exact enw.step (.new s1.ts hD)
  rintro i m H2 ⟨rfl, hi', kp, ts2, en2, rs, ys, hacc, hal, hz, hnd, hrs, hlc⟩
  have kst : ∀ a o, H1 a = some o → (a ∈ sup ∨ still o = true) → H2 a = some o := fun a o ea z => by
    rcases z with z | z
    · exact kp a o ea (ok.sp a z).1
    · exact kp a o ea (s1.ts.notstill ea z)
  by_cases hlt : i < xs.length
  · obtain ⟨go, yld⟩ := ok.go i H2 kst (by rw [List.length_map]; exact hlt)
    refine .inr ⟨go, fun H' => ∃ m', m' < xs.length - i ∧ (m' = xs.length - (i + 1) ∧ i + 1 ≤ xs.length ∧ (∀ a o, H1 a = some o → B.off a → H' a = some o) ∧ TpSt B H' ∧ En B (unA Γ vs) (wipe σ vs) H' fpw ∧ ∃ (rs : List Addr) (ys : List (List β)), H' D = some (.lst (rs.map V.ref)) ∧ rs.length ≤ i + 1 ∧ LA C.K H' rs (e2L e' ys) ∧ rs.Nodup ∧ (∀ r ∈ rs, B.off r ∧ H r = none ∧ r ≠ D) ∧
      lcW c f (xs.drop (i + 1)) (fun zs => P (ys ++ zs)) (fun _ => False)), fun H' h => h, fun x H3 hy => ?_⟩
    obtain ⟨kp3, d, hd, hx⟩ := yld x H3 hy
    have ed : d = e xs[i] := by
      rw [List.getElem?_map, List.getElem?_eq_getElem hlt] at hd
      exact (Option.some.inj hd).symm
    subst ed
    have s3 : Stp B H2 H3 := .same ts2 kp3
    have en3 := en2.step s3
    refine (hg xs[i]).run B (wipe σ vs) H3 fpw x en3 hx _ fun σ4 fp4 en4 hw4 sub4 => ?_
    have hdrop : xs.drop i = xs[i] :: xs.drop (i + 1) := List.drop_eq_getElem_cons hlt
    rw [hdrop] at hlc
    refine ⟨hw4.trans (wipe_idem vs σ), ?_⟩
    refine ht xs[i] _ (fun _ => False) hlc B σ4 H3 fp4 en4 (exok_no ex.tb) _ fun b H5 hb s5 => ?_
    have en5 := en4.step s5
    have s25 := s3.trans s5
    have kp5 : ∀ a o, H1 a = some o → B.off a → H5 a = some o := fun a o ea na => s25.kp a o (kp a o ea na) na
    have up : ∀ {H'}, Stp B H2 H' → LA C.K H' rs (e2L e' ys) := fun s => hz.keep fun a o ea z => s.kp a o ea (z.elim (fun m => (hrs a m).1) fun st => ts2.notstill ea st)
    cases b with
    | true =>
      refine iteT ?_
      refine hf xs[i] _ (fun _ => False) hb B σ4 H5 fp4 en5 (exok_no ex.tb) _ fun y v H6 hy6 s6 r6 => ?_
      have s26 := s25.trans s6
      have hD5 : H5 D = some (.lst (rs.map V.ref)) := s25.kp D _ hacc offD
      have hD6 : H6 D = some (.lst (rs.map V.ref)) := s26.kp D _ hacc offD
      obtain ⟨fq, ⟨r, ws, rfl, efq, hr, hzr⟩, hfr⟩ := r6
      have hr5 : H5 r = none := hfr r (by rw [efq]; exact List.mem_singleton.mpr rfl)
      have offr : B.off r := s5.ts.new hr5
      have hr1 : H1 r = none := by
        cases z : H1 r with
        | none => rfl
        | some o => rw [kp5 r o z offr] at hr5; cases hr5
      have hrH : H r = none := s1.back en.tps hr1
      have hrD : r ≠ D := fun z => by rw [z, hD5] at hr5; cases hr5
      have enw6 : En B (unA Γ vs) (wipe σ vs) H6 fpw := en2.step s26
      have stE : Stay H6 (upd H6 D (.lst (rs.map V.ref ++ [V.ref r]))) := fun a o ea z => by
        have : a ≠ D := by
          rintro rfl
          rw [hD6] at ea; cases ea; cases z
        rw [upd_ne this]
        exact ea
      have eny := enw6.side (o' := .lst (rs.map V.ref ++ [V.ref r])) hD6 rfl (fun i hm => nD i (subw D i hm)) offD hBD hRD
      refine ⟨rs.map V.ref, hD6, lc_list_room _ (by rw [List.length_map]; omega), xs.length - (i + 1), by omega, rfl, hlt, fun a o ea na => ?_, eny.tps, eny, rs ++ [r], ys ++ [y], ?_, ?_, ?_, ?_, fun r' hr' => ?_, ?_⟩
      · have : a ≠ D := by
          rintro rfl
          rw [hD] at ea; cases ea
        rw [upd_ne this]
        exact s6.kp a o (kp5 a o ea na) na
      · rw [upd_same, List.map_append]
        rfl
      · rw [List.length_append, List.length_singleton]
        omega
      · unfold e2L
        rw [List.map_append]
        refine LA.snoc (by rw [upd_ne hrD]; exact hr) (hzr.stay stE) ((up s26).keep fun a o ea z => ?_)
        rcases z with z | z
        · rw [upd_ne (hrs a z).2.2]
          exact ea
        · exact stE a o ea z
      · rw [List.nodup_append]
        refine ⟨hnd, by simp, fun a ha b hb z => ?_⟩
        rw [List.mem_singleton.mp hb] at z
        have : r ∈ rs := z ▸ ha
        obtain ⟨ws', hw'⟩ := (up s25).mem this
        rw [hr5] at hw'
        cases hw'
      · rcases List.mem_append.mp hr' with h | h
        · exact hrs r' h
        · rw [List.mem_singleton.mp h]
          exact ⟨offr, hrH, hrD⟩
      · have : (fun zs => P (ys ++ [y] ++ zs)) = fun zs => P (ys ++ y :: zs) := by
          funext zs
          rw [List.append_assoc]
          rfl
        rw [this]
        exact hy6
    | false =>
      refine iteF ?_
      exact ⟨xs.length - (i + 1), by omega, rfl, hlt, kp5, s5.ts, en2.step s25, rs, ys, s25.kp D _ hacc offD, by omega, up s25, hnd, hrs, hb⟩
  · have ei : i = xs.length := by omega
    subst ei
    rw [List.drop_length] at hlc
    refine .inl ⟨ok.stop _ H2 kst (by rw [List.length_map]; exact Nat.le_refl _), ?_⟩
    have hP : P (ys ++ []) := hlc
    rw [List.append_nil] at hP
    refine q ys (.ref D) H2 hP ⟨fun a o ea na => kp a o (s1.kp a o ea na) na, ts2⟩ ⟨D :: rs, ⟨D, rs, rfl, rfl, List.nodup_cons.mpr ⟨fun hm => (hrs D hm).2.2 rfl, hnd⟩, hacc, hz⟩, fun a ha => ?_⟩
    rcases List.mem_cons.mp ha with rfl | ha
    · exact hD0
    · exact (hrs a ha).2.1
/-- a list of lists, read by name -/
theorem ev_ix2 {i : Nat} {ti : TE} {e : β → PyData} {wi : Wp Int} (xss : List (List β)) (h : Has Γ i (ls2 C.K (e2L e xss))) (hi : EvG C Γ ti wi (fun r => RF C.K (eI r))) :
    EvG C Γ (tOp (rIxL C.K) (tVar i) ti) (bnd wi fun k => opt (atI xss k)) (fun r => RL C.K (r.map e)) := fun P X hw B σ H fp en ex Q q => by
  obtain ⟨v, fq, hv, ⟨p, rs, rfl, efp, nd, hp, hl⟩, hoff⟩ := en.hold h
  refine ⟨_, hv, hi _ X hw B σ H fp en ex _ fun k y H1 h1 s1 hk => ?_⟩
  have ek := Fz.int_inv (n := k) hk
  subst ek
  obtain ⟨v', fq', hv', ⟨p', rs', rfl, efp', nd', hp', hl'⟩, hoff'⟩ := (en.step s1).hold h
  rw [hv] at hv'
  cases hv'
  obtain ⟨xs, hx, hP⟩ := h1
  unfold atI at hx
  cases e1 : ixN xss.length k with
  | none => rw [e1] at hx; cases hx
  | some j =>
    rw [e1] at hx
    have hx : xss[j]? = some xs := hx
    obtain ⟨r, vs, g1, g2, g3⟩ := hl'.at (i := j) (ds := xs.map e) (by unfold e2L; rw [List.getElem?_map, hx]; rfl)
    have hlen := hl'.length
    unfold e2L at hlen
    rw [List.length_map] at hlen
    refine ⟨p, rs'.map V.ref, k, .ref r, rfl, rfl, .inl (.inl hp'), ?_, q xs (.ref r) H1 hP s1 ⟨r, vs, rfl, .inl ⟨.inl g2, hoff' r (by rw [efp']; exact List.mem_cons_of_mem _ (List.mem_of_getElem? g1))⟩, g3⟩⟩
    unfold atI
    rw [List.length_map, hlen, e1]
    show (rs'.map V.ref)[j]? = _
    rw [List.getElem?_map, g1]
    rfl
theorem ev_len2 {i : Nat} {e : β → PyData} (xss : List (List β)) (h : Has Γ i (ls2 C.K (e2L e xss))) : EvG C Γ (tCB (rLen C.K) (tCons (tVar i) tNil)) (ret (xss.length : Int)) (fun r => RF C.K (eI r)) := fun P X hw B σ H fp en ex Q q => by
  obtain ⟨v, fq, hv, ⟨p, rs, rfl, efp, nd, hp, hl⟩, hoff⟩ := en.hold h
  have hlen := hl.length
  unfold e2L at hlen
  rw [List.length_map] at hlen
  refine ⟨_, hv, p, _, rfl, .inl (.inl (.inl hp)), ?_⟩
  rw [List.length_map, hlen]
  exact q _ _ H hw (.refl en.tps) (.int _)
theorem units65 {k : Nat} {A : Around} (r : Room k A) : A.units + 65 < cLine := by have := r.un; omega
end
end WL
/-! WL, part 15: list(range(n)), tuple(range(n)). -/
namespace WL
open PySem PySem.Spec PyProof.Rows L2
section
variable {C : Cn} [Tbs C.K] {Γ : List Ety}
/-- min(a, b), max(a, b) of ints -/
theorem ev_min2 {ta tb : TE} {wa wb : Wp Int} (ha : EvG C Γ ta wa (fun r => RF C.K (eI r))) (hb : EvG C Γ tb wb (fun r => RF C.K (eI r))) : EvG C Γ (tCB (fun xs H Q => ∃ i j, xs = [V.int i, V.int j] ∧ Q (.int (if j < i then j else i)) H) (tCons ta (tCons tb tNil))) (bnd wa fun a => bnd wb fun b => ret (if b < a then b else a)) (fun r => RF C.K (eI r)) := fun P X hw B σ H fp en ex Q q =>
  ha _ X hw B σ H fp en ex _ fun a x H1 h1 s1 hx => hb _ X h1 B σ H1 fp (en.step s1) ex _ fun b y H2 h2 s2 hy => by
    have e1 := Fz.int_inv (n := a) hx
    have e2 := Fz.int_inv (n := b) hy
    subst e1
    subst e2
    exact ⟨a, b, rfl, q _ _ H2 h2 (s1.trans s2) (.int _)⟩
end
end WL
/-! WL, part 16: data of any kind: isinstance, what it is, in, index, is. -/
namespace WL
open PySem PySem.Spec PyProof.Rows L2
section
variable {C : Cn} [Tbs C.K] {Γ : List Ety} {K : PySem.W.Frag} {α β γ F : Type}
/-! ### isinstance -/
def rIsa (K : PySem.W.Frag) (T : String) (f : PyData → Bool) : List V → Hp → VK → Prop := fun xs H Q => ∃ x d, xs = [x, .ty T] ∧ Dp K H x d ∧ Q (.bl (f d)) H
theorem cr_isaTuple {X : Cx} (hK : X.K = K) : CallR X (.builtin "isinstance") (rIsa K "tuple" PyData.isTuple) := by
  subst hK
  intro pins s σ H xs us Q I r h
  obtain ⟨x, d, rfl, hd, q⟩ := h
  obtain ⟨u1, u2, rfl, r1, r2⟩ := vals2 r
  cases (show u2 = Value.type "tuple" from r2)
  obtain ⟨as, hr⟩ := Dp.reads I _ _ _ hd r1
  exact PySem.W.isinstance_tuple_data hr fun tk _ => ⟨.bl _, H, I.tok tk, rfl, q⟩
theorem cr_isaInt {X : Cx} (hK : X.K = K) : CallR X (.builtin "isinstance") (rIsa K "int" PyData.isInt) := by
  subst hK
  intro pins s σ H xs us Q I r h
  obtain ⟨x, d, rfl, hd, q⟩ := h
  obtain ⟨u1, u2, rfl, r1, r2⟩ := vals2 r
  cases (show u2 = Value.type "int" from r2)
  obtain ⟨as, hr⟩ := Dp.reads I _ _ _ hd r1
  exact PySem.W.isinstance_int_data hr fun tk _ => ⟨.bl _, H, I.tok tk, rfl, q⟩
theorem cr_isaBool {X : Cx} (hK : X.K = K) : CallR X (.builtin "isinstance") (rIsa K "bool" PyData.isBool) := by
  subst hK
  intro pins s σ H xs us Q I r h
  obtain ⟨x, d, rfl, hd, q⟩ := h
  obtain ⟨u1, u2, rfl, r1, r2⟩ := vals2 r
  cases (show u2 = Value.type "bool" from r2)
  obtain ⟨as, hr⟩ := Dp.reads I _ _ _ hd r1
  exact PySem.W.isinstance_bool_data hr fun tk _ => ⟨.bl _, H, I.tok tk, rfl, q⟩
theorem ev_isa {T : String} {f : PyData → Bool} {te : TE} {w : Wp α} {e : α → PyData} (h : EvG C Γ te w (fun r => RF C.K (e r))) : EvG C Γ (tCB (rIsa C.K T f) (tCons te (tCons (tC (.ty T)) tNil))) (bnd w fun x => ret (f (e x))) (fun r => RF C.K (eB r)) := fun P X hw B σ H fp en ex Q q =>
  h _ X hw B σ H fp en ex _ fun x v H' hp s hv => ⟨v, e x, rfl, Fz.dp hv, q _ _ H' hp s (.bl _)⟩
/-! ### data as what it is -/
/-! ### in, a tuple of data -/
def rInTD (K : PySem.W.Frag) : R2 := fun x y H Q => ∃ d ds, Dp K H x d ∧ Dp K H y (.tuple ds) ∧ SeqAt.shaped d = true ∧ SeqAt.shaped (.tuple ds) = true ∧ Q (.bl (ds.any fun z => PyData.eqv z d)) H
theorem op_inTDK {X : Cx} (hK : X.K = K) (hu : X.A.units + 65 < cLine) : OpR X (compareOp .In) (rInTD K) := by
  subst hK
  intro pins s σ H x y v u Q I rx ry h
  obtain ⟨d, ds, hd, he, sd, se, q⟩ := h
  obtain ⟨as, r1⟩ := Dp.reads I d x v hd rx
  obtain ⟨bs, r2⟩ := Dp.reads I (.tuple ds) y u he ry
  have hc : PyData.canLayAll0 ds = true := by
    have := SeqAt.canLay_of_shaped se
    simpa [PyData.canLay0] using this
  exact SeqAt.in_tuple_reads r2 r1 hc (SeqAt.canLay_of_shaped sd) (room_in_shaped sd hu) ⟨.bl _, H, I, rfl, q⟩
/-- x in t, t a tuple or a list of data -/
def inD (d : PyData) (ds : List PyData) : Wp Bool := grd (SeqAt.shaped d = true ∧ SeqAt.shaped (.tuple ds) = true) (ret (ds.any fun z => PyData.eqv z d))
theorem o_inTD {e : α → PyData} {e' : β → PyData} (x : α) (xs : List β) : OpG C (rInTD C.K) (RF C.K (e x)) (RF C.K (eT e' xs)) (inD (e x) (xs.map e')) (fun r => RF C.K (eB r)) := fun P X hw B H0 H a b _ ts _ ha hb Q q =>
  ⟨e x, xs.map e', Fz.dp ha, Fz.dp hb, hw.1.1, hw.1.2, q _ _ H hw.2 (.refl ts) (.bl _)⟩
/-! ### is, of bools -/
/-! ### xs.index(x), a list of data -/
/-! ### xs.pop(i), a list of its own: a statement, or with its value kept -/
end
end WL
/-! WL, part 17: methods with the written part said apart; more of data; pop. -/
namespace WL
open PySem PySem.Spec PyProof.Rows L2
end WL
/-! WL, part 18: more of dicts: len, get, truth, del, a copy, walks, comprehensions. -/
namespace WL
open PySem PySem.Spec PyProof.Rows L2
end WL
/-! WL, part 19: abs, t * k, xs + ys by name, len(set(xs)); lists of lists that change. -/
namespace WL
open PySem PySem.Spec PyProof.Rows L2
section
variable {C : Cn} [Tbs C.K] {Γ : List Ety} {K : PySem.W.Frag} {α β γ F : Type}
theorem c_abs (i : Int) : CaG C (fun xs H Q => ∃ i, xs = [V.int i] ∧ Q (.int (if i < 0 then -i else i)) H) [RF C.K (eI i)] (ret (if i < 0 then -i else i)) (fun r => RF C.K (eI r)) := fun P X hw B H0 H vs t0 ts hb h Q q => by
  cases h with
  | cons h1 h2 =>
    cases h2
    exact ⟨i, by rw [Fz.int_inv (n := i) h1], q _ _ H hw (.refl ts) (.int _)⟩
/-! ### len(set(xs)), ints -/
/-! ### lists of lists that change -/
/-- the row at j of one's own list of lists -/
theorem En.row2 {B : Bs} {σ : List (Option V)} {H : Hp} {fp : Nat → List Addr} {i : Nat} {e : β → PyData} {xss : List (List β)} (en : En B Γ σ H fp) (h : Γ[i]? = some (.sl (ls2 C.K (e2L e xss)))) :
    ∃ p rs, σ[i]? = some (some (.ref p)) ∧ fp i = p :: rs ∧ (p :: rs).Nodup ∧ H p = some (.lst (rs.map V.ref)) ∧ LA C.K H rs (e2L e xss) ∧ rs.length = xss.length := by
  obtain ⟨v, hv, p, rs, rfl, e2, nd, hp, hl⟩ := en.sl i _ h
  have hlen := hl.length
  unfold e2L at hlen
  rw [List.length_map] at hlen
  exact ⟨p, rs, hv, e2, nd, hp, hl, hlen⟩
theorem LA.row {H : Hp} {rs : List Addr} {e : β → PyData} {xss : List (List β)} (h : LA K H rs (e2L e xss)) {j : Nat} {row : List β} (hj : xss[j]? = some row) : ∃ r vs, rs[j]? = some r ∧ H r = some (.lst vs) ∧ FzAll K H vs (row.map e) := h.at (i := j) (ds := row.map e) (by unfold e2L; rw [List.getElem?_map, hj]; rfl)
theorem LA.set {H : Hp} {o : HO} {r : Addr} {vs : List V} {ds : List PyData} (ho : o = .lst vs) (hst : Stay H (upd H r o)) : ∀ {rs : List Addr} {dss : List (List PyData)} {j : Nat}, LA K H rs dss → rs.Nodup → rs[j]? = some r → FzAll K (upd H r o) vs ds → LA K (upd H r o) rs (dss.set j ds)
  | _, _, 0, .cons (rs := rs) h1 h2 h3, nd, e, hz => by
    cases e
    refine .cons (by rw [ho]; exact upd_same) hz (h3.keep fun a ob ea z => ?_)
    rcases z with z | z
    · rw [upd_ne (show a ≠ _ from fun q => (List.nodup_cons.mp nd).1 (by rw [← q]; exact z))]
      exact ea
    · exact hst a ob ea z
  | _, _, j + 1, .cons (r := r') (rs := rs) h1 h2 h3, nd, e, hz => by
    have hm : r ∈ rs := List.mem_of_getElem? (show rs[j]? = some r from e)
    refine .cons ?_ (h2.stay hst) (LA.set ho hst h3 (List.nodup_cons.mp nd).2 e hz)
    rw [upd_ne (show r' ≠ r from fun q => (List.nodup_cons.mp nd).1 (by rw [q]; exact hm))]
    exact h1
  | _, _, 0, .nil, _, e, _ => by cases e
  | _, _, _ + 1, .nil, _, e, _ => by cases e
/-- a row's content changes -/
theorem En.rerow {B : Bs} {σ : List (Option V)} {H : Hp} {fp : Nat → List Addr} {i j : Nat} {e : β → PyData} {xss : List (List β)} {row' : List β} {p r : Addr} {rs : List Addr} {vs vs' : List V} (en : En B Γ σ H fp) (h : Γ[i]? = some (.sl (ls2 C.K (e2L e xss)))) (hv : σ[i]? = some (some (.ref p))) (hf : fp i = p :: rs) (nd : (p :: rs).Nodup) (hp : H p = some (.lst (rs.map V.ref))) (hl : LA C.K H rs (e2L e xss))
    (hr : rs[j]? = some r) (hrv : H r = some (.lst vs)) (hz : FzAll C.K H vs' (row'.map e)) : En B (Γ.set i (.sl (ls2 C.K (e2L e (xss.set j row'))))) σ (upd H r (.lst vs')) fp := by
  have hm : r ∈ rs := List.mem_of_getElem? hr
  have hrp : r ≠ p := fun q => (List.nodup_cons.mp nd).1 (q ▸ hm)
  have hst : Stay H (upd H r (.lst vs')) := fun a o ea z => by
    rw [upd_ne (fun q => by rw [q, hrv] at ea; cases ea; cases z)]
    exact ea
  -- as En.mut, but the changed object is a row of the slot's own
  have hS := h
  have hi : i < Γ.length := (List.getElem?_eq_some_iff.mp hS).1
  have hown : (ls2 C.K (e2L e (xss.set j row'))).own (upd H r (.lst vs')) (.ref p) (fp i) := by
    refine ⟨p, rs, rfl, hf, nd, by rw [upd_ne (Ne.symm hrp)]; exact hp, ?_⟩
    have := LA.set (ds := row'.map e) rfl hst hl (List.nodup_cons.mp nd).2 hr (hz.stay hst)
    unfold e2L at this ⊢
    rw [List.map_set]
    exact this
  have hrfp : r ∈ fp i := by rw [hf]; exact List.mem_cons_of_mem _ hm
  have still_ne : ∀ a ob, H a = some ob → still ob = true → a ≠ r := fun a ob ea z q => by
    rw [q, hrv] at ea; cases ea; cases z
  refine ⟨by rw [List.length_set]; exact en.len, fun k T hk => ?_, fun k T hk => ?_, fun k hk => ?_, en.dis, en.nt, fun k a T hk hro ha => ?_, fun k K' ds hk => ?_, fun k T hk => ?_, fun q hq => ?_, fun a o' ea => ?_, fun t ht => ?_⟩
  · by_cases ek : k = i
    · subst ek
      rw [List.getElem?_set_self hi] at hk
      cases hk
      exact ⟨_, hv, hown⟩
    · rw [List.getElem?_set_ne (Ne.symm ek)] at hk
      obtain ⟨u, hu, hT⟩ := en.sl k T hk
      refine ⟨u, hu, T.keep hT fun a ob ea z => ?_⟩
      rw [upd_ne]
      · exact ea
      · rcases z with z | z
        · exact fun q => ek (en.dis k i a z (q ▸ hrfp))
        · exact still_ne a ob ea z
  · by_cases ek : k = i
    · subst ek
      rw [List.getElem?_set_self hi] at hk
      cases hk
    · rw [List.getElem?_set_ne (Ne.symm ek)] at hk
      exact en.tp k T hk
  · by_cases ek : k = i
    · subst ek
      exact absurd (List.getElem?_set_self hi) (hk _)
    · exact en.off k fun S'' z => hk S'' (by rw [List.getElem?_set_ne (Ne.symm ek)]; exact z)
  · by_cases ek : k = i
    · subst ek
      exact en.new k a _ hS rfl ha
    · rw [List.getElem?_set_ne (Ne.symm ek)] at hk
      exact en.new k a T hk hro ha
  · by_cases ek : k = i
    · subst ek
      rw [List.getElem?_set_self hi] at hk
      cases hk
    · rw [List.getElem?_set_ne (Ne.symm ek)] at hk
      obtain ⟨q, us, h1, h2, h3⟩ := en.rd k K' ds hk
      exact ⟨q, us, h1, h2, h3.stay hst⟩
  · by_cases ek : k = i
    · subst ek
      rw [List.getElem?_set_self hi] at hk
      cases hk
    · rw [List.getElem?_set_ne (Ne.symm ek)] at hk
      obtain ⟨u, fq, hu, hT, hR⟩ := en.rb k T hk
      refine ⟨u, fq, hu, T.keep hT fun a ob ea z => ?_, hR⟩
      rw [upd_ne]
      · exact ea
      · rcases z with z | z
        · obtain ⟨o', hm'⟩ := hR a z
          exact fun q => (en.rr _ hm').2.2 i (q ▸ hrfp)
        · exact still_ne a ob ea z
  · obtain ⟨h1, h2, h3⟩ := en.rr q hq
    exact ⟨rd_upd (fun z => h3 i (z ▸ hrfp)) h1, h2, h3⟩
  · obtain ⟨o2, e2, k1, k2⟩ := en.fr a o' ea
    by_cases z : a = r
    · subst z
      refine ⟨_, upd_same, fun n1 _ => ?_, fun z => ?_⟩
      · rcases en.new i a _ hS rfl hrfp with q | q
        · rw [ea] at q; cases q
        · exact absurd q n1
      · have e5 := k2 z
        subst e5
        rw [hrv] at e2
        cases e2
        cases z
    · exact ⟨o2, by rw [upd_ne z]; exact e2, k1, k2⟩
  · have hoff := en.nt i r hrfp t ht
    refine t.1.keep (en.tps t ht) fun a ob ea z => ?_
    rw [upd_ne]
    · exact ea
    · rcases z with z | z
      · exact fun q => hoff (q ▸ z)
      · exact still_ne a ob ea z
theorem atI_map {xs : List α} {f : α → β} {i : Int} {j : Nat} {x : α} (h : ixN xs.length i = some j) (hx : xs[j]? = some x) : atI (xs.map f) i = some (f x) := by
  unfold atI
  rw [List.length_map, h]
  show (xs.map f)[j]? = _
  rw [List.getElem?_map, hx]
  rfl
/-- the row at an index -/
def rowW (xss : List (List β)) (wi : Wp Int) (k : Nat → List β → Wp F) : Wp F := bnd wi fun ix => bnd (opt (ixN xss.length ix)) fun j => bnd (opt xss[j]?) fun row => k j row
def app2W (xss : List (List β)) (wi : Wp Int) (w : Wp β) (k : List (List β) → Wp F) : Wp F := rowW xss wi fun j row => bnd w fun x => grd (row.length < 16777216) (k (xss.set j (row ++ [x])))
theorem sb_append2 {res : F → Oc} {N Bk Ct : Cont F} {i : Nat} {ti te : TE} {e : β → PyData} {xss : List (List β)} {wi : Wp Int} {w : Wp β} {k : List (List β) → Wp F} (h : Γ[i]? = some (.sl (ls2 C.K (e2L e xss)))) (hi : EvG C Γ ti wi (fun r => RF C.K (eI r))) (he : EvG C Γ te w (fun r => RF C.K (e r)))
    (hk : ∀ ys, Lands N (Γ.set i (.sl (ls2 C.K (e2L e ys)))) (k ys)) : SimB C res N Bk Ct (tDrop (tBM C.K "list" rAppend (tOp (rIxL C.K) (tVar i) ti) (tCons te tNil))) Γ (app2W xss wi w k) := fun P X hm B D ex f n b c σ H fp en => by
  obtain ⟨p, rs, hv, hf, nd, hp, hl, hlen⟩ := En.row2 (C := C) en h
  refine ⟨_, hv, hi _ X hm B σ H fp en ex _ fun ix y H1 h1 s1 hix => ?_⟩
  have ei := Fz.int_inv (n := ix) hix
  subst ei
  obtain ⟨j, hj, row, hrow, h1⟩ := h1
  have en1 := en.step s1
  obtain ⟨p', rs', hv', hf', nd', hp', hl', hlen'⟩ := En.row2 (C := C) en1 h
  rw [hv] at hv'
  cases hv'
  obtain ⟨r, vs, g1, g2, g3⟩ := hl'.row hrow
  refine ⟨p, rs'.map V.ref, ix, .ref r, rfl, rfl, .inl (.inl hp'), atI_map (by rw [hlen']; exact hj) g1, .inl ⟨rfl, vs, .inl (.inl g2)⟩, he _ X h1 B σ H1 fp en1 ex _ fun x v H2 h2 s2 hx => ?_⟩
  have en2 := en1.step s2
  obtain ⟨p2, rs2, hv2, hf2, nd2, hp2, hl2, hlen2⟩ := En.row2 (C := C) en2 h
  rw [hv] at hv2
  cases hv2
  rw [hf'] at hf2
  cases hf2
  obtain ⟨r2, vs2, k1, k2, k3⟩ := hl2.row hrow
  rw [g1] at k1
  cases k1
  have hll := k3.length
  rw [List.length_map] at hll
  refine ⟨r, vs2, v, rfl, rfl, k2, by rw [hll]; exact lc_list_room _ h2.1, n _ _ (hk _ P X B σ _ fp h2.2 (en2.rerow h hv hf' nd2 hp2 hl2 g1 k2 ?_))⟩
  rw [List.map_append]
  exact k3.append (.one hx)
end
end WL
/-! WL, part 20: things that stand for a while; lists of lists walked. -/
namespace WL
open PySem PySem.Spec PyProof.Rows L2
section
variable {C : Cn} [Tbs C.K] {Γ : List Ety} {K : PySem.W.Frag} {α β γ F : Type}
abbrev Bs.more (B : Bs) (R : List (Addr × HO)) : Bs := { B with R := R ++ B.R }
theorem En.unRb {B : Bs} {σ : List (Option V)} {H : Hp} {fp : Nat → List Addr} {i : Nat} {S : Sl} {v : V} {fq : List Addr} (en : En B Γ σ H fp) (hu : Γ[i]? = some .un) (hv : σ[i]? = some (some v)) (ho : S.own H v fq) (hq : ∀ a ∈ fq, ∃ o, (a, o) ∈ B.R) : En B (Γ.set i (.rb S)) σ H fp := by
  have hi : i < Γ.length := (List.getElem?_eq_some_iff.mp hu).1
  have get : ∀ (k : Nat) (t : Ety), (Γ.set i (.rb S))[k]? = some t → (k = i ∧ t = .rb S) ∨ (k ≠ i ∧ Γ[k]? = some t) := fun k t h => by
    by_cases e : k = i
    · subst e
      rw [List.getElem?_set_self hi] at h
      cases h
      exact .inl ⟨rfl, rfl⟩
    · rw [List.getElem?_set_ne (Ne.symm e)] at h
      exact .inr ⟨e, h⟩
  refine ⟨by rw [List.length_set]; exact en.len, fun k T h => ?_, fun k T h => ?_, fun k h => ?_, en.dis, en.nt, fun k a T h => ?_, fun k K' ds h => ?_, fun k T h => ?_, en.rr, en.fr, en.tps⟩
  · rcases get k _ h with ⟨_, h⟩ | ⟨_, h⟩
    · cases h
    · exact en.sl k T h
  · rcases get k _ h with ⟨_, h⟩ | ⟨_, h⟩
    · cases h
    · exact en.tp k T h
  · refine en.off k fun T hT => ?_
    by_cases e : k = i
    · rw [e, hu] at hT; cases hT
    · exact h T (by rw [List.getElem?_set_ne (Ne.symm e)]; exact hT)
  · rcases get k _ h with ⟨_, h⟩ | ⟨_, h⟩
    · cases h
    · exact en.new k a T h
  · rcases get k _ h with ⟨_, h⟩ | ⟨_, h⟩
    · cases h
    · exact en.rd k K' ds h
  · rcases get k _ h with ⟨e, h⟩ | ⟨_, h⟩
    · cases h
      exact ⟨v, fq, by rw [e]; exact hv, ho, hq⟩
    · exact en.rb k T h
theorem En.putRb {B : Bs} {σ : List (Option V)} {H : Hp} {fp : Nat → List Addr} {i : Nat} {S : Sl} {v : V} {fq : List Addr} (en : En B Γ σ H fp) (hi : i < Γ.length) (ho : S.own H v fq) (hq : ∀ a ∈ fq, ∃ o, (a, o) ∈ B.R) : En B (Γ.set i (.rb S)) (σ.set i (some v)) H (WL.put fp i []) := by
  have h := (en.drop i (some v)).unRb (i := i) (S := S) (List.getElem?_set_self hi) (List.getElem?_set_self (by rw [en.len]; exact hi)) ho hq
  rw [List.set_set] at h
  exact h
end
end WL
/-! WL, part 21: lists of lists of lists; things that move into others, into a call. -/
namespace WL
open PySem PySem.Spec PyProof.Rows L2
section
variable {C : Cn} [Tbs C.K] {Γ : List Ety} {K : PySem.W.Frag} {α β γ ι F : Type}
/-- an object that nobody of the names owns is changed (it may be one that may change) -/
theorem En.side2 {B : Bs} {σ : List (Option V)} {H : Hp} {fp : Nat → List Addr} (en : En B Γ σ H fp) {D : Addr} {o o' : HO} (hD : H D = some o) (ho : still o = false) (hn : ∀ i, D ∉ fp i) (ht : B.off D) (hb : B.H D = none ∨ D ∈ B.O) (hR : ∀ r ∈ B.R, r.1 ≠ D) : En B Γ σ (upd H D o') fp where
  len := en.len
  sl := fun i S hS => by
    obtain ⟨v, hv, h⟩ := en.sl i S hS
    refine ⟨v, hv, S.keep h fun a ob e z => ?_⟩
    have : a ≠ D := by
      rintro rfl
      rcases z with z | z
      · exact hn i z
      · rw [hD] at e
        cases e
        rw [ho] at z; cases z
    rw [upd_ne this]
    exact e
  tp := en.tp
  off := en.off
  dis := en.dis
  nt := en.nt
  new := en.new
  rd := fun j K' ds hj => by
    obtain ⟨r, us, h1, h2, h3⟩ := en.rd j K' ds hj
    refine ⟨r, us, h1, h2, h3.stay fun a ob ea z => ?_⟩
    have : a ≠ D := by
      rintro rfl
      rw [hD] at ea
      cases ea
      rw [ho] at z; cases z
    rw [upd_ne this]
    exact ea
  rb := fun j T hj => by
    obtain ⟨u, fq, hu, hT, hq⟩ := en.rb j T hj
    refine ⟨u, fq, hu, T.keep hT fun a ob ea z => ?_, hq⟩
    have : a ≠ D := by
      rintro rfl
      rcases z with z | z
      · obtain ⟨o', hm⟩ := hq a z
        exact hR _ hm rfl
      · rw [hD] at ea
        cases ea
        rw [ho] at z; cases z
    rw [upd_ne this]
    exact ea
  rr := fun r hr => by
    obtain ⟨h1, h2, h3⟩ := en.rr r hr
    exact ⟨rd_upd (hR r hr) h1, h2, h3⟩
  fr := fun a ob e => by
    obtain ⟨o2, e2, k1, k2⟩ := en.fr a ob e
    by_cases z : a = D
    · subst z
      refine ⟨_, upd_same, fun n1 _ => ?_, fun z => ?_⟩
      · rcases hb with q | q
        · rw [e] at q; cases q
        · exact absurd q n1
      · have e5 := k2 z
        subst e5
        rw [hD] at e2
        cases e2
        rw [ho] at z; cases z
    · exact ⟨o2, by rw [upd_ne z]; exact e2, k1, k2⟩
  tps := fun t h => by
    refine t.1.keep (en.tps t h) fun a ob ea z => ?_
    have : a ≠ D := by
      rintro rfl
      rcases z with z | z
      · exact ht t h z
      · rw [hD] at ea
        cases ea
        rw [ho] at z; cases z
    rw [upd_ne this]
    exact ea
/-- a name's thing changes at p, and owns other objects then -/
theorem En.regrow {B : Bs} {σ : List (Option V)} {H : Hp} {fp : Nat → List Addr} {i : Nat} {S S' : Sl} {v : V} {p : Addr} {o o0 : HO} {q : List Addr} (en : En B Γ σ H fp) (hS : Γ[i]? = some (.sl S)) (ro : S.ro = false) (hv : σ[i]? = some (some v)) (hp : p ∈ fp i) (hpo : H p = some o0) (h0 : still o0 = false) (hown : S'.own (upd H p o) v q)
    (hd : ∀ a ∈ q, ∀ k, a ∈ fp k → k = i) (ht : ∀ a ∈ q, B.off a) (hn : ∀ a ∈ q, B.H a = none ∨ a ∈ B.O) (hR : ∀ r ∈ B.R, r.1 ∉ q) : En B (Γ.set i (.sl S')) σ (upd H p o) (WL.put fp i q) := by
  have hi : i < Γ.length := (List.getElem?_eq_some_iff.mp hS).1
  have en1 := en.forget i
  have en2 := en1.side2 (D := p) (o' := o) hpo h0 (fun k hk => by
    by_cases z : k = i
    · subst z
      rw [put_same] at hk; cases hk
    · rw [put_ne z] at hk
      exact z (en.dis k i p hk hp)) (en.nt i p hp) (en.new i p S hS ro hp) fun r hr z => (en.rr r hr).2.2 i (by rw [z]; exact hp)
  have en3 := en2.put (i := i) (S := S') (v := v) (q := q) (by rw [List.length_set]; exact hi) hown (fun a ha k hk => by
    by_cases z : k = i
    · exact z
    · rw [put_ne z] at hk
      exact hd a ha k hk) ht (fun _ => hn) hR
  rw [List.set_set, set_id σ i _ hv] at en3
  have e : WL.put (WL.put fp i []) i q = WL.put fp i q := by
    funext k
    by_cases z : k = i
    · subst z
      rw [put_same, put_same]
    · rw [put_ne z, put_ne z, put_ne z]
  rw [e] at en3
  exact en3
/-! ### lists of lists of lists -/
inductive LB (K : PySem.W.Frag) (H : Hp) : List (Addr × List Addr) → List (List (List PyData)) → Prop
  | nil : LB K H [] []
  | cons {r : Addr} {rs : List Addr} {dss : List (List PyData)} {zs : List (Addr × List Addr)} {dsss : List (List (List PyData))} : H r = some (.lst (rs.map V.ref)) → LA K H rs dss → LB K H zs dsss → LB K H ((r, rs) :: zs) (dss :: dsss)
def flatZ (zs : List (Addr × List Addr)) : List Addr := zs.flatMap fun z => z.1 :: z.2
theorem LB.keep {H H' : Hp} : ∀ {zs : List (Addr × List Addr)} {ds : List (List (List PyData))}, LB K H zs ds → (∀ a o, H a = some o → (a ∈ flatZ zs ∨ still o = true) → H' a = some o) → LB K H' zs ds
  | _, _, .nil, _ => .nil
  | _, _, .cons (r := r) (rs := rs) (zs := zs) h1 h2 h3, k => by
    have hin : ∀ a, a ∈ r :: rs ∨ a ∈ flatZ zs → a ∈ flatZ ((r, rs) :: zs) := fun a ha => by
      unfold flatZ
      rw [List.flatMap_cons, List.mem_append]
      exact ha
    exact .cons (k _ _ h1 (.inl (hin _ (.inl List.mem_cons_self)))) (h2.keep fun a o e z => k a o e (z.imp (fun m => hin _ (.inl (List.mem_cons_of_mem _ m))) id)) (h3.keep fun a o e z => k a o e (z.imp (fun m => hin _ (.inr m)) id))
theorem LB.dom {H : Hp} : ∀ {zs : List (Addr × List Addr)} {ds : List (List (List PyData))} {a : Addr}, LB K H zs ds → a ∈ flatZ zs → ∃ vs, H a = some (.lst vs)
  | _, _, a, .cons (r := r) (rs := rs) (zs := zs) h1 h2 h3, h => by
    unfold flatZ at h
    rw [List.flatMap_cons, List.mem_append] at h
    rcases h with h | h
    · rcases List.mem_cons.mp h with rfl | h
      · exact ⟨_, h1⟩
      · exact h2.mem h
    · exact h3.dom h
theorem LB.snoc {H : Hp} {r : Addr} {rs : List Addr} {dss : List (List PyData)} (h1 : H r = some (.lst (rs.map V.ref))) (h2 : LA K H rs dss) : ∀ {zs : List (Addr × List Addr)} {ds : List (List (List PyData))}, LB K H zs ds → LB K H (zs ++ [(r, rs)]) (ds ++ [dss])
  | _, _, .nil => .cons h1 h2 .nil
  | _, _, .cons a b c => .cons a b (c.snoc h1 h2)
theorem LB.length {H : Hp} : ∀ {zs : List (Addr × List Addr)} {ds : List (List (List PyData))}, LB K H zs ds → zs.length = ds.length
  | _, _, .nil => rfl
  | _, _, .cons _ _ h => congrArg Nat.succ h.length
theorem LB.at {H : Hp} : ∀ {zs : List (Addr × List Addr)} {ds : List (List (List PyData))} {i : Nat} {dss : List (List PyData)}, LB K H zs ds → ds[i]? = some dss → ∃ r rs, zs[i]? = some (r, rs) ∧ H r = some (.lst (rs.map V.ref)) ∧ LA K H rs dss
  | _, _, 0, _, .cons a b _, e => by cases e; exact ⟨_, _, rfl, a, b⟩
  | _, _, i + 1, _, .cons _ _ c, e => c.at (i := i) e
  | _, _, 0, _, .nil, e => by cases e
  | _, _, _ + 1, _, .nil, e => by cases e
/-! ### a borrowed thing as an argument -/
theorem ev_B {i : Nat} (x : α) {S : α → Sl} (h : Has Γ i (S x)) : EvG C Γ (tVar i) (ret x) (fun r => RB (S r)) := fun P X hw B σ H fp en ex Q q => by
  obtain ⟨v, fq, hv, ho, hf⟩ := en.hold h
  exact ⟨_, hv, q x _ H hw (.refl en.tps) ⟨fq, ho, hf⟩⟩
theorem es_b {te : TE} {tr : TA} {wa : Wp α} {wr : Wp β} {S : α → Sl} {Rr : β → List Rk} (h : EvG C Γ te wa (fun x => RB (S x))) (hr : EvS C Γ tr wr Rr) : EvS C Γ (tCons te tr) (bnd wa fun a => bnd wr fun r => ret (a, r)) (fun x => RB (S x.1) :: Rr x.2) := es_cons h (fun _ => st_B) hr
/-- a new thing may be lent -/
theorem EvG.lend {t : TE} {w : Wp α} {S : α → Sl} (h : EvG C Γ t w (fun a => RN (S a))) : EvG C Γ t w (fun a => RB (S a)) := fun P X hw B σ H fp en ex Q q =>
  h P X hw B σ H fp en ex Q fun r v H' hp s ⟨fp', h1, hf⟩ => q r v H' hp s ⟨fp', h1, fun a ha => en.tps.new (hf a ha)⟩
end
end WL
/-! WL, part 22: a def that takes a thing over; a list put into a list of lists of lists. -/
namespace WL
open PySem PySem.Spec PyProof.Rows L2
end WL
/-! WL, part 23: data as tuples of things. -/
namespace WL
open PySem PySem.Spec PyProof.Rows L2
end WL
/-! WL, part 24: the tape of draws (a dict), the law over any tape. -/
namespace WL
open PySem PySem.Spec PyProof.Rows L2
theorem law_runS {S : Sl} {K : PySem.W.Frag} [Tbs K] {n : Nat} {t : TS} {m : Wp Bool} {Q : VK} {H : Hp} {x : Option V} {a : Addr} {fq : List Addr}
    (hs : SimB ⟨K, E0, fun _ => (.none, "")⟩ (fun r : Bool => Oc.fz (eB r)) (endC fun r : Bool => Oc.fz (eB r)) noC noC t (.un :: .tp S :: List.replicate n .un) m) (hm : m (fun b => b = true) (fun _ => False))
    (htb : tbOf K (some (S, .ref a, fq))) (ho : S.own H (.ref a) fq) (q : ∀ H', Q (.bl true) H') : t { nx := fun _ H' => Q .non H', rt := Q } (x :: some (.ref a) :: List.replicate n none) H := by
  refine hs _ _ hm ⟨H, [], some (S, .ref a, fq), []⟩ _ (exok_no htb) (fun out v H' hp hf ht hv => ?_) (fun σ H' h => ?_) (fun σ H' h => h.elim) (fun σ H' h => h.elim) _ _ (fun _ => []) ?_
  · have e : out = true := hp
    subst e
    have e := Fz.bl_inv (b := true) hv
    subst e
    exact q H'
  · obtain ⟨out, _, hr, _⟩ := h
    cases hr
  · have key : ∀ (i : Nat) (e : Ety), (Ety.un :: .tp S :: List.replicate n .un)[i]? = some e → e = .un ∨ (i = 1 ∧ e = .tp S) := fun i e h => by
      match i, h with
      | 0, h => cases h; exact .inl rfl
      | 1, h => cases h; exact .inr ⟨rfl, rfl⟩
      | i + 2, h =>
        have h : (List.replicate n Ety.un)[i]? = some e := h
        rw [List.getElem?_replicate] at h
        split at h
        · cases h; exact .inl rfl
        · cases h
    refine ⟨by simp, fun i T h => ?_, fun i T h => ?_, fun i h => rfl, fun i j a h => (by cases h), fun i a h => (by cases h), fun i a T h _ h2 => (by cases h2), fun i K' ds h => ?_, fun i T h => ?_, fun r h => (by cases h), fun a o e => ⟨o, e, fun _ _ => rfl, fun _ => rfl⟩, fun t e => ?_⟩
    · rcases key i _ h with h | ⟨_, h⟩ <;> cases h
    · rcases key i _ h with h | ⟨rfl, h⟩
      · cases h
      · cases h
        exact ⟨_, _, rfl, rfl⟩
    · rcases key i _ h with h | ⟨_, h⟩ <;> cases h
    · rcases key i _ h with h | ⟨_, h⟩ <;> cases h
    · cases e
      exact ho
end WL
/-! WL, part 25: comprehensions over what is read in place; written dicts of texts. -/
namespace WL
open PySem PySem.Spec PyProof.Rows L2
section
variable {C : Cn} [Tbs C.K] {Γ : List Ety} {K : PySem.W.Frag} {α β γ F : Type}
/-- what a comprehension walks -/
def ItC (C : Cn) [Tbs C.K] (Γ : List Ety) {α : Type} (wi : TI) (w : Wp α) (ds : α → List PyData) : Prop := ∀ (P : α → Prop) (X : Xn → Prop), w P X → ∀ B σ H fp, En B Γ σ H fp → Exok C B X →
  ∀ R : It → Hp → Prop, (∀ r J H' sup, P r → Stp B H H' → ItOk C.K B J H' (ds r) sup → R J H') → wi σ H R
theorem ItC.is {wi : TI} {w w' : Wp α} {ds : α → List PyData} (h : ItC C Γ wi w ds) (e : w = w') : ItC C Γ wi w' ds := e ▸ h
end
/-! ### written dicts of texts -/
end WL
/-! WL, part 26: str(n). -/
namespace WL
open PySem PySem.Spec PyProof.Rows L2
end WL
/-! WL, part 27: tuples sorted, turned; sorted(set(t)). -/
namespace WL
open PySem PySem.Spec PyProof.Rows L2
/-! ### t[::-1] -/
/-! ### sorted(t), a tuple of ints -/
end WL
/-! WL, part 28: a written dict of texts of the def's own. -/
namespace WL
open PySem PySem.Spec PyProof.Rows L2
def tkE (kvs : List (Str × Int)) : List (Key × V) := kvs.map fun z => (.inr z.1, .int z.2)
def tk (K : PySem.W.Frag) (kvs : List (Str × Int)) : Sl where
  own := fun H v fp => ∃ p, v = .ref p ∧ fp = [p] ∧ H p = some (.dK (tkE kvs))
  ro := false
  dom := fun h ha => by
    obtain ⟨p, _, e, hp⟩ := h
    rw [e] at ha
    rw [List.mem_singleton.mp ha]
    exact ⟨_, hp, rfl⟩
  keep := fun h k => by
    obtain ⟨p, e1, e2, hp⟩ := h
    exact ⟨p, e1, e2, k p _ hp (.inl (by rw [e2]; exact List.mem_singleton.mpr rfl))⟩
end WL
/-! WL, part 29: what is never reached; == of lists of lists. -/
namespace WL
open PySem PySem.Spec PyProof.Rows L2
end WL
/-! WL, part 30: dicts of one's own whose keys are data (nested tuples of ints and texts). -/
namespace WL
open PySem PySem.Spec PyProof.Rows L2
/-! ### data as keys -/
mutual
def nkey : PyData → NestedKey
  | .none => .none
  | .bool b => .num (if b = true then 1 else 0)
  | .int i => .num i
  | .str x => .text x
  | .tuple ds => .tup (nkeys ds)
  | .list _ => .none
  | .dict _ => .none
def nkeys : List PyData → List NestedKey
  | [] => []
  | d :: ds => nkey d :: nkeys ds
end
/-! ### the dict -/
abbrev NEnt := NestedKey × Addr × Value
def KRaw (w : World) (d : Addr) (xs : List NEnt) (h : Heap) : Prop :=
  xs.length ≤ sizeLine ∧ (d == sysModules) = false ∧ (xs.map (·.1)).Nodup ∧ ∃ o es ep, h.get? d = some o ∧ o.ExactDict ∧ o.data = .dict es ep ∧ es.toList = xs.map fun x => (⟨x.1.hash w, .ref x.2.1, x.2.2⟩ : DictEntry)
def kdO (w : World) (d : Addr) (xs : List NEnt) : HO := .ext (KRaw w d xs)
theorem kdO_still {w : World} {d : Addr} {xs : List NEnt} : still (kdO w d xs) = false := still_dict ⟨d, fun h ⟨_, _, _, o, es, ep, e, _, e2, _⟩ => ⟨o, es, ep, e, e2⟩⟩
inductive NkAll (K : PySem.W.Frag) (H : Hp) : List NEnt → List (PyData × PyData) → Prop
  | nil : NkAll K H [] []
  | cons {a : Addr} {u : Value} {v : V} {k d : PyData} {xs : List NEnt} {kvs : List (PyData × PyData)} : Fz K H (.ref a) k → (nkey k).depth ≤ 8 → RelV v u → Fz K H v d → NkAll K H xs kvs → NkAll K H ((nkey k, a, u) :: xs) ((k, d) :: kvs)
section
variable {K : PySem.W.Frag} {H H' : Hp} {xs : List NEnt} {kvs : List (PyData × PyData)}
theorem NkAll.stay (st : Stay H H') : ∀ {xs : List NEnt} {kvs : List (PyData × PyData)}, NkAll K H xs kvs → NkAll K H' xs kvs
  | _, _, .nil => .nil
  | _, _, .cons h1 h2 h3 h4 t => .cons (h1.stay st) h2 h3 (h4.stay st) (t.stay st)
theorem NkAll.length : ∀ {xs : List NEnt} {kvs : List (PyData × PyData)}, NkAll K H xs kvs → xs.length = kvs.length
  | _, _, .nil => rfl
  | _, _, .cons _ _ _ _ t => congrArg Nat.succ t.length
def valN (kvs : List (PyData × PyData)) (k : PyData) : Option PyData := (kvs.find? fun p => decide (nkey p.1 = nkey k)).map (·.2)
def putN (kvs : List (PyData × PyData)) (k v : PyData) : List (PyData × PyData) := if (kvs.any fun p => decide (nkey p.1 = nkey k)) = true then kvs.map (fun p => if nkey p.1 = nkey k then (p.1, v) else p) else kvs ++ [(k, v)]
theorem NkAll.get (k : PyData) : ∀ {xs : List NEnt} {kvs : List (PyData × PyData)}, NkAll K H xs kvs → ((atKey xs (nkey k)).isSome = (valN kvs k).isSome ∧ ∀ d, valN kvs k = some d → ∃ a u v, atKey xs (nkey k) = some (a, u) ∧ RelV v u ∧ Fz K H v d)
  | _, _, .nil => ⟨rfl, fun d e => by cases e⟩
  | _, _, @NkAll.cons _ _ a u v k' d xs kvs h1 h2 h3 h4 t => by
    obtain ⟨g1, g2⟩ := t.get k
    by_cases e : nkey k' = nkey k
    · have e1 : atKey ((nkey k', a, u) :: xs) (nkey k) = some (a, u) := by simp [atKey, List.find?_cons, e]
      have e2 : valN ((k', d) :: kvs) k = some d := by simp [valN, List.find?_cons, e]
      rw [e1, e2]
      exact ⟨rfl, fun d' q => by cases q; exact ⟨a, u, v, rfl, h3, h4⟩⟩
    · have e1 : atKey ((nkey k', a, u) :: xs) (nkey k) = atKey xs (nkey k) := by simp [atKey, List.find?_cons, e]
      have e2 : valN ((k', d) :: kvs) k = valN kvs k := by simp [valN, List.find?_cons, e]
      rw [e1, e2]
      exact ⟨g1, g2⟩
theorem NkAll.any (k : PyData) : ∀ {xs : List NEnt} {kvs : List (PyData × PyData)}, NkAll K H xs kvs → (atKey xs (nkey k)).isSome = kvs.any fun p => decide (nkey p.1 = nkey k)
  | _, _, .nil => rfl
  | _, _, @NkAll.cons _ _ a u v k' d xs kvs h1 h2 h3 h4 t => by
    by_cases e : nkey k' = nkey k
    · simp [atKey, List.find?_cons, e]
    · have e1 : atKey ((nkey k', a, u) :: xs) (nkey k) = atKey xs (nkey k) := by simp [atKey, List.find?_cons, e]
      rw [e1, t.any k, List.any_cons]
      simp [e]
theorem NkAll.over {k d : PyData} {u : Value} {v : V} (hv : RelV v u) (hd : Fz K H v d) : ∀ {xs : List NEnt} {kvs : List (PyData × PyData)}, NkAll K H xs kvs → NkAll K H (xs.map (putAt (nkey k) u)) (kvs.map fun p => if nkey p.1 = nkey k then (p.1, d) else p)
  | _, _, .nil => .nil
  | _, _, @NkAll.cons _ _ a u' v' k' d' xs kvs h1 h2 h3 h4 t => by
    rw [List.map_cons, List.map_cons]
    unfold putAt
    by_cases e : nkey k' = nkey k
    · rw [if_pos e, if_pos e]
      exact .cons h1 h2 hv hd (t.over hv hd)
    · rw [if_neg e, if_neg e]
      exact .cons h1 h2 h3 h4 (t.over hv hd)
theorem NkAll.snoc {k d : PyData} {a : Addr} {u : Value} {v : V} (hk : Fz K H (.ref a) k) (h8 : (nkey k).depth ≤ 8) (hv : RelV v u) (hd : Fz K H v d) : ∀ {xs : List NEnt} {kvs : List (PyData × PyData)}, NkAll K H xs kvs → NkAll K H (xs ++ [(nkey k, a, u)]) (kvs ++ [(k, d)])
  | _, _, .nil => .cons hk h8 hv hd .nil
  | _, _, .cons h1 h2 h3 h4 t => .cons h1 h2 h3 h4 (t.snoc hk h8 hv hd)
theorem NkAll.put {k d : PyData} {a : Addr} {u : Value} {v : V} (t : NkAll K H xs kvs) (hk : Fz K H (.ref a) k) (h8 : (nkey k).depth ≤ 8) (hv : RelV v u) (hd : Fz K H v d) : NkAll K H (storedH xs (nkey k) a u) (putN kvs k d) := by
  unfold storedH putN
  rw [t.any k]
  split
  · exact t.over hv hd
  · exact t.snoc hk h8 hv hd
end
/-! ### as a thing of a name -/
/-- a dict of its own; e: the keys, e': the values -/
def nd (K : PySem.W.Frag) (w : World) (kvs : List (PyData × PyData)) : Sl where
  own := fun H v fp => ∃ p xs, v = .ref p ∧ fp = [p] ∧ H p = some (kdO w p xs) ∧ NkAll K H xs kvs
  ro := false
  dom := fun h ha => by
    obtain ⟨p, xs, _, e, hp, _⟩ := h
    rw [e] at ha
    rw [List.mem_singleton.mp ha]
    exact ⟨_, hp, kdO_still⟩
  keep := fun h k => by
    obtain ⟨p, xs, e1, e2, hp, hz⟩ := h
    exact ⟨p, xs, e1, e2, k p _ hp (.inl (by rw [e2]; exact List.mem_singleton.mpr rfl)), hz.stay fun a o e z => k a o e (.inr z)⟩
section
variable {α β F : Type} {C : Cn} [Tbs C.K] {Γ : List Ety} {w : World}
def eN (e : α → PyData) (e' : β → PyData) (p : α × β) : PyData × PyData := (e p.1, e' p.2)
end
end WL
/-! WL, part 31: sum(rows, []) of a list of lists. -/
namespace WL
open PySem PySem.Spec PyProof.Rows L2
/-! ### the reading -/
end WL
/-! WL, part 32: xs.pop(); a list or None. -/
namespace WL
open PySem PySem.Spec PyProof.Rows L2
end WL
/-! WL, part 33: tuples of a thing and a list; names for rows of a list of lists; any(t), t of tuples. -/
namespace WL
open PySem PySem.Spec PyProof.Rows L2
section
variable {C : Cn} [Tbs C.K] {Γ : List Ety} {K : PySem.W.Frag} {α β γ F : Type}
/-! ### (a thing, a list) -/
def tl (K : PySem.W.Frag) (d : PyData) (ds : List PyData) : Sl where
  own := fun H v fp => ∃ a x p vs, v = .ref a ∧ fp = [p] ∧ SqT K H a [x, .ref p] ∧ Fz K H x d ∧ H p = some (.lst vs) ∧ FzAll K H vs ds
  ro := false
  dom := fun h ha => by
    obtain ⟨_, _, p, vs, _, e, _, _, hp, _⟩ := h
    rw [e] at ha
    rw [List.mem_singleton.mp ha]
    exact ⟨_, hp, rfl⟩
  keep := fun {H H'} {v} {fp} h k => by
    obtain ⟨a, x, p, vs, e1, e2, hs, hx, hp, hz⟩ := h
    have st : Stay H H' := fun a o e z => k a o e (.inr z)
    exact ⟨a, x, p, vs, e1, e2, sqT_stay st hs, hx.stay st, k p _ hp (.inl (by rw [e2]; exact List.mem_singleton.mpr rfl)), hz.stay st⟩
/-! ### any(t) -/
/-! ### names for rows -/
/-- a list of lists, its rows' places known -/
def lp2 (K : PySem.W.Frag) (rs : List Addr) (dss : List (List PyData)) : Sl where
  own := fun H v fp => ∃ p, v = .ref p ∧ fp = p :: rs ∧ (p :: rs).Nodup ∧ H p = some (.lst (rs.map V.ref)) ∧ LA K H rs dss
  ro := false
  dom := fun h ha => by
    obtain ⟨p, e1, e2, nd, hp, hl⟩ := h
    exact (ls2 K dss).dom (v := .ref p) (fp := p :: rs) ⟨p, rs, rfl, rfl, nd, hp, hl⟩ (e2 ▸ ha)
  keep := fun {H H'} {v} {fp} h k => by
    obtain ⟨p, e1, e2, nd, hp, hl⟩ := h
    subst e1 e2
    obtain ⟨p', rs', e1, e2, nd', hp', hl'⟩ := (ls2 K dss).keep (v := .ref p) (fp := p :: rs) ⟨p, rs, rfl, rfl, nd, hp, hl⟩ k
    cases e1
    cases e2
    exact ⟨p, rfl, rfl, nd', hp', hl'⟩
/-- the name of a row -/
def alr (rs : List Addr) (j : Nat) : Sl where
  own := fun _ v fp => fp = [] ∧ ∃ r, v = .ref r ∧ rs[j]? = some r
  ro := false
  dom := fun h ha => by rw [h.1] at ha; cases ha
  keep := fun h _ => h
theorem put_self (fp : Nat → List Addr) (i : Nat) : WL.put fp i (fp i) = fp := by
  funext j
  by_cases e : j = i
  · subst e; exact put_same _ _
  · exact put_ne e
/-- a slot's thing said otherwise -/
theorem En.chg {B : Bs} {σ : List (Option V)} {H : Hp} {fp : Nat → List Addr} (en : En B Γ σ H fp) {i : Nat} {S S' : Sl} (hS : Γ[i]? = some (.sl S)) (ro : S.ro = false) (h : ∀ v, S.own H v (fp i) → S'.own H v (fp i)) : En B (Γ.set i (.sl S')) σ H fp := by
  obtain ⟨v, hv, ho⟩ := en.sl i S hS
  have hi : i < Γ.length := (List.getElem?_eq_some_iff.mp hS).1
  have := en.put (i := i) (S := S') (v := v) (q := fp i) hi (h v ho) (fun a ha j hj => en.dis j i a hj ha) (fun a ha => en.nt i a ha) (fun _ a ha => en.new i a S hS ro ha) fun r hr => (en.rr r hr).2.2 i
  rw [set_id σ i (some v) hv, put_self] at this
  exact this
theorem lp2_ls2 {rs : List Addr} {dss : List (List PyData)} {H : Hp} {v : V} {fp : List Addr} (h : (lp2 K rs dss).own H v fp) : (ls2 K dss).own H v fp := by
  obtain ⟨p, e1, e2, nd, hp, hl⟩ := h
  exact ⟨p, rs, e1, e2, nd, hp, hl⟩
theorem En.unpin {B : Bs} {σ : List (Option V)} {H : Hp} {fp : Nat → List Addr} (en : En B Γ σ H fp) {i : Nat} {rs : List Addr} {dss : List (List PyData)} (hS : Γ[i]? = some (.sl (lp2 K rs dss))) : En B (Γ.set i (.sl (ls2 K dss))) σ H fp := en.chg hS rfl fun v h => lp2_ls2 h
theorem En.pin {B : Bs} {σ : List (Option V)} {H : Hp} {fp : Nat → List Addr} (en : En B Γ σ H fp) {i : Nat} {p : Addr} {rs : List Addr} {dss : List (List PyData)} (hS : Γ[i]? = some (.sl (ls2 K dss))) (hf : fp i = p :: rs) : En B (Γ.set i (.sl (lp2 K rs dss))) σ H fp := en.chg hS rfl fun v h => by
  obtain ⟨p', rs', e1, e2, nd, hp, hl⟩ := h
  rw [hf] at e2
  cases e2
  exact ⟨p, e1, hf, nd, hp, hl⟩
theorem ev_unpin {t : TE} {w : Wp α} {R : α → Rk} {i : Nat} {rs : List Addr} {dss : List (List PyData)} (hS : Γ[i]? = some (.sl (lp2 C.K rs dss))) (h : EvG C (Γ.set i (.sl (ls2 C.K dss))) t w R) : EvG C Γ t w R := fun P X hw B σ H fp en ex Q q => h P X hw B σ H fp (en.unpin hS) ex Q q
theorem la_unpin {N : Cont F} {m : Wp F} {i : Nat} {rs : List Addr} {dss : List (List PyData)} (hS : Γ[i]? = some (.sl (lp2 K rs dss))) (h : Lands N (Γ.set i (.sl (ls2 K dss))) m) : Lands N Γ m := fun P X B σ H fp hm en => h P X B σ H fp hm (en.unpin hS)
/-- where a row stands -/
theorem En.rowP {B : Bs} {σ : List (Option V)} {H : Hp} {fp : Nat → List Addr} {i : Nat} {rs : List Addr} {e : β → PyData} {xss : List (List β)} (en : En B Γ σ H fp) (h : Γ[i]? = some (.sl (lp2 C.K rs (e2L e xss)))) :
    ∃ p, σ[i]? = some (some (.ref p)) ∧ fp i = p :: rs ∧ (p :: rs).Nodup ∧ H p = some (.lst (rs.map V.ref)) ∧ LA C.K H rs (e2L e xss) ∧ rs.length = xss.length := by
  obtain ⟨v, hv, p, rfl, e2, nd, hp, hl⟩ := en.sl i _ h
  have hlen := hl.length
  unfold e2L at hlen
  rw [List.length_map] at hlen
  exact ⟨p, hv, e2, nd, hp, hl, hlen⟩
/-- row = xs[u] -/
def openW (xss : List (List β)) (wi : Wp Int) (k : Nat → Wp F) : Wp F := bnd wi fun ix => bnd (opt (ixN xss.length ix)) fun j => k j
theorem sb_open {res : F → Oc} {N Bk Ct : Cont F} {i j : Nat} {ti : TE} {e : β → PyData} {xss : List (List β)} {wi : Wp Int} {k : Nat → Wp F} (h : Γ[i]? = some (.sl (ls2 C.K (e2L e xss)))) (hij : j ≠ i) (hj : j < Γ.length) (hi : EvG C Γ ti wi (fun r => RF C.K (eI r)))
    (hk : ∀ rs a, Lands N ((Γ.set i (.sl (lp2 C.K rs (e2L e xss)))).set j (.sl (alr rs a))) (k a)) : SimB C res N Bk Ct (tAsg (tOp (rIxL C.K) (tVar i) ti) (gName j)) Γ (openW xss wi k) := fun P X hm B D ex f n b c σ H fp en => by
  obtain ⟨p, rs, hv, hf, nd, hp, hl, hlen⟩ := En.row2 (C := C) en h
  refine ⟨_, hv, hi _ X hm B σ H fp en ex _ fun ix y H1 h1 s1 hix => ?_⟩
  have ei := Fz.int_inv (n := ix) hix
  subst ei
  obtain ⟨a, ha, h1⟩ := h1
  have en1 := en.step s1
  obtain ⟨p', rs', hv', hf', nd', hp', hl', hlen'⟩ := En.row2 (C := C) en1 h
  rw [hv] at hv'
  cases hv'
  have hal : a < rs'.length := by rw [hlen']; exact (ixN_seq ha).2.1
  refine ⟨p, rs'.map V.ref, ix, .ref rs'[a], rfl, rfl, .inl (.inl hp'), by
    unfold atI
    rw [List.length_map, hlen', ha]
    show (rs'.map V.ref)[a]? = _
    rw [List.getElem?_map, List.getElem?_eq_getElem hal]
    rfl, n _ _ (hk rs' a P X B _ H1 _ h1 ((en1.pin h hf').put (i := j) (q := []) (by rw [List.length_set]; exact hj) ⟨rfl, _, rfl, List.getElem?_eq_getElem hal⟩ (fun a ha => absurd ha (by simp)) (fun a ha => absurd ha (by simp)) (fun _ a ha => absurd ha (by simp)) fun r hr => by simp))⟩
/-- a row by its name -/
theorem ev_al {i k j : Nat} {rs : List Addr} {e : β → PyData} {xss : List (List β)} (h : Γ[i]? = some (.sl (lp2 C.K rs (e2L e xss)))) (hk : Γ[k]? = some (.sl (alr rs j))) : EvG C Γ (tVar k) (opt xss[j]?) (fun r => RL C.K (r.map e)) := fun P X hw B σ H fp en ex Q q => by
  obtain ⟨row, hrow, hP⟩ := hw
  obtain ⟨p, hv, hf, nd, hp, hl, hlen⟩ := En.rowP (C := C) en h
  obtain ⟨v, hvk, _, r, rfl, hr⟩ := en.sl k _ hk
  obtain ⟨r', vs, g1, g2, g3⟩ := hl.row hrow
  rw [hr] at g1
  cases g1
  exact ⟨_, hvk, q row _ H hP (.refl en.tps) ⟨r, vs, rfl, .inl ⟨.inl g2, en.nt i r (by rw [hf]; exact List.mem_cons_of_mem _ (List.mem_of_getElem? hr))⟩, g3⟩⟩
end
end WL
/-! WL, part 34: comprehensions with three for. -/
namespace WL
open PySem PySem.Spec PyProof.Rows L2
end WL
/-! WL, part 35: comprehensions with three for, read. -/
namespace WL
open PySem PySem.Spec PyProof.Rows L2
end WL
/-! WL, part 36: three for, plainly; ranges by name; written dicts' get; written dicts of any length. -/
namespace WL
open PySem PySem.Spec PyProof.Rows L2
section
variable {C : Cn} [Tbs C.K] {Γ : List Ety} {K : PySem.W.Frag} {α β γ F : Type}
/-! ### comprehensions -/
/-- a list that grows, in nobody's hand -/
structure Dok (B : Bs) (fp : Nat → List Addr) (D : Addr) : Prop where
  nD : ∀ i, D ∉ fp i
  off : B.off D
  bh : B.H D = none
  rd : ∀ r ∈ B.R, r.1 ≠ D
theorem Dok.sub {B : Bs} {fp fp' : Nat → List Addr} {D : Addr} (d : Dok B fp D) (h : ∀ i, D ∈ fp' i → ∃ j, D ∈ fp j) : Dok B fp' D := ⟨fun i hm => (h i hm).elim fun j hj => d.nD j hj, d.off, d.bh, d.rd⟩
theorem En.kept {B : Bs} {σ : List (Option V)} {H H' : Hp} {fp : Nat → List Addr} (en : En B Γ σ H fp) {D : Addr} {acc acc' : List V} (hD : H D = some (.lst acc)) (hD' : H' D = some (.lst acc')) (kp : ∀ a o, H a = some o → a ≠ D → B.off a → H' a = some o) (ts : TpSt B H') (d : Dok B fp D) : En B Γ σ H' fp :=
  (en.side (o' := .lst acc') hD rfl d.nD d.off d.bh d.rd).step ⟨fun a o e n => by
    by_cases z : a = D
    · subst z
      rw [upd_same] at e
      cases e
      exact hD'
    · rw [upd_ne z] at e
      exact kp a o e z n, ts⟩
/-! ### ranges by name -/
end
/-! ### written dicts -/
end WL
/-! WL, part 37: defs that raise a class of one's own; their calls; try: return f(..) except C: .. -/
namespace WL
open PySem PySem.Spec PyProof.Rows L2
/-- the classes' values, written -/
def ctOf (xs : List Addr) : Nat → Value × Str := fun i => (.ref (xs.getD i (xs.headD 0)), "")
theorem ct1 {K : PySem.W.Frag} {a : Addr} {cv : Value} (h : PySem.W.exmOne K (.ref a) cv = some true) : ∀ c, PySem.W.exmOne K (ctOf [a] c).1 cv = some true
  | 0 => h
  | _ + 1 => h
/-- what the top has written of a class of one's own, without __init__ -/
structure XCls (K : PySem.W.Frag) (mg : Str → Option Value) (x : Str) (a : Addr) : Prop where
  g : mg x = some (.ref a)
  x : PySem.W.excIn K a [.type "ValueError", .type "Exception", .type "BaseException", .type "object"] "ValueError.__new__" = true
  k : PySem.W.keepIn K (.ref a) = true
  b : PySem.W.subIn K (.ref a) (.type "BaseException") = some true
  t : PySem.W.typeIn K (.ref a) = some (.type "type")
  e : PySem.W.exmOne K (.ref a) (.ref a) = some true
section
variable {P : Program} {w : World} {K : PySem.W.Frag} [Tbs K] {mg : Str → Option Value} {base : Heap} {C : Cn} [Tbs C.K] {Γ : List Ety} {α β γ ι F G : Type}
/-- a def that may raise -/
theorem fn_x {x qual : Str} {st : Stmt} {f : Addr} {fd : FuncData} {N ps : List Str} {k : Nat} {ct : Nat → Value × Str} {ag : ι → List Ag} {fm : ι → Wp F} {res : F → Oc} (Fu : Fun K x qual st f fd) (S : FnScope N ps (defScope st)) (hlen : ∀ x, (ag x).length = ps.length)
    (hb : ∀ (cdv : Value) (A : Around) (outer : List PySem.Env) (s : Shared) (H : Hp) (E : XK), Room k (A.deeper (envOfC qual (defScope st) s.heap.objs.size f cdv)) →
      ∃ t, PSs (cxOf (L2.CX P w) P w K mg base N qual (defScope st) f cdv A outer s H E) (defBody st) t ∧ ∀ x, SimB ⟨K, E, ct⟩ res (endC res) noC noC t ((ag x).map (Ag.ety K) ++ List.replicate (N.length - ps.length) .un) (fm x)) :
    FnOk P w K mg base (L2.CX P w) (k + 1) f fd ps (spX K ct ag fm res) := by
  refine Fu.okX S (fun vs H Q E h => ?_) (fun cdv A outer s H vs Q E hr h => ?_)
  · obtain ⟨x, P, X, T, R, fp, _, en, _⟩ := h
    have := en.len
    rw [List.length_map, List.length_map] at this
    rw [this, hlen]
  · obtain ⟨t, ht, hs⟩ := hb cdv A outer s H E hr
    refine ⟨t, ht, ?_⟩
    obtain ⟨x, P, X, T, R, fp, hf, en, fin, ex⟩ := h
    have hl := en.len
    rw [List.length_map, List.length_map] at hl
    have hs' := hs x
    rw [← hlen x, ← hl] at hs'
    exact run_body (C := ⟨K, E, ct⟩) hs' hf en ex fin
/-- raise -/
theorem sb_raise {res : F → Oc} {N Bk Ct : Cont F} (c : Nat) {v : Value} (hv : v = (C.ct c).1) : SimB C res N Bk Ct (fun _ _ H => C.E v none H) Γ (thr (.plain c)) := fun P X hm B D ex f n b c' σ H fp en => by
  subst hv
  exact ex.ok (.plain c) _ none H hm en.fr en.tps (.plain c)
/-- a call of a def that may raise, where nothing is raised -/
theorem ev_callX0 {ta : TA} {wa : Wp ι} {ag : ι → List Ag} {f : ι → Wp F} {res : F → Oc} {e : F → PyData} {ct : Nat → Value × Str} (ha : EvA C Γ ta wa (fun x => (ag x).map (Ag.rk C.K))) (hr : ∀ o, res o = .fz (e o)) :
    EvG C Γ (tCallS (spX C.K ct ag f res) (WE fun _ _ _ _ => False) ta) (bnd wa fun x => noX (f x)) (fun r => RF C.K (e r)) := fun P X hw B σ H fp en ex Q q => by
  refine ha _ X hw B σ H fp en ex _ fun x vs H1 h1 s1 r1 => ?_
  obtain ⟨R, en'⟩ := args_en s1.ts r1
  refine ⟨x, P, fun _ => False, B.T, R, _, h1, en', fun out v H' hp hf ht ho => ?_, ⟨ex.tb, fun xn v d H' hx => hx.elim⟩⟩
  rw [hr] at ho
  exact q out v H' hp (s1.trans (after_call hf ht)) ho
/-- .. in a def that may raise -/
theorem ev_callX {ta : TA} {wa : Wp ι} {ag : ι → List Ag} {f : ι → Wp F} {res : F → Oc} {e : F → PyData} (ha : EvA C Γ ta wa (fun x => (ag x).map (Ag.rk C.K))) (hr : ∀ o, res o = .fz (e o)) :
    EvG C Γ (tCallS (spX C.K C.ct ag f res) (WE fun cls d _ H => C.E cls d H) ta) (bnd wa f) (fun r => RF C.K (e r)) := fun P X hw B σ H fp en ex Q q => by
  refine ha _ X hw B σ H fp en ex _ fun x vs H1 h1 s1 r1 => ?_
  obtain ⟨R, en'⟩ := args_en s1.ts r1
  have en1 := en.step s1
  refine ⟨x, P, X, B.T, R, _, h1, en', fun out v H' hp hf ht ho => ?_, ⟨ex.tb, fun xn v d H' hx hf ht hi => ?_⟩⟩
  · rw [hr] at ho
    exact q out v H' hp (s1.trans (after_call hf ht)) ho
  · have s2 : Stp B H1 H' := after_call hf ht
    exact ex.ok xn v d H' hx (en1.step s2).fr s2.ts (by
      cases hi with
      | plain c => exact .plain c
      | num c n d h => exact .num c n d h)
/-- a class is what except names -/
theorem exm_self {S : Addr} (h1 : PySem.W.subIn K (.ref S) (.type "BaseException") = some true) (h2 : PySem.W.isClsIn K S = true) (h3 : PySem.W.typeIn K (.ref S) = some (.type "type")) (h4 : PySem.W.subIn K (.ref S) (.ref S) = some true) :
    PySem.W.exmOne K (.ref S) (.ref S) = some true := by
  have e1 : (PySem.W.subIn K (.ref S) (.type "BaseException") == some true) = true := by rw [h1] <;> rfl
  have e2 : ((PySem.W.clsIn K S).isSome && PySem.W.typeIn K (.ref S) == some (.type "type")) = true := by
    have h2' : (PySem.W.clsIn K S).isSome = true := h2
    rw [h2', h3] <;> rfl
  show (if (PySem.W.subIn K (.ref S) (.type "BaseException") == some true) = true then (if ((PySem.W.clsIn K S).isSome && PySem.W.typeIn K (.ref S) == some (.type "type")) = true then PySem.W.subIn K (.ref S) (.ref S) else none) else none) = some true
  rw [if_pos e1, if_pos e2]
  exact h4
end
section
variable {X : Cx} {mg : Str → Option Value} {x : Str} {a : Addr}
/-- raise C('..') -/
theorem ps_raiseC {K : PySem.W.Frag} {m : Str} {j : Nat} {p p2 pos rpos : Pos} {W : WX} (hK : X.K = K) (T : XCls K X.mg x a) (hc : X.calm = true) (tk : Takes X W) (hg : Gl X x) (hdb : (x == ("__debug__" : Str)) = false := by decide) :
    PS X (.Raise (some (.Call (.Name x p) [.Constant (.str m) j p2] [] pos)) none rpos) (fun _ σ H => W (.ref a) none σ H) := by
  subst hK
  exact ps_raise hc tk (pmk_own PySem.F.excBase_ValueError T.x T.g T.k (raises_own T.b T.t) hg hdb)
end
end WL
namespace WL
open PySem PySem.Spec PyProof.Rows L2
section
variable {C : Cn} [Tbs C.K] {Γ : List Ety} {ι F : Type}
theorem ev_callX0S {ta : TA} {wa : Wp ι} {ag : ι → List Ag} {f : ι → Wp F} {res : F → Oc} {ct : Nat → Value × Str} (e : F → PyData) (ha : EvS C Γ ta wa (fun x => (ag x).map (Ag.rk C.K))) (hr : ∀ o, res o = .fz (e o)) :
    EvG C Γ (tCallS (spX C.K ct ag f res) (WE fun _ _ _ _ => False) ta) (bnd wa fun x => noX (f x)) (fun r => RF C.K (e r)) := ev_callX0 ha.ev hr
theorem ev_callXS {ta : TA} {wa : Wp ι} {ag : ι → List Ag} {f : ι → Wp F} {res : F → Oc} (e : F → PyData) (ha : EvS C Γ ta wa (fun x => (ag x).map (Ag.rk C.K))) (hr : ∀ o, res o = .fz (e o)) :
    EvG C Γ (tCallS (spX C.K C.ct ag f res) (WE fun cls d _ H => C.E cls d H) ta) (bnd wa f) (fun r => RF C.K (e r)) := ev_callX ha.ev hr
end
end WL
/-! WL, part 38: divmod; row[i] = e by a row's name. -/
namespace WL
open PySem PySem.Spec PyProof.Rows L2
section
variable {C : Cn} [Tbs C.K] {Γ : List Ety} {K : PySem.W.Frag} {α β γ F : Type}
abbrev rDivmod : List V → Hp → VK → Prop := fun xs H Q => ∃ i j, xs = [.int i, .int j] ∧ CDiv i j ∧ ∀ p, H p = none → Q (.ref p) (upd H p (.tup [.int (i / j), .int (i % j)]))
theorem ev_divmod {ta tb : TE} {wa wb : Wp Int} (ha : EvG C Γ ta wa (fun r => RF C.K (eI r))) (hb : EvG C Γ tb wb (fun r => RF C.K (eI r))) :
    EvG C Γ (tCB rDivmod (tCons ta (tCons tb tNil))) (bnd wa fun i => bnd wb fun j => grd (CDiv i j) (ret (i / j, i % j))) (fun r => RF C.K (e2 eI eI r)) := fun P X hw B σ H fp en ex Q q =>
  ha _ X hw B σ H fp en ex _ fun i v H1 hp s hv => hb _ X hp B σ H1 fp (en.step s) ex _ fun j u H2 hp2 s2 hu => by
    have e1 := Fz.int_inv (n := i) hv
    have e2' := Fz.int_inv (n := j) hu
    subst e1
    subst e2'
    refine ⟨i, j, rfl, hp2.1, fun p hn => ?_⟩
    have s3 : Stp B H2 (upd H2 p (.tup [.int (i / j), .int (i % j)])) := .new s2.ts hn
    exact q _ _ _ hp2.2 ((s.trans s2).trans s3) (.tup (.inl (.inl upd_same)) (.cons (.int _) (.cons (.int _) .nil)))
/-- row[i] = e, the row by its name -/
def alSetW (xss : List (List β)) (j : Nat) (w : Wp β) (wi : Wp Int) (k : List (List β) → Wp F) : Wp F := bnd w fun x => bnd (opt xss[j]?) fun row => bnd wi fun ix => bnd (opt (ixN row.length ix)) fun a => k (xss.set j (row.set a x))
theorem sb_alSet {res : F → Oc} {N Bk Ct : Cont F} {i kk j : Nat} {rs : List Addr} {te ti : TE} {e : β → PyData} {xss : List (List β)} {w : Wp β} {wi : Wp Int} {k : List (List β) → Wp F} (h : Γ[i]? = some (.sl (lp2 C.K rs (e2L e xss)))) (hkk : Γ[kk]? = some (.sl (alr rs j))) (he : EvG C Γ te w (fun r => RF C.K (e r))) (hi : EvG C Γ ti wi (fun r => RF C.K (eI r)))
    (hk : ∀ ys, Lands N (Γ.set i (.sl (lp2 C.K rs (e2L e ys)))) (k ys)) : SimB C res N Bk Ct (tAsg te (gSub (tVar kk) ti rSetL)) Γ (alSetW xss j w wi k) := fun P X hm B D ex f n b c σ H fp en => by
  refine he _ X hm B σ H fp en ex _ fun x v H1 h1 s1 hx => ?_
  obtain ⟨row, hrow, h1⟩ := h1
  have en1 := en.step s1
  obtain ⟨p, hv, hf, nd, hp, hl, hlen⟩ := En.rowP (C := C) en1 h
  obtain ⟨v', hvk, _, r, rfl, hr⟩ := en1.sl kk _ hkk
  refine ⟨_, hvk, hi _ X h1 B σ H1 fp en1 ex _ fun ix u H2 h2 s2 hu => ?_⟩
  obtain ⟨a, ha, h2⟩ := h2
  have en2 := (en1.step s2).unpin h
  have h' : (Γ.set i (.sl (ls2 C.K (e2L e xss))))[i]? = some (.sl (ls2 C.K (e2L e xss))) := List.getElem?_set_self (List.getElem?_eq_some_iff.mp h).1
  obtain ⟨p2, rs2, hv2, hf2, nd2, hp2, hl2, hlen2⟩ := En.row2 (C := C) en2 h'
  rw [hv] at hv2
  cases hv2
  rw [hf] at hf2
  cases hf2
  obtain ⟨r2, vs2, k1, k2, k3⟩ := hl2.row hrow
  rw [hr] at k1
  cases k1
  have hll := k3.length
  rw [List.length_map] at hll
  have en3 := en2.rerow h' hv hf nd2 hp2 hl2 hr k2 (row' := row.set a x) (vs' := vs2.set a v) (by rw [List.map_set]; exact k3.set a (Fz.stay (s2.stay s1.ts) hx))
  rw [List.set_set] at en3
  have en4 := en3.pin (K := C.K) (List.getElem?_set_self (List.getElem?_eq_some_iff.mp h).1) hf
  rw [List.set_set] at en4
  exact ⟨r, vs2, ix, a, rfl, Fz.int_inv hu, k2, by rw [hll]; exact ha, n _ _ (hk _ P X B σ _ fp h2 en4)⟩
end
end WL
/-! WL, part 39: for over a row of a lent list of lists; a row's name let go of, with the list written out. -/
namespace WL
open PySem PySem.Spec PyProof.Rows L2
section
variable {C : Cn} [Tbs C.K] {Γ : List Ety} {K : PySem.W.Frag} {α β γ F : Type}
theorem la_unpinG {N : Cont F} {m : Wp F} {i : Nat} {rs : List Addr} {dss : List (List PyData)} {Γ' : List Ety} (hS : Γ[i]? = some (.sl (lp2 K rs dss))) (hΓ : Γ.set i (.sl (ls2 K dss)) = Γ') (h : Lands N Γ' m) : Lands N Γ m := la_unpin hS (hΓ ▸ h)
theorem it_rowB {i : Nat} {ti : TE} {e : β → PyData} {wi : Wp Int} (xss : List (List β)) (h : Γ[i]? = some (.rb (ls2 C.K (e2L e xss)))) (hi : EvG C Γ ti wi (fun r => RF C.K (eI r))) :
    ItG C Γ (iList C.K (tOp (rIxL C.K) (tVar i) ti)) (bnd wi fun k => opt (atI xss k)) (fun r => r.map e) noOwn := fun P X hw B σ H fp en ex R q => by
  obtain ⟨v, fq, hv, ⟨p, rs, rfl, efp, nd, hp, hl⟩, hq⟩ := en.rb i _ h
  refine ⟨_, hv, hi _ X hw B σ H fp en ex _ fun k y H1 h1 s1 hk => ?_⟩
  have ek := Fz.int_inv (n := k) hk
  subst ek
  obtain ⟨v', fq', hv', ⟨p', rs', rfl, efp', nd', hp', hl'⟩, hq'⟩ := (en.step s1).rb i _ h
  rw [hv] at hv'
  cases hv'
  obtain ⟨xs, hx, hP⟩ := h1
  unfold atI at hx
  cases e1 : ixN xss.length k with
  | none => rw [e1] at hx; cases hx
  | some j =>
    rw [e1] at hx
    have hx : xss[j]? = some xs := hx
    obtain ⟨r, vs, g1, g2, hz⟩ := hl'.at (i := j) (ds := xs.map e) (by unfold e2L; rw [List.getElem?_map, hx]; rfl)
    have hlen' := hl'.length
    unfold e2L at hlen'
    rw [List.length_map] at hlen'
    have hlen := hz.length
    obtain ⟨o, hm⟩ := hq' r (by rw [efp']; exact List.mem_cons_of_mem _ (List.mem_of_getElem? g1))
    have hoff := ((en.step s1).rr _ hm).2.1
    refine ⟨p, rs'.map V.ref, k, .ref r, rfl, rfl, .inl (.inl hp'), ?_, r, rfl, ⟨vs, .inl (.inl g2)⟩, q xs _ H1 [r] hP s1 ⟨fun a h => ?_, fun i H2 st hi => ?_, fun i H2 st hi => ⟨vs, .inl (.inl (st r _ g2 (.inl (by simp)))), le_beta hlen hi⟩⟩ fun a h => ?_⟩
    · unfold atI
      rw [List.length_map, hlen', e1]
      show (rs'.map V.ref)[j]? = _
      rw [List.getElem?_map, g1]
      rfl
    · rw [List.mem_singleton.mp h]
      exact ⟨hoff, _, g2⟩
    · have stay : Stay H1 H2 := fun a o e z => st a o e (.inr z)
      have hs2 : SqL C.K H2 r vs := .inl (.inl (st r _ g2 (.inl (by simp))))
      have hi2 : i < vs.length := lt_beta hlen hi
      refine ⟨⟨vs, vs[i], hs2, List.getElem?_eq_getElem hi2⟩, fun x H3 hy => ?_⟩
      obtain ⟨rfl, hx⟩ := hy
      obtain ⟨d, hd, hf⟩ := (FzAll.stay stay hz).getV (hx vs hs2)
      exact ⟨fun _ _ e => e, d, hd, hf⟩
    · rw [List.mem_singleton.mp h]
      exact .inr (.inr ⟨_, hm, rfl⟩)
end
end WL
/-! WL, part 40: reversed and zip of tuples; tuple(reversed(a list)); new things of defs that may raise; try that gives data. -/
namespace WL
open PySem PySem.Spec PyProof.Rows L2
section
variable {C : Cn} [Tbs C.K] {Γ : List Ety} {K : PySem.W.Frag} {α β γ F G ι : Type}
theorem it_revT {te : TE} {w : Wp (List α)} {e : α → PyData} (h : EvG C Γ te w (fun r => RF C.K (eT e r))) : ItG C Γ (RT.iRevA C.K te) (bnd w fun xs => ret xs.reverse) (fun r => r.map e) noOwn := fun P X hw B σ H fp en ex R q => by
  refine h _ X hw B σ H fp en ex _ fun r v H1 hp s hr => ?_
  obtain ⟨a, vs, rfl, hs, hz⟩ := Fz.tup_inv hr
  have hlen := hz.length
  rw [List.length_map] at hlen
  refine ⟨a, vs, rfl, .inr ⟨hs, q r.reverse _ H1 [] hp s ⟨fun a h => absurd h (by simp), fun i H2 st hi => ?_, fun i H2 st hi => by rw [List.length_map, List.length_reverse] at hi; show vs.length ≤ i; omega⟩ fun a h => absurd h (by simp)⟩⟩
  have stay : Stay H1 H2 := fun a o e z => st a o e (.inr z)
  have hs2 := sqT_stay stay hs
  rw [List.length_map, List.length_reverse] at hi
  have hi2 : vs.length - 1 - i < vs.length := by omega
  refine ⟨⟨by omega, vs, vs[vs.length - 1 - i], hs2, List.getElem?_eq_getElem hi2⟩, fun x H3 hy => ?_⟩
  obtain ⟨rfl, hx⟩ := hy
  obtain ⟨d, hd, hf⟩ := (hz.stay stay).getV (hx vs hs2)
  refine ⟨fun _ _ e => e, d, ?_, hf⟩
  show (r.reverse.map e)[i]? = some d
  rw [List.map_reverse, List.getElem?_reverse (by rw [List.length_map]; exact hi), List.length_map, ← hlen]
  exact hd
theorem it_zipT {ta tb : TE} {wa : Wp (List α)} {wb : Wp (List β)} {e : α → PyData} {e' : β → PyData} (ha : EvG C Γ ta wa (fun r => RF C.K (eT e r))) (hb : EvG C Γ tb wb (fun r => RF C.K (eT e' r))) :
    ItG C Γ (RZ.iZipA C.K (tCons ta (tCons tb tNil))) (bnd wa fun xs => bnd wb fun ys => ret (xs.zip ys)) (fun r => r.map (e2 e e')) noOwn := fun P X hw B σ H fp en ex R q => by
  refine ha _ X hw B σ H fp en ex _ fun r v H0 hp0 s0 hr0 => hb _ X hp0 B σ H0 fp (en.step s0) ex _ fun r' v' H1 hp s1 hr' => ?_
  obtain ⟨a, vs, rfl, hs, hz⟩ := Fz.tup_inv (hr0.stay (s1.stay s0.ts))
  obtain ⟨b, vs', rfl, hs', hz'⟩ := Fz.tup_inv hr'
  have hlen := hz.length
  have hlen' := hz'.length
  rw [List.length_map] at hlen hlen'
  refine ⟨a, b, vs, vs', rfl, .inr ⟨hs, hs', q (r.zip r') _ H1 [] hp (s0.trans s1) ⟨fun a h => absurd h (by simp), fun i H2 st hi => ?_, fun i H2 st hi => ?_⟩ fun a h => absurd h (by simp)⟩⟩
  · have stay : Stay H1 H2 := fun a o e z => st a o e (.inr z)
    have h1 := sqT_stay stay hs
    have h2 := sqT_stay stay hs'
    rw [List.length_map, List.length_zip] at hi
    have hi1 : i < vs.length := by omega
    have hi2 : i < vs'.length := by omega
    refine ⟨⟨vs, vs', vs[i], vs'[i], h1, h2, List.getElem?_eq_getElem hi1, List.getElem?_eq_getElem hi2⟩, fun x H3 hy => ?_⟩
    obtain ⟨T, y, y', rfl, hT, rfl, hx, hx'⟩ := hy
    obtain ⟨d, hd, hf⟩ := (hz.stay stay).getV (hx vs h1)
    obtain ⟨d', hd', hf'⟩ := (hz'.stay stay).getV (hx' vs' h2)
    have keep : ∀ a o, H2 a = some o → upd H2 T (.tup [y, y']) a = some o := fun a o e => by
      rw [upd_ne (ne_of_none e hT)]
      exact e
    rw [List.getElem?_map] at hd hd'
    have g1 : r[i]? = some r[i] := List.getElem?_eq_getElem (by omega)
    have g2 : r'[i]? = some r'[i] := List.getElem?_eq_getElem (by omega)
    rw [g1] at hd
    rw [g2] at hd'
    cases hd
    cases hd'
    refine ⟨keep, e2 e e' (r[i], r'[i]), ?_, ?_⟩
    · have hzz : (r.zip r')[i]? = some (r[i], r'[i]) := List.getElem?_zip_eq_some.mpr ⟨g1, g2⟩
      show ((r.zip r').map (e2 e e'))[i]? = _
      rw [List.getElem?_map, hzz]
      rfl
    · exact .tup (.inl (.inl upd_same)) (.cons (hf.stay fun a o e _ => keep a o e) (.one (hf'.stay fun a o e _ => keep a o e)))
  · rw [List.length_map, List.length_zip] at hi
    have stay : Stay H1 H2 := fun a o e z => st a o e (.inr z)
    exact ⟨vs, vs', sqT_stay stay hs, sqT_stay stay hs', by omega⟩
theorem ev_tupRev {te : TE} {w : Wp (List α)} {e : α → PyData} (h : EvG C Γ te w (fun r => RL C.K (r.map e))) : EvG C Γ (RT.tTupRev C.K te) (bnd w fun xs => ret xs.reverse) (fun r => RF C.K (eT e r)) := fun P X hw B σ H fp en ex Q q => by
  refine h _ X hw B σ H fp en ex _ fun r v H1 hp s hr => ?_
  obtain ⟨p, vs, rfl, hs, hz⟩ := hr
  refine ⟨p, vs, rfl, hs.sq, fun q' hn => ?_⟩
  have s3 : Stp B H1 (upd H1 q' (.tup vs.reverse)) := .new s.ts hn
  refine q r.reverse _ _ hp (s.trans s3) (.tup (.inl (.inl upd_same)) ?_)
  have := (hz.stay (s3.stay s.ts)).reverse
  rwa [← List.map_reverse] at this
end
section
variable {C : Cn} [Tbs C.K] {Γ : List Ety} {ι F G : Type}
theorem ev_callXN {ta : TA} {wa : Wp ι} {ag : ι → List Ag} {f : ι → Wp F} {res : F → Oc} {S : F → Sl} (ha : EvA C Γ ta wa (fun x => (ag x).map (Ag.rk C.K))) (hr : ∀ o, res o = .nw (S o)) :
    EvG C Γ (tCallS (spX C.K C.ct ag f res) (WE fun cls d _ H => C.E cls d H) ta) (bnd wa f) (fun r => RN (S r)) := fun P X hw B σ H fp en ex Q q => by
  refine ha _ X hw B σ H fp en ex _ fun x vs H1 h1 s1 r1 => ?_
  obtain ⟨R, en'⟩ := args_en s1.ts r1
  have en1 := en.step s1
  refine ⟨x, P, X, B.T, R, _, h1, en', fun out v H' hp hf ht ho => ?_, ⟨ex.tb, fun xn v d H' hx hf ht hi => ?_⟩⟩
  · rw [hr] at ho
    obtain ⟨fq, h2, h3, _⟩ := ho
    refine q out v H' hp (s1.trans (after_call hf ht)) ⟨fq, h2, fun a ha => ?_⟩
    rcases h3 a ha with z | z
    · exact s1.back en.tps z
    · cases z
  · have s2 : Stp B H1 H' := after_call hf ht
    exact ex.ok xn v d H' hx (en1.step s2).fr s2.ts (by
      cases hi with
      | plain c => exact .plain c
      | num c n d h => exact .num c n d h)
theorem ev_callXNS {ta : TA} {wa : Wp ι} {ag : ι → List Ag} {f : ι → Wp F} {res : F → Oc} (S : F → Sl) (ha : EvS C Γ ta wa (fun x => (ag x).map (Ag.rk C.K))) (hr : ∀ o, res o = .nw (S o)) :
    EvG C Γ (tCallS (spX C.K C.ct ag f res) (WE fun cls d _ H => C.E cls d H) ta) (bnd wa f) (fun r => RN (S r)) := ev_callXN ha.ev hr
end
end WL
/-! WL, part 41: x *= e, x //= e. -/
namespace WL
open PySem PySem.Spec PyProof.Rows L2
section
variable {X : Cx}
theorem ip_mul : PIp X .Mult (rI CMul fun i j => .int (i * j)) := iop_mul
theorem ip_fdiv : PIp X .FloorDiv (rI CDiv fun i j => .int (i / j)) := iop_fdiv
end
section
variable {C : Cn} [Tbs C.K] {Γ : List Ety} {F : Type}
theorem sb_augC {res : F → Oc} {N Bk Ct : Cont F} {i : Nat} {te : TE} {Cc : Int → Int → Prop} {g : Int → Int → Int} {x : Int} {w : Wp Int} {k : Int → Wp F} (h : Γ[i]? = some (.sl (fz C.K (eI x)))) (he : EvG C Γ te w (fun r => RF C.K (eI r))) (hk : ∀ z, Lands N (Γ.set i (.sl (fz C.K (eI z)))) (k z)) :
    SimB C res N Bk Ct (tAug i te (rI Cc fun i j => .int (g i j))) Γ (bnd (bnd w fun y => grd (Cc x y) (ret (g x y))) k) := fun P X hm B D ex f n b c σ H fp en => by
  obtain ⟨v, hv, ho⟩ := en.sl i _ h
  have e1 := Fz.int_inv (n := x) ho.2
  subst e1
  refine ⟨_, hv, he _ X hm B σ H fp en ex _ fun y u H' hp s hy => ?_⟩
  have e2 := Fz.int_inv (n := y) hy
  subst e2
  exact ⟨x, y, rfl, rfl, hp.1, n _ H' (hk _ P X B _ H' _ hp.2 ((en.step s).putF (List.getElem?_eq_some_iff.mp h).1 (.int _)))⟩
theorem sb_augMul {res : F → Oc} {N Bk Ct : Cont F} {i : Nat} {te : TE} {x : Int} {w : Wp Int} {k : Int → Wp F} (h : Γ[i]? = some (.sl (fz C.K (eI x)))) (he : EvG C Γ te w (fun r => RF C.K (eI r))) (hk : ∀ z, Lands N (Γ.set i (.sl (fz C.K (eI z)))) (k z)) :
    SimB C res N Bk Ct (tAug i te (rI CMul fun i j => .int (i * j))) Γ (bnd (bnd w fun y => grd (CMul x y) (ret (x * y))) k) := sb_augC h he hk
theorem sb_augDiv {res : F → Oc} {N Bk Ct : Cont F} {i : Nat} {te : TE} {x : Int} {w : Wp Int} {k : Int → Wp F} (h : Γ[i]? = some (.sl (fz C.K (eI x)))) (he : EvG C Γ te w (fun r => RF C.K (eI r))) (hk : ∀ z, Lands N (Γ.set i (.sl (fz C.K (eI z)))) (k z)) :
    SimB C res N Bk Ct (tAug i te (rI CDiv fun i j => .int (i / j))) Γ (bnd (bnd w fun y => grd (CDiv x y) (ret (x / y))) k) := sb_augC h he hk
end
end WL
/-! WL, part 42: sorted(set(t)) of a tuple of pairs; < of data. -/
namespace L2
open PySem PySem.Spec PyProof.Rows
end L2
namespace WL
open PySem PySem.Spec PyProof.Rows L2
/-! ### < of data -/
/-! ### sorted(set(t)), t a tuple of pairs -/
end WL
/-! WL, part 43: an expression that is never reached. -/
namespace WL
open PySem PySem.Spec PyProof.Rows L2
end WL
/-! WL, part 44: try with a body of several returns; except C as e; isinstance of what was caught. -/
namespace WL
open PySem PySem.Spec PyProof.Rows L2
/-! ### a ground of its own -/
def FlatS (S : Sl) : Prop := ∀ H v fp, S.own H v fp → fp = []
def FlatE : Ety → Prop
  | .sl S => FlatS S
  | _ => True
def AllFlat : List Ety → Prop
  | [] => True
  | e :: Γ => FlatE e ∧ AllFlat Γ
theorem flat_fz {K : PySem.W.Frag} {d : PyData} : FlatS (fz K d) := fun _ _ _ h => h.1
theorem AllFlat.at : ∀ {Γ : List Ety} {i : Nat} {S : Sl}, AllFlat Γ → Γ[i]? = some (.sl S) → FlatS S
  | [], _, _, _, h => by cases h
  | e :: Γ, 0, S, ha, h => by
    have h : e = .sl S := Option.some.inj h
    subst h
    exact ha.1
  | e :: Γ, i + 1, S, ha, h => AllFlat.at (i := i) ha.2 h
theorem En.flat {B : Bs} {Γ : List Ety} {σ : List (Option V)} {H : Hp} {fp : Nat → List Addr} (en : En B Γ σ H fp) (ha : AllFlat Γ) (i : Nat) : fp i = [] := by
  by_cases h : ∃ S, Γ[i]? = some (.sl S)
  · obtain ⟨S, hS⟩ := h
    obtain ⟨v, _, ho⟩ := en.sl i S hS
    exact ha.at hS _ _ _ ho
  · exact en.off i fun S hS => h ⟨S, hS⟩
theorem En.reflat {B : Bs} {Γ : List Ety} {σ : List (Option V)} {H : Hp} {fp : Nat → List Addr} (en : En B Γ σ H fp) (ha : AllFlat Γ) : En ⟨H, [], B.T, B.R⟩ Γ σ H fp where
  len := en.len
  sl := en.sl
  tp := en.tp
  off := en.off
  dis := en.dis
  nt := en.nt
  new := fun i a S _ _ h => by rw [en.flat ha i] at h; cases h
  rd := en.rd
  rb := en.rb
  rr := en.rr
  fr := fun a o e => ⟨o, e, fun _ _ => rfl, fun _ => rfl⟩
  tps := en.tps
/-! ### try -/
section
variable {F : Type}
def tryW (m mh : Wp F) : Wp F := fun P X => m P (fun xn => match xn with
  | .plain _ => mh P X
  | .num _ _ => False)
theorem sb_try {C : Cn} [Tbs C.K] {Γ : List Ety} {res : F → Oc} {N Bk Ct : Cont F} {cv : Value} {tb : WX → TS} {us : TS} {ct : Nat → Value × Str} {m mh : Wp F} (hfl : AllFlat Γ) (hres : ∀ o, ∃ d, res o = .fz d) (hcls : ∀ c, PySem.W.exmOne C.K (ct c).1 cv = some true)
    (heq : ∀ W D σ H, tb W D σ H = tb (fun cls d _ H' => W cls d σ H') D σ H) (hb : ∀ E', SimB ⟨C.K, E', ct⟩ res noC noC noC (tb fun cls d _ H => E' cls d H) Γ m) (hs : SimB C res N Bk Ct us Γ mh) :
    SimB C res N Bk Ct (fun D σ H => tb (wOnly C.K cv (fun _ _ _ => us) (fun _ _ _ _ => False) D) D σ H) Γ (tryW m mh) := fun P X hm B D ex fin n b c σ H fp en => by
  show tb _ D σ H
  rw [heq]
  refine hb (fun cls d H' => wOnly C.K cv (fun _ _ _ => us) (fun _ _ _ _ => False) D cls d σ H') P _ hm ⟨H, [], B.T, B.R⟩ D ⟨ex.tb, fun xn v d H' hx hf ht hi => ?_⟩ (fun out v H' hp hf ht ho => ?_) (fun _ _ h => h.elim) (fun _ _ h => h.elim) (fun _ _ h => h.elim) σ H fp (en.reflat hfl)
  · have s2 : Stp B H H' := after_call hf ht
    cases hi with
    | plain c' => exact ⟨true, hcls c', fun _ a _ => hs P X hx B D ex fin n b c σ H' fp (en.step s2), fun z => by cases z⟩
    | num _ _ _ _ => exact hx.elim
  · have s2 : Stp B H H' := after_call hf ht
    obtain ⟨d, hd⟩ := hres out
    refine fin out v H' hp (en.step s2).fr s2.ts ?_
    rw [hd] at ho ⊢
    exact ho
end
end WL
/-! WL, part 45: ranges of two ends by name. -/
namespace WL
open PySem PySem.Spec PyProof.Rows L2
end WL
namespace WL
open PySem
end WL
namespace WL
open PySem
theorem af_nil : AllFlat [] := trivial
theorem af_cons {e : Ety} {Γ : List Ety} (h : FlatE e) (t : AllFlat Γ) : AllFlat (e :: Γ) := ⟨h, t⟩
theorem fe_fz {K : PySem.W.Frag} {d : PyData} : FlatE (.sl (fz K d)) := flat_fz
end WL
namespace WL
open PySem PySem.Spec PyProof.Rows L2
def tTryO (K : PySem.W.Frag) (cv : Value) (us : TS) (tb : WX → TS) : TS := fun D σ H => tb (wOnly K cv (fun _ _ _ => us) (fun _ _ _ _ => False) D) D σ H
section
variable {X : Cx} {K : PySem.W.Frag} {x n : Str} {c : Value} {i : Nat} {body suite : List Stmt} {b₀ : Stmt} {np pos pos' : Pos} {tb : WX → TS}
theorem ps_tryO {us : TS} (hK : X.K = K) (hs : X.stack = X.env :: X.outer) (hf : X.env.frame = some X.env.locals) (hc : Names X x c)
    (hb : ∀ (W : WX) (pn : List (Addr × Obj)) (xe : Value → Shared → Prop), Takes (X.tr pn xe) W → PSs (X.tr pn xe) body (tb W))
    (hsu : ∀ (a : Addr) (oe : Obj) (pn : List (Addr × Obj)), PSs (X.suite a ((a, oe) :: pn)) (b₀ :: suite) us) :
    PS X (.Try body [.ExceptHandler (some (.Name x np)) none (b₀ :: suite) pos'] [] [] pos) (tTryO K c us tb) := by
  subst hK
  exact ps_try_only hs hf hc takes0 (fun W pn xe tk _ => hb W pn xe tk) (fun a oe _ _ pn _ _ => hsu a oe pn)
end
section
variable {F : Type} {C : Cn} [Tbs C.K] {Γ : List Ety} {res : F → Oc} {N Bk Ct : Cont F} {cv : Value} {tb : WX → TS} {ct : Nat → Value × Str} {m mh : Wp F}
theorem sb_tryO {us : TS} (hfl : AllFlat Γ) (hres : ∀ o, ∃ d, res o = .fz d) (hcls : ∀ c, PySem.W.exmOne C.K (ct c).1 cv = some true)
    (heq : ∀ W D σ H, tb W D σ H = tb (fun cls d _ H' => W cls d σ H') D σ H) (hb : ∀ E', SimB ⟨C.K, E', ct⟩ res noC noC noC (tb fun cls d _ H => E' cls d H) Γ m) (hs : SimB C res N Bk Ct us Γ mh) :
    SimB C res N Bk Ct (tTryO C.K cv us tb) Γ (tryW m mh) := sb_try hfl hres hcls heq hb hs
end
end WL
namespace WL
open PySem PySem.Spec PyProof.Rows L2
def WInv (tb : WX → TS) : Prop := ∀ W W' D σ H, WE W σ = WE W' σ → tb W D σ H = tb W' D σ H
theorem WInv.eq {tb : WX → TS} (h : WInv tb) : ∀ W D σ H, tb W D σ H = tb (fun cls d _ H' => W cls d σ H') D σ H := fun W D σ H => h W _ D σ H rfl
theorem wi_if {tc : TT} {sp : Sp} {ta : TA} {tb : WX → TS} (hb : WInv tb) : WInv (fun W => tSeq (tIfS tc (tRet (tCallS sp (WE W) ta)) tNext) (tb W)) := fun W W' D σ H h => by
  show tc σ H (fun b H1 => if b = true then ta σ H1 (fun vs H2 => sp vs H2 D.rt (WE W σ)) else tb W D σ H1) = tc σ H (fun b H1 => if b = true then ta σ H1 (fun vs H2 => sp vs H2 D.rt (WE W' σ)) else tb W' D σ H1)
  rw [h]
  congr 1
  funext b H1
  rw [hb W W' D σ H1 h]
end WL
/-! WL, part 46: the tape of the boxes; sorted(set(xs)) of a list of ints; t.index(k). -/
namespace L2
open PySem PySem.Spec PyProof.Rows
end L2
namespace WL
open PySem PySem.Spec PyProof.Rows L2
/-! ### the tape of the boxes: a list of the cells, the number, the seed, the nodes -/
end WL
set_option maxHeartbeats 2000000
/-! GX1: any, all over a generator expression whose element does what it likes: the machine's part. -/
namespace L2
open PySem PySem.Spec PyProof.Rows GenW
end L2
set_option maxHeartbeats 2000000
/-! GX2: the context of a generator expression's frame. -/
namespace L2
open PySem PySem.Spec PyProof.Rows GenW
theorem Inv.same {X : Cx} {pins : List (Addr × Obj)} {σ : St} {H : Hp} {s s' : Shared} (I : Inv X pins σ H s) (h : s'.heap = s.heap) (ho : s'.os = s.os) (hb : AllBare s'.gens) : Inv X pins σ H s' := by
  obtain ⟨h', g', d', t', o'⟩ := s'
  cases h
  cases ho
  exact ⟨I.ok, I.os, hb, I.base, I.loc, I.cell, I.free, I.freeC, I.pin, I.hok, I.len⟩
end L2
set_option maxHeartbeats 2000000
/-! GX3: any(e for t in xs), all(..): the rules. -/
namespace L2
open PySem PySem.Spec PyProof.Rows GenW
end L2
namespace GxR
open PySem PySem.Spec PyProof.Rows L2 GenW
end GxR
namespace GxR
open PySem PySem.Spec PyProof.Rows L2 GenW
end GxR
/-! WL, part 47: any, all over generator expressions; defs whose code object is known; the tape and the tables of the code objects. -/
namespace WL
open PySem PySem.Spec PyProof.Rows L2 GxR
/-- the table at P goes along with the tape -/
structure HasTab (P : Addr) (t : Sl × V × List Addr) : Prop where
  mem : P ∈ t.2.2
  tab : ∀ H, t.1.own H t.2.1 t.2.2 → TabG H P
  grow : ∀ H H', t.1.own H t.2.1 t.2.2 → Tabbed P H H' → t.1.own H' t.2.1 t.2.2
/-- a tape and tables -/
def tpG (S : Sl) (Ps : List Addr) : Sl where
  own := fun H v fp => ∃ f0, fp = f0 ++ Ps ∧ S.own H v f0 ∧ ∀ P ∈ Ps, P ∉ f0 ∧ TabG H P
  ro := false
  dom := fun h ha => by
    obtain ⟨f0, e, h1, h2⟩ := h
    rw [e] at ha
    rcases List.mem_append.mp ha with z | z
    · exact S.dom h1 z
    · obtain ⟨ps, hp, _⟩ := (h2 _ z).2
      exact ⟨_, hp, rfl⟩
  keep := fun {H H'} {v} {fp} h k => by
    obtain ⟨f0, e, h1, h2⟩ := h
    refine ⟨f0, e, S.keep h1 fun a o ea z => k a o ea (z.imp (fun z => by rw [e]; exact List.mem_append_left _ z) fun z => z), fun P hP => ⟨(h2 P hP).1, ?_⟩⟩
    obtain ⟨ps, hp, ht⟩ := (h2 P hP).2
    exact ⟨ps, k P _ hp (.inl (by rw [e]; exact List.mem_append_right _ hP)), ht⟩
theorem tpG_has {S : Sl} {Ps : List Addr} {v : V} {f0 : List Addr} {P : Addr} (hP : P ∈ Ps) (hn : P ∉ f0) : HasTab P (tpG S Ps, v, f0 ++ Ps) where
  mem := List.mem_append_right _ hP
  tab := fun H h => by
    obtain ⟨f1, _, _, h2⟩ := h
    exact (h2 P hP).2
  grow := fun H H' h t => by
    obtain ⟨f1, e, h1, h2⟩ := h
    have e' : f0 = f1 := List.append_cancel_right (show f0 ++ Ps = f1 ++ Ps from e)
    subst e'
    refine ⟨f0, rfl, S.keep h1 fun a o ea z => ?_, fun P' hP' => ⟨(h2 P' hP').1, ?_⟩⟩
    · rw [t.2 a fun q => ?_]
      · exact ea
      subst q
      rcases z with z | z
      · exact hn z
      · obtain ⟨ps, hp, _⟩ := (h2 _ hP).2
        rw [hp] at ea
        cases ea
        cases z
    · by_cases q : P' = P
      · rw [q]
        exact t.1
      · obtain ⟨ps, hp, ht⟩ := (h2 P' hP').2
        exact ⟨ps, by rw [t.2 P' q]; exact hp, ht⟩
/-! ### defs whose code object is known -/
/-! ### the law: the tables are there -/
def spLawT (K : PySem.W.Frag) (Ps : List Addr) : Sp := fun vs H Q _ => ∃ (p : Addr) (ns : List Int), vs = [.ref p] ∧ SqL K H p (ns.map V.int) ∧ (∀ P ∈ Ps, TabG H P) ∧ ∀ H', Q (.bl true) H'
/-- all tables go along with every tape -/
abbrev tbsOf (K : PySem.W.Frag) (Ps : List Addr) : Tbs K := ⟨fun T => ∃ t, T = some t ∧ ∀ P ∈ Ps, HasTab P t⟩
theorem tab_empty {H : Hp} {P : Addr} (h : H P = some (.tbl #[])) : TabG H P := ⟨#[], h, trivial⟩
end WL
namespace LamX
open PySem PySem.Spec PyProof.Rows L2
/-- the end: the tables of all defs that are named are empty -/
theorem walk_ofTab {l : PySem.W.OpenLaw} {n k : Nat} {q : Program} {loose : List Str} {XP : (Str → Option Value) → Heap → Prop} {YP : World → Heap → Prop} {d : DefRec} {K : Params → PySem.W.Frag} {CX : World → CXT} {x : Str} (names : List Str)
    (hn : l.most = some n) (hn2 : n ≤ sizeLine) (hdf : d.params.defaults = []) (hr : Room k callerA) (hrec : (names.all fun x => (recsOf q).any fun e => e.name == x) = true) (hY : ∀ (w : World) (h : Heap), YP w h → (K w.params).In h)
    (F : ∀ (w : World) (mg : Str → Option Value) (fa : Addr) (h : Heap), YP w h → (K w.params).In h → h.Ns mainGlobals mg → mg d.name = some (.ref fa) → (∀ x ∈ names, ∀ fb, mg x = some (.ref fb) → OwnTab (K w.params) fb h) → LawAtS l w (K w.params) (CX w) k n x mg fa h)
    (hCX : ∀ (w : World) (H : Hp) (s : Shared) (e : Value) (s' : Shared), CX w [] H s (fun _ _ _ => False) e s' → False) :
    PySem.W.WalkO q loose XP YP l.row.toRowW d [] (fun f vs => PySem.call f vs) := by
  refine Att.attach_callB hn hdf fun w s₀ s₁ mg mb fa o pm cd doc a vs ns G Y ho hd hcd hmg hobj hints hlen hbits hg => ?_
  have KX := hY w _ Y
  have own : ∀ x ∈ names, ∀ fb, mg x = some (.ref fb) → OwnTab (K w.params) fb s₁.heap := fun x hx fb hfb c P o1 fd1 e dd vs1 sl k1 k2 k3 k4 k5 => by
    obtain ⟨dL, hm, hn1⟩ := List.any_eq_true.mp (List.all_eq_true.mp hrec x hx)
    have hn2 : dL.name = x := beq_iff_eq.mp hn1
    obtain ⟨a', o', fd', c', P', h1, h2, h3, h4, h5, h6⟩ := G.T.tab dL hm
    rw [hn2, hfb] at h1
    cases h1
    have g1 := KX _ _ k1
    rw [g1] at h2
    cases h2
    rw [k2] at h3
    cases h3
    rw [k3] at h4
    cases h4
    obtain ⟨⟨oc, vc, e1, _, e3, e4⟩, hP⟩ := h6
    have g2 := KX _ _ k4
    rw [g2] at e1
    cases e1
    cases e3
    rw [k5] at e4
    cases e4
    exact hP
  obtain ⟨fd, cs, sp, hT, nT, C, hb, hsp, hF⟩ := F w mg fa _ Y KX G.T.g hmg own
  exact law_callTs KX G.T.g G.T.b G.T.builtins G.T.nolimit hg hT nT C G.T.bmain hobj hints (Nat.le_trans hlen hn2) hr hF hb (fun H hH hS => hsp H a ns hlen hbits hH hS) fun H e s' => hCX w H s₁ e s'
end LamX
/-! WL, part 48: dicts int -> data: lent, locked, walked, copied, made by a comprehension; del; a tuple of two dicts. -/
namespace WL
open PySem PySem.Spec PyProof.Rows L2
section
variable {C : Cn} [Tbs C.K] {Γ : List Ety} {K : PySem.W.Frag} {α β γ F : Type}
theorem DGet.rd {H : Hp} {a : Addr} {kvs : List (Key × V)} {k : Key} (e : Rd H a (.dK kvs)) : DGet H a (kV k) (valV kvs k) := .inl ⟨kvs, k, e, rfl, rfl⟩
/-! ### lent -/
/-! ### dict(d) -/
/-! ### sorted(d), d lent -/
/-! ### locked -/
/-! ### del d[k] -/
def dropI (kvs : List (Int × α)) (k : Int) : List (Int × α) := kvs.filter fun p => decide (p.1 ≠ k)
theorem DkAll.drop {H : Hp} (k : Int) : ∀ {a : List (Key × V)} {b : List (Int × PyData)}, DkAll K H a b → DkAll K H (dropK a (.inl k)) (dropI b k)
  | _, _, .nil => .nil
  | _, _, .cons (k := j) (v := v) (d := d) (a := a) (b := b) h t => by
    have ih := t.drop k
    unfold dropK dropI at *
    by_cases e : j = k
    · rw [List.filter_cons_of_neg (by simp [e]), List.filter_cons_of_neg (by simp [e])]
      exact ih
    · rw [List.filter_cons_of_pos (by simp [e]), List.filter_cons_of_pos (by simp [e])]
      exact .cons h ih
/-! ### two dicts in a tuple -/
def d2 (K : PySem.W.Frag) (x y : List (Int × PyData)) : Sl where
  own := fun H v fp => ∃ t p q a b, v = .ref t ∧ fp = [p, q] ∧ p ≠ q ∧ SqT K H t [.ref p, .ref q] ∧ H p = some (.dK a) ∧ DkAll K H a x ∧ H q = some (.dK b) ∧ DkAll K H b y
  ro := false
  dom := fun h ha => by
    obtain ⟨t, p, q, a, b, _, e, _, _, hp, _, hq, _⟩ := h
    rw [e] at ha
    rcases List.mem_cons.mp ha with rfl | ha
    · exact ⟨_, hp, rfl⟩
    · rw [List.mem_singleton.mp ha]
      exact ⟨_, hq, rfl⟩
  keep := fun {H H'} {v} {fp} h k => by
    obtain ⟨t, p, q, a, b, e1, e2, ne, hs, hp, hx, hq, hy⟩ := h
    have st : Stay H H' := fun a o e z => k a o e (.inr z)
    exact ⟨t, p, q, a, b, e1, e2, ne, sqT_stay st hs, k p _ hp (.inl (by rw [e2]; simp)), hx.stay st, k q _ hq (.inl (by rw [e2]; simp)), hy.stay st⟩
/-! ### d = other if other else d -/
end
end WL
/-! WL, part 49: a dict comprehension, int keys. -/
namespace L2
open PySem PySem.Spec PyProof.Rows
end L2
namespace WL
open PySem PySem.Spec PyProof.Rows L2
end WL
namespace WL
open PySem PySem.Spec PyProof.Rows L2 GxR
theorem tape1_tabs {H H' : Hp} {a : Addr} {fq Ps : List Addr} (hT : ∀ P ∈ Ps, TabG H P) (k : ∀ x o, H x = some o → H' x = some o) (ho : tape1.own H' (.ref a) fq) : (tpG tape1 Ps).own H' (.ref a) (fq ++ Ps) ∧ ∀ P ∈ Ps, HasTab P (tpG tape1 Ps, .ref a, fq ++ Ps) := by
  have hn : ∀ P ∈ Ps, P ∉ fq ∧ TabG H' P := fun P hP => by
    obtain ⟨ps, hp, ht⟩ := hT P hP
    have hp' := k P _ hp
    refine ⟨fun z => ?_, ps, hp', ht⟩
    obtain ⟨p, q, cells, x, b, c, d, _, e, _, h1, h2, _⟩ := ho
    rw [e] at z
    rcases List.mem_cons.mp z with z | z
    · rw [z, h1] at hp'
      cases hp'
    · rw [List.mem_singleton.mp z, h2] at hp'
      cases hp'
  exact ⟨⟨fq, rfl, ho, hn⟩, fun P hP => tpG_has hP (hn P hP).1⟩
end WL
set_option maxHeartbeats 2000000
/-! GX4: any, all over a generator expression with two for. -/
namespace L2
open PySem PySem.Spec PyProof.Rows GenW
/-! ### read over plain heaps -/
end L2
namespace L2
open PySem PySem.Spec PyProof.Rows GenW
end L2
namespace GxR
open PySem PySem.Spec PyProof.Rows L2 GenW
end GxR
/-! WL, part 50: any, all over a generator expression with two for and if. -/
namespace WL
open PySem PySem.Spec PyProof.Rows L2 GxR
end WL
/-! WL, part 51: a second name for a list, until the first turn of a loop is over. -/
namespace WL
open PySem PySem.Spec PyProof.Rows L2
end WL
/-! WL, part 52: len(set(t)), t a tuple of ints. -/
namespace WL
open PySem PySem.Spec PyProof.Rows L2
end WL
/-! GX, part 5: a dict comprehension with two for. -/
namespace L2
open PySem PySem.Spec PyProof.Rows
end L2
/-! GX, part 6: a dict comprehension with two for, as a value. -/
namespace L2
open PySem PySem.Spec PyProof.Rows
end L2
/-! WL, part 53: dict comprehensions with two for; sorted of a new dict, of a tuple of data. -/
namespace WL
open PySem PySem.Spec PyProof.Rows L2
end WL
/-! WL, part 54: sorted of a tuple of data. -/
namespace L2
open PySem PySem.Spec PyProof.Rows
end L2
namespace PySem.W
open PySem PySem.Calls PyProof.Rows
end PySem.W
namespace WL
open PySem PySem.Spec PyProof.Rows L2
end WL
/-! WL, part 55: a, b = x, y by names; a list moved into a list of lists. -/
namespace WL
open PySem PySem.Spec PyProof.Rows L2
section
variable {C : Cn} [Tbs C.K] {Γ : List Ety} {K : PySem.W.Frag} {α β γ F : Type} {res : F → Oc} {N Bk Ct : Cont F}
/-- i, j = two things that are data -/
theorem sb_par {i j : Nat} {ta : TA} {w : Wp γ} {w2 : Wp (α × β)} {Rs : γ → List Rk} {e : α → PyData} {e' : β → PyData} {k : α × β → Wp F} (f : γ → α × β) (h : EvS C Γ ta w Rs) (hR : ∀ x, Rs x = [RF C.K (e (f x).1), RF C.K (e' (f x).2)]) (hw : w2 = mapW f w) (hi : i < Γ.length) (hj : j < Γ.length)
    (hk : ∀ x, Lands N ((Γ.set i (.sl (fz C.K (e x.1)))).set j (.sl (fz C.K (e' x.2)))) (k x)) : SimB C res N Bk Ct (tPar i j ta) Γ (bnd w2 k) := fun P X hm B D ex fi n b c σ H fp en => by
  subst hw
  refine h.ev _ X hm B σ H fp en ex _ fun r vs H1 hp s1 hr => ?_
  rw [hR] at hr
  cases hr with
  | cons h1 hr =>
    cases hr with
    | cons h2 hr =>
      cases hr
      have en1 := (en.step s1).putF hi h1
      have en2 := en1.putF (i := j) (by rw [List.length_set]; exact hj) h2
      exact ⟨_, _, rfl, n _ _ (hk (f r) P X B _ _ _ hp en2)⟩
end
end WL
/-! WL, part 56: a list of one's own goes into a list of lists. -/
namespace WL
open PySem PySem.Spec PyProof.Rows L2
end WL
set_option maxHeartbeats 2000000
/-! GX7: a generator expression within a generator expression: its code object is made at run time, and known. -/
namespace L2
open PySem PySem.Spec PyProof.Rows GenW
/-- a code object that was made at run time, its table at P -/
def CodeE (c P : Addr) : HO := .ext fun h => PySem.W.CodeHd h c P
/-- the table of such a one: whatever it holds -/
def TabE (P : Addr) : HO := .ext fun h => ∃ ps : Array Value, h.get? P = some { cls := .none, data := .fields ps } ∧ TriplesOk ps.toList
end L2
namespace GxR
open PySem PySem.Spec PyProof.Rows L2 GenW
/-- neither the module's names nor the builtins' -/
def OffM (mg : Str → Option Value) (P : Addr) : Prop := mainGlobals ≠ P ∧ ∀ bm, mg "__builtins__" = some (.ref bm) → bm ≠ P
end GxR
set_option maxHeartbeats 2000000
/-! GX8: any, all over a generator expression whose code object stays known: a generator expression may stand within. -/
namespace GxR
open PySem PySem.Spec PyProof.Rows L2 GenW
end GxR
namespace GxR
open PySem PySem.Spec PyProof.Rows L2 GenW
end GxR
/-! WL, part 57: generator expressions within generator expressions; tables whose code objects are known. -/
namespace WL
open PySem PySem.Spec PyProof.Rows L2 GxR
/-! ### what is said of the code objects stands for ever -/
/-! ### the tape, its tables, those with known code objects among them -/
section
variable {C : Cn} [Tbs C.K] {Γ : List Ety} {α β : Type}
/-- the code object at c is known -/
def CodeAt (mg : Str → Option Value) (c : Addr) (H : Hp) : Prop := ∃ P', H c = some (CodeE c P') ∧ H P' = some (TabE P') ∧ OffM mg P' ∧ c ≠ P'
def EvGC (mg : Str → Option Value) (c : Addr) (C : Cn) [Tbs C.K] (Γ : List Ety) (t : TE) (w : Wp α) (R : α → Rk) : Prop := ∀ (P : α → Prop) (X : Xn → Prop), w P X → ∀ B σ H fp, CodeAt mg c H → En B Γ σ H fp → Exok C B X →
  ∀ Q : VK, (∀ r v H', P r → Stp B H H' → R r B H H' v → Q v H') → t σ H Q
theorem EvGC.is {mg : Str → Option Value} {c : Addr} {t : TE} {w w' : Wp α} {R : α → Rk} (h : EvGC mg c C Γ t w R) (e : w = w') : EvGC mg c C Γ t w' R := e ▸ h
end
/-! ### the law: the tables are there, and empty -/
end WL
set_option maxHeartbeats 2000000
/-! GX9: any, all whose element is any, all; any, all in a def whose code objects are known. -/
namespace GxR
open PySem PySem.Spec PyProof.Rows L2 GenW
end GxR
/-! WL, part 58: a tuple once or more times. -/
namespace L2
open PySem PySem.Spec PyProof.Rows
end L2
namespace WL
open PySem PySem.Spec PyProof.Rows L2
end WL
/-! WL, part 59: instances: fields are read, methods are called. -/
namespace WL
open PySem PySem.Spec PyProof.Rows L2
/-- an instance whose fields are told; fp: itself and what its fields own -/
structure InsOwn (Ci : Addr) (fs : List (Str × Sl)) (H : Hp) (p : Addr) (kvs : List (Str × V)) (fp : List Addr) : Prop where
  at_ : ∃ dx, H p = some (.ins Ci dx kvs)
  me : p ∈ fp
  fld : ∀ f S, (f, S) ∈ fs → ∃ w fq, kvs.lookup f = some w ∧ S.own H w fq ∧ ∀ a ∈ fq, a ∈ fp ∧ a ≠ p
  cov : ∀ a ∈ fp, a = p ∨ ∃ f S w fq, (f, S) ∈ fs ∧ kvs.lookup f = some w ∧ S.own H w fq ∧ a ∈ fq ∧ ∀ b ∈ fq, b ∈ fp ∧ b ≠ p
  no : ∀ f, (∀ S, (f, S) ∉ fs) → kvs.lookup f = none
  len : kvs.length ≤ fs.length
theorem InsOwn.dom {Ci : Addr} {fs : List (Str × Sl)} {H : Hp} {p : Addr} {kvs : List (Str × V)} {fp : List Addr} {a : Addr} (h : InsOwn Ci fs H p kvs fp) (ha : a ∈ fp) : ∃ o, H a = some o ∧ still o = false := by
  rcases h.cov a ha with e | ⟨f, S, w, fq, _, _, ho, hq, _⟩
  · obtain ⟨dx, h2⟩ := h.at_
    rw [e]
    exact ⟨_, h2, rfl⟩
  · exact S.dom ho hq
theorem InsOwn.keep {Ci : Addr} {fs : List (Str × Sl)} {H H' : Hp} {p : Addr} {kvs : List (Str × V)} {fp : List Addr} (h : InsOwn Ci fs H p kvs fp) (k : ∀ a o, H a = some o → (a ∈ fp ∨ still o = true) → H' a = some o) : InsOwn Ci fs H' p kvs fp := by
  have kp : ∀ {S : Sl} {w : V} {fq : List Addr}, S.own H w fq → (∀ b ∈ fq, b ∈ fp ∧ b ≠ p) → S.own H' w fq := fun {S w fq} ho hs => S.keep ho fun a o e z => k a o e (z.imp (fun z => (hs a z).1) id)
  refine ⟨?_, h.me, fun f S hf => ?_, fun a ha => ?_, h.no, h.len⟩
  · obtain ⟨dx, h2⟩ := h.at_
    exact ⟨dx, k p _ h2 (.inl h.me)⟩
  · obtain ⟨w, fq, l, ho, hs⟩ := h.fld f S hf
    exact ⟨w, fq, l, kp ho hs, hs⟩
  · rcases h.cov a ha with e | ⟨f, S, w, fq, hf, l, ho, hq, hs⟩
    · exact .inl e
    · exact .inr ⟨f, S, w, fq, hf, l, kp ho hs, hq, hs⟩
def insS (Ci : Addr) (fs : List (Str × Sl)) : Sl where
  own := fun H v fp => ∃ p kvs, v = .ref p ∧ InsOwn Ci fs H p kvs fp
  ro := false
  dom := fun ⟨_, _, _, h⟩ ha => h.dom ha
  keep := fun ⟨p, kvs, e, h⟩ k => ⟨p, kvs, e, h.keep k⟩
/-- the instance at a -/
def insA (Ci a : Addr) (fs : List (Str × Sl)) : Sl where
  own := fun H v fp => v = .ref a ∧ ∃ kvs, InsOwn Ci fs H a kvs fp
  ro := false
  dom := fun ⟨_, _, h⟩ ha => h.dom ha
  keep := fun ⟨e, kvs, h⟩ k => ⟨e, kvs, h.keep k⟩
section
variable {C : Cn} [Tbs C.K] {Γ : List Ety} {α β F : Type}
/-- e.f -/
theorem ev_fld {ta : TE} {w : Wp α} {Ci : Addr} {fs : α → List (Str × Sl)} {f : Str} {S : α → Sl} (h : EvG C Γ ta w (fun x => RB (insS Ci (fs x)))) (c : Cls C.K Ci) (n : NoAttr C.K Ci f) (hf : ∀ x, (f, S x) ∈ fs x) : EvG C Γ (tFld C.K ta f) w (fun x => RB (S x)) := fun P X hw B σ H fp en ex Q q => by
  refine h P X hw B σ H fp en ex _ fun r v H' hp s ⟨fq, ⟨p, kvs, e, io⟩, hoff⟩ => ?_
  obtain ⟨dx, e2⟩ := io.at_
  obtain ⟨y, fq', l, ho, hs⟩ := io.fld f _ (hf r)
  exact ⟨p, Ci, dx, kvs, y, e, e2, c, n, l, q r y H' hp s ⟨fq', ho, fun a ha => hoff a (hs a ha).1⟩⟩
theorem EvG.bF {t : TE} {w : Wp α} {e : α → PyData} (h : EvG C Γ t w (fun x => RB (fz C.K (e x)))) : EvG C Γ t w (fun x => RF C.K (e x)) := fun P X hw B σ H fp en ex Q q =>
  h P X hw B σ H fp en ex Q fun r v H' hp s ⟨_, ho, _⟩ => q r v H' hp s ho.2
theorem EvG.bL {t : TE} {w : Wp α} {ds : α → List PyData} (h : EvG C Γ t w (fun x => RB (ls C.K (ds x)))) : EvG C Γ t w (fun x => RL C.K (ds x)) := fun P X hw B σ H fp en ex Q q =>
  h P X hw B σ H fp en ex Q fun r v H' hp s ⟨fq, ⟨p, vs, e, e2, hp2, hz⟩, hf⟩ => q r v H' hp s ⟨p, vs, e, .inl ⟨.inl hp2, hf p (by rw [e2]; exact List.mem_singleton.mpr rfl)⟩, hz⟩
/-- o.m(..): the instance is lent to the method -/
theorem ev_meth {ta : TE} {tr : TA} {wa : Wp α} {wr : Wp β} {Ci : Addr} {m : Str} {fs : α → List (Str × Sl)} {ag : β → List Ag} {f : α × β → Wp F} {res : F → Oc} {e : F → PyData} {E : XK} (ho : EvG C Γ ta wa (fun x => RB (insS Ci (fs x)))) (hm : ∀ x S, (m, S) ∉ fs x)
    (ha : EvA C Γ tr wr (fun y => (ag y).map (Ag.rk C.K))) (hr : ∀ o, res o = .fz (e o)) :
    EvG C Γ (tMeth Ci m (spN C.K (fun x : α × β => Ag.b (insS Ci (fs x.1)) :: ag x.2) f res) [] E ta tr) (bnd wa fun a => bnd wr fun b => noX (f (a, b))) (fun r => RF C.K (e r)) := fun P X hw B σ H fp en ex Q q => by
  refine ho _ X hw B σ H fp en ex _ fun x v H1 h1 s1 r1 => ?_
  have r1' := r1
  obtain ⟨fq, ⟨p, kvs, ev, io⟩, hoff⟩ := r1'
  obtain ⟨dx, e2⟩ := io.at_
  refine ⟨p, dx, kvs, ev, e2, io.no m (hm x), ?_⟩
  refine ha _ X h1 B σ H1 fp (en.step s1) ex _ fun y vs H2 h2 s2 r2 => ?_
  have rr : RAll B H1 H2 (v :: vs) ((Ag.b (insS Ci (fs x)) :: ag y).map (Ag.rk C.K)) := .cons (st_B B H1 H1 H1 H2 v s1.ts s1.ts s2 r1 fun _ h => h) r2
  obtain ⟨R, en'⟩ := args_en s2.ts rr
  rw [List.append_nil]
  refine ⟨(x, y), P, B.T, R, _, ⟨h2, ex.tb⟩, en', fun out v H' hp hf ht ho => ?_⟩
  rw [hr] at ho
  exact q out v H' hp ((s1.trans s2).trans (after_call hf ht)) ho
end
end WL
/-! WL, part 60: instances are made. -/
namespace WL
open PySem PySem.Spec PyProof.Rows L2
/-- the heap behind the making: the instance has no field yet -/
def mkH (H : Hp) (Ci a dx : Addr) : Hp := upd (upd H dx (.own a)) a (.ins Ci dx [])
section
variable {H : Hp} {Ci a dx : Addr}
theorem mk_keeps (ha : H a = none) (hd : H dx = none) (hne : dx ≠ a) : ∀ b o, H b = some o → mkH H Ci a dx b = some o := fun b o e => by
  unfold mkH
  rw [upd_ne (ne_of_none e ha), upd_ne (ne_of_none e hd)]
  exact e
theorem mk_at : mkH H Ci a dx a = some (.ins Ci dx []) := upd_same
theorem En.self {T : Option (Sl × V × List Addr)} {R : List (Addr × HO)} {Γ : List Ety} {σ : List (Option V)} (en : En ⟨H, [], T, R⟩ Γ σ H (fun _ => [])) (ha : H a = none) (hd : H dx = none) (hne : dx ≠ a) :
    En ⟨mkH H Ci a dx, [a], T, R⟩ (.sl (insA Ci a []) :: Γ) (some (.ref a) :: σ) (mkH H Ci a dx) (fun i => if i = 0 then [a] else []) := by
  have s : Stp ⟨H, [], T, R⟩ H (mkH H Ci a dx) := Stp.same en.tps (mk_keeps ha hd hne)
  have en2 := en.step s
  refine ⟨by rw [List.length_cons, List.length_cons, en.len], fun i S hi => ?_, fun i S hi => ?_, fun i hi => ?_, fun i j b h1 h2 => ?_, fun i b h => ?_, fun i b S hi _ h => ?_, fun i K' ds hi => ?_, fun i S hi => ?_, fun r hr => ?_, fun b o e => ⟨o, e, fun _ _ => rfl, fun _ => rfl⟩, s.ts⟩
  · cases i with
    | zero =>
      cases hi
      exact ⟨_, rfl, rfl, [], ⟨dx, mk_at⟩, List.mem_singleton.mpr rfl, fun f S h => (nomatch h), fun b hb => .inl (List.mem_singleton.mp hb), fun f _ => rfl, Nat.le_refl _⟩
    | succ i =>
      obtain ⟨v, h1, h2⟩ := en2.sl i S hi
      exact ⟨v, h1, h2⟩
  · cases i with
    | zero => cases hi
    | succ i => exact en2.tp i S hi
  · cases i with
    | zero => exact absurd rfl (hi _)
    | succ i => rfl
  · cases i with
    | zero => cases j with
      | zero => rfl
      | succ j => cases h2
    | succ i => cases h1
  · cases i with
    | zero =>
      have e : b = a := List.mem_singleton.mp h
      rw [e]
      exact TpSt.new en.tps ha
    | succ i => cases h
  · cases i with
    | zero => exact .inr (by simpa using h)
    | succ i => cases h
  · cases i with
    | zero => cases hi
    | succ i => exact en2.rd i K' ds hi
  · cases i with
    | zero => cases hi
    | succ i => exact en2.rb i S hi
  · obtain ⟨h1, h2, h3⟩ := en2.rr r hr
    refine ⟨h1, h2, fun i => ?_⟩
    cases i with
    | zero =>
      intro z
      have e : r.1 = a := List.mem_singleton.mp z
      have h0 := (en.rr r hr).1
      rw [e] at h0
      rcases h0 with h0 | ⟨o, h0⟩ <;> rw [ha] at h0 <;> cases h0
    | succ i => exact fun z => (nomatch z)
end
/-- the promise of an __init__: self gets its fields -/
def spI (K : PySem.W.Frag) [Tbs K] (Ci : Addr) {ι F : Type} (ag : ι → List Ag) (f : ι → Wp F) (fs : F → List V → List (Str × Sl)) : Sp := fun vs H Q _ => ∃ (x : ι) (P : F → Prop) (a : Addr) (us : List V) (T : Option (Sl × V × List Addr)) (R : List (Addr × HO)) (fp : Nat → List Addr),
  vs = .ref a :: us ∧ (f x P (fun _ => False) ∧ tbOf K T) ∧ En ⟨H, [a], T, R⟩ (.sl (insA Ci a []) :: (ag x).map (Ag.ety K)) (vs.map some) H fp ∧
  ∀ out H', P out → Frame ⟨H, [a], T, R⟩ H' → TpSt ⟨H, [a], T, R⟩ H' → (∃ fq, (insS Ci (fs out us)).own H' (.ref a) fq ∧ ∀ b ∈ fq, b = a ∨ H b = none) → Q .non H'
section
variable {C : Cn} [Tbs C.K] {Γ : List Ety} {ι F : Type}
/-- C(..): what the fields hold is the __init__'s own -/
theorem ev_make {ta : TA} {wa : Wp ι} {Ci : Addr} {ag : ι → List Ag} {f : ι → Wp F} {fs : F → List (Str × Sl)} {E : XK} (ha : EvA C Γ ta wa (fun x => (ag x).map (Ag.rk C.K))) :
    EvG C Γ (tMake Ci (spI C.K Ci ag f fun out _ => fs out) [] E ta) (bnd wa fun x => noX (f x)) (fun r => RN (insS Ci (fs r))) := fun P X hw B σ H fp en ex Q q => by
  refine ha _ X hw B σ H fp en ex _ fun x us H1 h1 s1 r1 => fun a dx ea ed hne => ?_
  obtain ⟨R, en'⟩ := args_en s1.ts r1
  rw [List.append_nil]
  refine ⟨x, P, a, us, B.T, R, _, rfl, ⟨h1, ex.tb⟩, en'.self ea ed hne, fun out H' hp hf ht ⟨fq, ho, hq⟩ => ⟨rfl, ?_⟩⟩
  have st : Stp B H1 H' := ⟨fun b o e n => by
    have nb : b ∉ [a] := fun z => by
      rw [List.mem_singleton.mp z, ea] at e
      cases e
    obtain ⟨o', e', k, _⟩ := hf b o (mk_keeps ea ed hne b o e)
    rw [k nb n] at e'
    exact e', ht⟩
  refine q out (.ref a) H' hp (s1.trans st) ⟨fq, ho, fun b hb => ?_⟩
  rcases hq b hb with e | e
  · rw [e]
    exact s1.back en.tps ea
  · refine s1.back en.tps ?_
    cases z : H1 b with
    | none => rfl
    | some o =>
      have := mk_keeps (Ci := Ci) ea ed hne b o z
      have e : mkH H1 Ci a dx b = none := e
      rw [this] at e
      cases e
end
end WL
/-! WL, part 61: self.f = value; __init__. -/
namespace WL
open PySem PySem.Spec PyProof.Rows L2
theorem putF_len (f : Str) (v : V) : ∀ fs : List (Str × V), (putF f v fs).length ≤ fs.length + 1
  | [] => Nat.le_refl _
  | (g, x) :: r => by
    unfold putF
    split
    · rw [List.length_cons, List.length_cons]
      omega
    · rw [List.length_cons, List.length_cons]
      have := putF_len f v r
      omega
section
variable {C : Cn} [Tbs C.K] {Γ : List Ety} {α F ι : Type} {K : PySem.W.Frag} [Tbs K]
theorem EvG.fN {t : TE} {w : Wp α} {e : α → PyData} (h : EvG C Γ t w (fun x => RF C.K (e x))) : EvG C Γ t w (fun x => RN (fz C.K (e x))) := fun P X hw B σ H fp en ex Q q =>
  h P X hw B σ H fp en ex Q fun r v H' hp s ho => q r v H' hp s ⟨[], ⟨rfl, ho⟩, fun a ha => (nomatch ha)⟩
/-- self.f = value: a new field -/
theorem sb_fld {res : F → Oc} {N Bk Ct : Cont F} {i : Nat} {te : TE} {Ci a : Addr} {fs : List (Str × Sl)} {f : Str} {S : α → Sl} {w : Wp α} {k : α → Wp F} (h : Γ[i]? = some (.sl (insA Ci a fs))) (c : Cls C.K Ci) (nf : NoAttr C.K Ci f) (hf : ∀ T, (f, T) ∉ fs) (hlen : fs.length < 1000)
    (he : EvG C Γ te w (fun r => RN (S r))) (hk : ∀ x, Lands N (Γ.set i (.sl (insA Ci a (fs ++ [(f, S x)])))) (k x)) : SimB C res N Bk Ct (sFld C.K (tVar i) te f) Γ (bnd w k) := fun P X hm B D ex fin n b c' σ H fp en => by
  refine he _ X hm B σ H fp en ex _ fun x v H1 hpx s1 ⟨fq, ho, hq⟩ => ?_
  have en1 := en.step s1
  obtain ⟨v0, hv0, e0, kv0, io0⟩ := en.sl i _ h
  obtain ⟨v', hv, e, kvs, io⟩ := en1.sl i _ h
  subst e
  obtain ⟨dx, at_⟩ := io.at_
  have aH : ∃ o, H a = some o := by
    obtain ⟨dx0, e⟩ := io0.at_
    exact ⟨_, e⟩
  have bne : ∀ b ∈ fq, b ≠ a := fun b hb z => by
    obtain ⟨o, e⟩ := aH
    have := hq b hb
    rw [z, e] at this
    cases this
  have fresh : ∀ b ∈ fq, ∀ j, b ∉ fp j := fun b hb j hj => by
    obtain ⟨T, hT⟩ := en.lt hj
    obtain ⟨u, _, hu⟩ := en.sl j T hT
    obtain ⟨o, e, _⟩ := T.dom hu hj
    rw [hq b hb] at e
    cases e
  have keepF : ∀ {T : Sl} {u : V} {gq : List Addr}, T.own H1 u gq → (∀ b ∈ gq, b ≠ a) → T.own (upd H1 a (.ins Ci dx (putF f v kvs))) u gq := fun {T u gq} hT hb => T.keep hT fun b o eb z => by
    have : b ≠ a := by
      rcases z with z | z
      · exact hb b z
      · rintro rfl
        rw [at_] at eb
        cases eb
        cases z
    rw [upd_ne this]
    exact eb
  have own2 : InsOwn Ci (fs ++ [(f, S x)]) (upd H1 a (.ins Ci dx (putF f v kvs))) a (putF f v kvs) (fp i ++ fq) := by
    refine ⟨⟨dx, upd_same⟩, List.mem_append_left _ io.me, fun g T hm => ?_, fun b hb => ?_, fun g hg => ?_, ?_⟩
    · rcases List.mem_append.mp hm with hm | hm
      · obtain ⟨u, gq, l, hT, hs⟩ := io.fld g T hm
        have ne : g ≠ f := fun z => hf T (z ▸ hm)
        refine ⟨u, gq, by rw [lookup_putF, if_neg ne]; exact l, keepF hT fun b hb => (hs b hb).2, fun b hb => ⟨List.mem_append_left _ (hs b hb).1, (hs b hb).2⟩⟩
      · cases List.mem_singleton.mp hm
        exact ⟨v, fq, by rw [lookup_putF, if_pos rfl], keepF ho bne, fun b hb => ⟨List.mem_append_right _ hb, bne b hb⟩⟩
    · rcases List.mem_append.mp hb with hb | hb
      · rcases io.cov b hb with e | ⟨g, T, u, gq, hm, l, hT, hq2, hs⟩
        · exact .inl e
        · have ne : g ≠ f := fun z => hf T (z ▸ hm)
          exact .inr ⟨g, T, u, gq, List.mem_append_left _ hm, by rw [lookup_putF, if_neg ne]; exact l, keepF hT fun b hb => (hs b hb).2, hq2, fun b hb => ⟨List.mem_append_left _ (hs b hb).1, (hs b hb).2⟩⟩
      · exact .inr ⟨f, S x, v, fq, List.mem_append_right _ (List.mem_singleton.mpr rfl), by rw [lookup_putF, if_pos rfl], keepF ho bne, hb, fun b hb => ⟨List.mem_append_right _ hb, bne b hb⟩⟩
    · have ne : g ≠ f := fun z => hg (S x) (List.mem_append_right _ (by rw [z]; exact List.mem_singleton.mpr rfl))
      rw [lookup_putF, if_neg ne]
      exact io.no g fun T hT => hg T (List.mem_append_left _ hT)
    · have := putF_len f v kvs
      have := io.len
      rw [List.length_append, List.length_singleton]
      omega
  refine ⟨_, hv, a, Ci, dx, kvs, rfl, at_, c, nf, Nat.lt_of_le_of_lt io.len hlen, n _ _ (hk x P X B σ _ _ hpx (en1.regrow (p := a) (o := .ins Ci dx (putF f v kvs)) (q := fp i ++ fq) h rfl hv io.me at_ rfl ⟨rfl, _, own2⟩ (fun b hb j hj => ?_) (fun b hb => ?_) (fun b hb => ?_) fun r hr hrq => ?_))⟩
  · rcases List.mem_append.mp hb with z | z
    · exact en.dis j i b hj z
    · exact absurd hj (fresh b z j)
  · rcases List.mem_append.mp hb with z | z
    · exact en.nt i b z
    · exact en.tps.new (hq b z)
  · rcases List.mem_append.mp hb with z | z
    · exact en.new i b _ h rfl z
    · left
      cases q : B.H b with
      | none => rfl
      | some o =>
        obtain ⟨o', e', _⟩ := en.fr b o q
        rw [hq b z] at e'
        cases e'
  · rcases List.mem_append.mp hrq with q | q
    · exact (en.rr r hr).2.2 i q
    · have h0 := (en.rr r hr).1
      rcases h0 with h0 | ⟨o, h0⟩ <;> rw [hq _ q] at h0 <;> cases h0
/-- nothing is ever this: an __init__ returns by falling through -/
def noS : Sl where
  own := fun _ _ _ => False
  ro := false
  dom := fun h => h.elim
  keep := fun h => h.elim
/-- behind an __init__ -/
def initC (Ci a : Addr) (fs : F → List (Str × Sl)) : Cont F := fun P X B σ H => ∃ out, P out ∧ Frame B H ∧ TpSt B H ∧ ∃ fq, (insA Ci a (fs out)).own H (.ref a) fq ∧ ∀ b ∈ fq, B.H b = none ∨ b ∈ B.O
theorem la_init {Ci a : Addr} {fs : F → List (Str × Sl)} {i : Nat} {out : F} (h : Γ[i]? = some (.sl (insA Ci a (fs out)))) : Lands (initC Ci a fs) Γ (ret out) := fun P X B σ H fp hm en => by
  obtain ⟨v, hv, e, kvs, io⟩ := en.sl i _ h
  exact ⟨out, hm, en.fr, en.tps, fp i, ⟨rfl, kvs, io⟩, fun b hb => en.new i b _ h rfl hb⟩
variable {P : Program} {w : World} {mg : Str → Option Value} {base : Heap}
theorem fn_init {x qual : Str} {st : Stmt} {f : Addr} {fd : FuncData} {N ps : List Str} {k : Nat} {Ci : Addr} {ag : ι → List Ag} {fm : ι → Wp F} {fs : F → List (Str × Sl)} (Fu : Fun K x qual st f fd) (S : FnScope N ps (defScope st)) (hlen : ∀ x, (ag x).length + 1 = ps.length)
    (hb : ∀ (cdv : Value) (A : Around) (outer : List PySem.Env) (s : Shared) (H : Hp) (E : XK), Room k (A.deeper (envOfC qual (defScope st) s.heap.objs.size f cdv)) →
      ∃ t, PSs (cxOf CX0 P w K mg base N qual (defScope st) f cdv A outer s H E).nox (defBody st) t ∧ ∀ x a, SimB ⟨K, E0, fun _ => (.none, "")⟩ (fun _ => .nw noS) (initC Ci a fs) noC noC t (.sl (insA Ci a []) :: (ag x).map (Ag.ety K) ++ List.replicate (N.length - ps.length) .un) (fm x)) :
    FnOk P w K mg base CX0 (k + 1) f fd ps (spI K Ci ag fm fun out _ => fs out) := by
  refine Fu.ok S (fun vs H Q E h => ?_) (fun cdv A outer s H vs Q E hr h => ?_)
  · obtain ⟨x, P, a, us, T, R, fp, ev, _, en, _⟩ := h
    have := en.len
    rw [List.length_map, List.length_cons, List.length_map] at this
    rw [this, hlen]
  · obtain ⟨t, ht, hs⟩ := hb cdv A outer s H E hr
    refine ⟨t, ht, ?_⟩
    obtain ⟨x, Pq, a, us, T, R, fp, ev, hf, en, fin⟩ := h
    have hl := en.len
    rw [List.length_map, List.length_cons, List.length_map, hlen x] at hl
    have hs' := hs x a
    rw [← hl] at hs'
    refine hs' Pq _ hf.1 ⟨H, [a], T, R⟩ { nx := fun _ H' => Q .non H', rt := Q } (exok_no hf.2) (fun out v H' _ _ _ ho => ?_) (fun σ H' h => ?_) (fun σ H' h => h.elim) (fun σ H' h => h.elim) _ _ fp ?_
    · obtain ⟨q, h, _⟩ := ho
      exact h.elim
    · obtain ⟨out, hp, h1, h2, fq, ⟨_, kvs, io⟩, hq⟩ := h
      exact fin out H' hp h1 h2 ⟨fq, ⟨a, kvs, rfl, io⟩, fun b hb => (hq b hb).symm.imp (fun z => List.mem_singleton.mp z) id⟩
    · rw [start_eq]
      exact en.slots _
end
end WL
/-! WL, part 62: an instance that holds another's thing. -/
namespace WL
open PySem PySem.Spec PyProof.Rows L2
/-- this very value -/
def eqS (v : V) : Sl where
  own := fun _ w fp => fp = [] ∧ w = v
  ro := false
  dom := fun h ha => by rw [h.1] at ha; cases ha
  keep := fun h _ => h
/-- S, and this very value -/
def andS (S : Sl) (v : V) : Sl where
  own := fun H w fp => S.own H w fp ∧ w = v
  ro := S.ro
  dom := fun h ha => S.dom h.1 ha
  keep := fun h k => ⟨S.keep h.1 k, h.2⟩
section
variable {C : Cn} [Tbs C.K] {Γ : List Ety} {α ι : Type}
theorem EvG.bE {t : TE} {w : Wp α} {S : α → Sl} {v : V} (h : EvG C Γ t w (fun x => RB (andS (S x) v))) : EvG C Γ t w (fun _ => RN (eqS v)) := fun P X hw B σ H fp en ex Q q =>
  h P X hw B σ H fp en ex Q fun r u H' hp s ⟨_, ho, _⟩ => q r u H' hp s ⟨[], ⟨rfl, ho.2⟩, fun a ha => (nomatch ha)⟩
/-- C(thing, ..) where a field holds the thing: the result is lent -/
theorem ev_makeB {ta : TA} {wa : Wp ι} {Ci : Addr} {S : ι → Sl} {ag : ι → List Ag} {fl : Str} {ds : ι → List (Str × Sl)} {E : XK} (hfl : ∀ x T, (fl, T) ∉ ds x) (ha : EvA C Γ ta wa (fun x => RB (S x) :: (ag x).map (Ag.rk C.K))) :
    EvG C Γ (tMake Ci (spI C.K Ci (fun y : ι × V => Ag.b (andS (S y.1) y.2) :: ag y.1) (fun y => ret y) fun y _ => (fl, eqS y.2) :: ds y.1) [] E ta) wa (fun r => RB (insS Ci ((fl, S r) :: ds r))) := fun P X hw B σ H fp en ex Q q => by
  refine ha _ X hw B σ H fp en ex _ fun x us H1 h1 s1 r1 => fun a dx ea ed hne => ?_
  cases r1 with
  | cons rb rr =>
    rename_i v us
    obtain ⟨gq, hg, hgo⟩ := rb
    have r1' : RAll B H H1 (v :: us) ((Ag.b (andS (S x) v) :: ag x).map (Ag.rk C.K)) := .cons ⟨gq, ⟨hg, rfl⟩, hgo⟩ rr
    obtain ⟨R, en'⟩ := args_en s1.ts r1'
    rw [List.append_nil]
    refine ⟨(x, v), fun y => y = (x, v), a, v :: us, B.T, R, _, rfl, ⟨rfl, ex.tb⟩, en'.self ea ed hne, fun out H' hp hf ht ⟨fq, ho, hq⟩ => ⟨rfl, ?_⟩⟩
    subst hp
    have st : Stp B H1 H' := ⟨fun b o e n => by
      have nb : b ∉ [a] := fun z => by
        rw [List.mem_singleton.mp z, ea] at e
        cases e
      obtain ⟨o', e', k, _⟩ := hf b o (mk_keeps ea ed hne b o e)
      rw [k nb n] at e'
      exact e', ht⟩
    have hg' : (S x).own H' v gq := (S x).keep hg fun b o e z => by
      rcases z with z | z
      · exact st.kp b o e (hgo b z)
      · exact st.kp b o e (s1.ts.notstill e z)
    have gne : ∀ b ∈ gq, b ≠ a := fun b hb z => by
      obtain ⟨o, e, _⟩ := (S x).dom hg hb
      rw [z, ea] at e
      cases e
    obtain ⟨p, kvs, e, io⟩ := ho
    cases e
    have hl : kvs.lookup fl = some v := by
      obtain ⟨w, gq', l, hw2, _⟩ := io.fld fl (eqS v) List.mem_cons_self
      rw [l, hw2.2]
    refine q x (.ref a) H' h1 (s1.trans st) ⟨fq ++ gq, ⟨a, kvs, rfl, io.at_, List.mem_append_left _ io.me, fun f T hm => ?_, fun b hb => ?_, fun f hf' => ?_, by have := io.len; rw [List.length_cons] at this ⊢; exact this⟩, fun b hb => ?_⟩
    · rcases List.mem_cons.mp hm with e | hm
      · cases e
        exact ⟨v, gq, hl, hg', fun b hb => ⟨List.mem_append_right _ hb, gne b hb⟩⟩
      · obtain ⟨w, fq', l, ho', hs⟩ := io.fld f T (List.mem_cons_of_mem _ hm)
        exact ⟨w, fq', l, ho', fun b hb => ⟨List.mem_append_left _ (hs b hb).1, (hs b hb).2⟩⟩
    · rcases List.mem_append.mp hb with hb | hb
      · rcases io.cov b hb with e | ⟨f, T, w, fq', hm, l, ho', hq', hs⟩
        · exact .inl e
        · rcases List.mem_cons.mp hm with e | hm
          · cases e
            rw [ho'.1] at hq'
            cases hq'
          · exact .inr ⟨f, T, w, fq', List.mem_cons_of_mem _ hm, l, ho', hq', fun b hb => ⟨List.mem_append_left _ (hs b hb).1, (hs b hb).2⟩⟩
      · exact .inr ⟨fl, S x, v, gq, List.mem_cons_self, hl, hg', hb, fun b hb => ⟨List.mem_append_right _ hb, gne b hb⟩⟩
    · refine io.no f fun T hm => ?_
      rcases List.mem_cons.mp hm with e | hm
      · cases e
        exact hf' (S x) List.mem_cons_self
      · exact hf' T (List.mem_cons_of_mem _ hm)
    · rcases List.mem_append.mp hb with hb | hb
      · rcases hq b hb with e | e
        · rw [e]
          exact s1.ts.new ea
        · refine s1.ts.new ?_
          cases z : H1 b with
          | none => rfl
          | some o =>
            have k := mk_keeps (Ci := Ci) ea ed hne b o z
            have e : mkH H1 Ci a dx b = none := e
            rw [k] at e
            cases e
      · exact hgo b hb
/-- x = e.f, where e is a name of a lent instance: x is a second name of the field's thing -/
theorem sb_aliasF {F : Type} {res : F → Oc} {N Bk Ct : Cont F} {i j : Nat} {Ci : Addr} {fs : List (Str × Sl)} {f : Str} {S : Sl} {k : Wp F} (h : Γ[i]? = some (.rb (insS Ci fs))) (c : Cls C.K Ci) (nf : NoAttr C.K Ci f) (hm : (f, S) ∈ fs) (hj : j < Γ.length) (hk : Lands N (Γ.set j (.rb S)) k) :
    SimB C res N Bk Ct (tAsg (tFld C.K (tVar i) f) (gName j)) Γ k := fun P X hP B D ex fin n b c' σ H fp en => by
  obtain ⟨v, fq, hv, ⟨p, kvs, e, io⟩, hq⟩ := en.rb i _ h
  obtain ⟨dx, at_⟩ := io.at_
  obtain ⟨w, gq, l, ho, hs⟩ := io.fld f S hm
  exact ⟨v, hv, p, Ci, dx, kvs, w, e, at_, c, nf, l, n _ _ (hk P X B _ H _ hP (en.putRb hj ho fun b hb => hq b (hs b hb).1))⟩
/-- o.m(..) that gives a new thing -/
theorem ev_methN {β F : Type} {ta : TE} {tr : TA} {wa : Wp α} {wr : Wp β} {Ci : Addr} {m : Str} {fs : α → List (Str × Sl)} {ag : β → List Ag} {f : α × β → Wp F} {res : F → Oc} {S : F → Sl} {E : XK} (ho : EvG C Γ ta wa (fun x => RB (insS Ci (fs x)))) (hm : ∀ x T, (m, T) ∉ fs x)
    (ha : EvA C Γ tr wr (fun y => (ag y).map (Ag.rk C.K))) (hr : ∀ o, res o = .nw (S o)) :
    EvG C Γ (tMeth Ci m (spN C.K (fun x : α × β => Ag.b (insS Ci (fs x.1)) :: ag x.2) f res) [] E ta tr) (bnd wa fun a => bnd wr fun b => noX (f (a, b))) (fun r => RN (S r)) := fun P X hw B σ H fp en ex Q q => by
  refine ho _ X hw B σ H fp en ex _ fun x v H1 h1 s1 r1 => ?_
  have r1' := r1
  obtain ⟨fq, ⟨p, kvs, ev, io⟩, hoff⟩ := r1'
  obtain ⟨dx, e2⟩ := io.at_
  refine ⟨p, dx, kvs, ev, e2, io.no m (hm x), ?_⟩
  refine ha _ X h1 B σ H1 fp (en.step s1) ex _ fun y vs H2 h2 s2 r2 => ?_
  have rr : RAll B H1 H2 (v :: vs) ((Ag.b (insS Ci (fs x)) :: ag y).map (Ag.rk C.K)) := .cons (st_B B H1 H1 H1 H2 v s1.ts s1.ts s2 r1 fun _ h => h) r2
  obtain ⟨R, en'⟩ := args_en s2.ts rr
  rw [List.append_nil]
  refine ⟨(x, y), P, B.T, R, _, ⟨h2, ex.tb⟩, en', fun out w H' hp hf ht ho => ?_⟩
  rw [hr] at ho
  obtain ⟨fq2, h3, h4, _⟩ := ho
  refine q out w H' hp ((s1.trans s2).trans (after_call hf ht)) ⟨fq2, h3, fun b hb => ?_⟩
  rcases h4 b hb with z | z
  · exact (s1.trans s2).back en.tps z
  · cases z
end
end WL
/-! WL, part 63: sum of a tuple of ints. -/
namespace L2
open PySem PySem.Spec PyProof.Rows PySem.W PySem.Calls PyProof.V
section
variable {X : Cx}
def rSumT (K : PySem.W.Frag) : List V → Hp → VK → Prop := fun vs H Q => ∃ (a : Addr) (ns : List Int), vs = [V.ref a] ∧ SqT K H a (ns.map V.int) ∧ Q (.int ns.sum) H
theorem cr_sumT (hc : X.calm = true) : CallR X (.builtin "sum") (rSumT X.K) := by
  intro pins s σ H vs us Q I r h
  obtain ⟨a, ns, rfl, hs, q⟩ := h
  obtain ⟨its, rv, ht, _⟩ := I.tuple hs
  rw [Vals.ref1 r]
  have hi := rv.ints
  obtain ⟨xs, e⟩ := hi.allInts.items
  have hn : numsOf (intItems xs).toList = ns := by rw [← e]; exact hi.numsOf
  rw [nums_intItems] at hn
  rw [e] at ht
  refine PySem.W.ktm_sumG (I.ok.hd hc) ht fun h' tk t' hk => ?_
  have : EP X pins σ Q (.int ns.sum t') { s with heap := h', toks := tk } := ⟨.int _, H, I.kept hk, ⟨_, rfl⟩, q⟩
  rw [preSum_eq, List.take_of_length_le (by simp), hn]
  exact this
end
end L2
namespace WL
open PySem PySem.Spec PyProof.Rows L2
section
variable {C : Cn} [Tbs C.K] {K : PySem.W.Frag}
theorem cr_sumTK {X : Cx} (h : X.K = K) (hc : X.calm = true) : CallR X (.builtin "sum") (rSumT K) := by subst h; exact cr_sumT hc
theorem c_sumT (ns : List Int) : CaG C (rSumT C.K) [RF C.K (eT eI ns)] (ret ns.sum) (fun r => RF C.K (eI r)) := fun P X hw B H0 H vs t0 ts hb h Q q => by
  cases h with
  | cons h1 h2 =>
    cases h2
    obtain ⟨p, ws, rfl, hs, hz⟩ := Fz.tup_inv h1
    have e := FzAll.ints (ns := ns) hz
    subst e
    exact ⟨p, ns, rfl, hs, q _ _ H hw (.refl ts) (.int _)⟩
end
end WL
/-! WL, part 64: short forms for instances; lists in if-expressions; the last row of a cascade. -/
namespace WL
open PySem PySem.Spec PyProof.Rows L2
section
variable {C : Cn} [Tbs C.K] {Γ : List Ety} {α β F ι : Type}
theorem ev_ifR {t : TT} {ta tb : TE} {w : Wp Bool} {wa wb : Wp (List α)} {e : α → PyData} (h : EvT C Γ t w) (h1 : EvG C Γ ta wa (fun x => RL C.K (x.map e))) (h2 : EvG C Γ tb wb (fun x => RL C.K (x.map e))) : EvG C Γ (tIf t ta tb) (bnd w fun b => sel b wa wb) (fun x => RL C.K (x.map e)) := ev_if h h1 h2 fun _ => st_L
/-- self, while it is made -/
theorem ev_self {i : Nat} {Ci a : Addr} {fs : List (Str × Sl)} {x : α} {S : α → Sl} (h : Γ[i]? = some (.sl (insA Ci a fs))) (hS : S x = insS Ci fs) : EvG C Γ (tVar i) (ret x) (fun r => RB (S r)) := fun P X hw B σ H fp en ex Q q => by
  obtain ⟨v, hv, e, kvs, io⟩ := en.sl i _ h
  subst e
  refine ⟨_, hv, q x _ H hw (.refl en.tps) ⟨fp i, ?_, fun b hb => en.nt i b hb⟩⟩
  rw [hS]
  exact ⟨a, kvs, rfl, io⟩
theorem ev_methS {ta : TE} {tr : TA} {wa : Wp α} {wr : Wp β} {Ci : Addr} {m : Str} {fs : α → List (Str × Sl)} {ag : β → List Ag} {f : α × β → Wp F} {res : F → Oc} {E : XK} (e : F → PyData) (ho : EvG C Γ ta wa (fun x => RB (insS Ci (fs x)))) (hm : ∀ x S, (m, S) ∉ fs x)
    (ha : EvS C Γ tr wr (fun y => (ag y).map (Ag.rk C.K))) (hr : ∀ o, res o = .fz (e o)) :
    EvG C Γ (tMeth Ci m (spN C.K (fun x : α × β => Ag.b (insS Ci (fs x.1)) :: ag x.2) f res) [] E ta tr) (bnd wa fun a => bnd wr fun b => noX (f (a, b))) (fun r => RF C.K (e r)) := ev_meth ho hm ha.ev hr
theorem ev_methNS {ta : TE} {tr : TA} {wa : Wp α} {wr : Wp β} {Ci : Addr} {m : Str} {fs : α → List (Str × Sl)} {ag : β → List Ag} {f : α × β → Wp F} {res : F → Oc} {E : XK} (S : F → Sl) (ho : EvG C Γ ta wa (fun x => RB (insS Ci (fs x)))) (hm : ∀ x T, (m, T) ∉ fs x)
    (ha : EvS C Γ tr wr (fun y => (ag y).map (Ag.rk C.K))) (hr : ∀ o, res o = .nw (S o)) :
    EvG C Γ (tMeth Ci m (spN C.K (fun x : α × β => Ag.b (insS Ci (fs x.1)) :: ag x.2) f res) [] E ta tr) (bnd wa fun a => bnd wr fun b => noX (f (a, b))) (fun r => RN (S r)) := ev_methN ho hm ha.ev hr
theorem ev_makeS {ta : TA} {wa : Wp ι} {Ci : Addr} {ag : ι → List Ag} {f : ι → Wp F} {fs : F → List (Str × Sl)} {E : XK} (ha : EvS C Γ ta wa (fun x => (ag x).map (Ag.rk C.K))) :
    EvG C Γ (tMake Ci (spI C.K Ci ag f fun out _ => fs out) [] E ta) (bnd wa fun x => noX (f x)) (fun r => RN (insS Ci (fs r))) := ev_make ha.ev
theorem ev_makeBS {ta : TA} {wa : Wp ι} {Ci : Addr} {S : ι → Sl} {ag : ι → List Ag} {fl : Str} {ds : ι → List (Str × Sl)} {E : XK} (hfl : ∀ x T, (fl, T) ∉ ds x) (ha : EvS C Γ ta wa (fun x => RB (S x) :: (ag x).map (Ag.rk C.K))) :
    EvG C Γ (tMake Ci (spI C.K Ci (fun y : ι × V => Ag.b (andS (S y.1) y.2) :: ag y.1) (fun y => ret y) fun y _ => (fl, eqS y.2) :: ds y.1) [] E ta) wa (fun r => RB (insS Ci ((fl, S r) :: ds r))) := ev_makeB hfl ha.ev
end
theorem pe_fldK {X : Cx} {K : PySem.W.Frag} {e : Expr} {f : Str} {pos : Pos} {ta : TE} (h : X.K = K) (he : PE X e ta) (hb : attributeBase e f X.env (eval e X.env) = eval e X.env) : PE X (.Attribute e f pos) (tFld K ta f) := by subst h; exact pe_fld he hb
theorem ps_fldK {X : Cx} {K : PySem.W.Frag} {o value : Expr} {f : Str} {pos pos' : Pos} {ta tv : TE} (h : X.K = K) (ha : PE X o ta) (hv : PE X value tv) (hs : swapsWith value (some (.Attribute o f pos')) pos.line X.env = pure false) : PS X (.Assign [.Attribute o f pos'] value pos) (sFld K ta tv f) := by subst h; exact ps_fld ha hv hs
theorem nm_by {f : Str} {T : Sl} {fs : List (Str × Sl)} (ns : List Str) (h : fs.map (·.1) = ns) (hn : f ∉ ns) : (f, T) ∉ fs := fun z => hn (by
  rw [← h]
  exact List.mem_map_of_mem (f := fun x => x.1) z)
theorem wi_ife {tc : TT} {sp sp' : Sp} {ta ta' : TA} : WInv (fun W => tRet (tIf tc (tCallS sp (WE W) ta) (tCallS sp' (WE W) ta'))) := fun W W' D σ H h => by
  show tc σ H (fun b H1 => if b = true then ta σ H1 (fun vs H2 => sp vs H2 D.rt (WE W σ)) else ta' σ H1 (fun vs H2 => sp' vs H2 D.rt (WE W σ))) = tc σ H (fun b H1 => if b = true then ta σ H1 (fun vs H2 => sp vs H2 D.rt (WE W' σ)) else ta' σ H1 (fun vs H2 => sp' vs H2 D.rt (WE W' σ)))
  rw [h]
end WL
namespace Cf
open PySem L2 WL
/-- two lists of one length, item by item -/
inductive All2 {α β : Type} (R : α → β → Prop) : List α → List β → Prop
  | nil : All2 R [] []
  | cons {x : α} {y : β} {a : List α} {b : List β} : R x y → All2 R a b → All2 R (x :: a) (y :: b)
def l_take (n : Int) : Wp Int := grd (0 < n ∧ n < 1073741824) (anyW fun d => 0 ≤ d ∧ d < n)
/-- a table's cell, a table with another cell, how many options it has -/
def cell (t : List (List (List Int))) (i j : Nat) : List Int := (t.getD i []).getD j []
def sizeT (t : List (List (List Int))) : Nat := (t.map fun r => (r.map List.length).sum).sum
def tgt (chs : List (Int × Int × Int)) (c : Int) : Int := (chs.getD c.toNat (0, 0, 0)).2.1
structure Shp (n : Nat) (t : List (List (List Int))) : Prop where
  len : t.length = n
  row : ∀ r ∈ t, r.length = n
/-- c may stay at its place for goal j -/
def OkC (chs : List (Int × Int × Int)) (t : List (List (List Int))) (j : Nat) (c : Int) : Prop := tgt chs c = j ∨ cell t (tgt chs c).toNat j ≠ []
def Live (n : Nat) (chs : List (Int × Int × Int)) (t : List (List (List Int))) : Prop := ∀ i j, i < n → j < n → ∀ c ∈ cell t i j, OkC chs t j c
def SubT (n : Nat) (s t : List (List (List Int))) : Prop := ∀ i j, i < n → j < n → ∀ c ∈ cell s i j, c ∈ cell t i j
/-- t is the greatest part of tab without dead ends -/
structure ThMax (chs : List (Int × Int × Int)) (t tab : List (List (List Int))) : Prop where
  shp : Shp tab.length t
  sub : ∀ i j, i < tab.length → j < tab.length → (cell t i j).Sublist (cell tab i j)
  live : Live tab.length chs t
  max : ∀ s, SubT tab.length s tab → Live tab.length chs s → SubT tab.length s t
def l_mix (number : Int) : Wp Int :=
  bnd (ret (Int.fmod ((number * (6364136223846793005 : Int)) + (1442695040888963407 : Int)) (18446744073709551616 : Int))) fun number_1 =>
  bnd (bnd (bnd (grd (CMul number_1 number_1) (ret (number_1 * number_1))) fun x2 => ret (x2 / (4294967296 : Int))) fun x3 => ret (x3 + (number_1 * (69621 : Int)))) fun x4 => ret (Int.fmod x4 (18446744073709551557 : Int))
end Cf
namespace Cf
open PySem L2 WL
def p_nodes_next (network : (Int × (List (Int × Int × Int)))) : Wp (List (List Int)) :=
  bnd (ret network) fun u1 =>
  bnd (bnd (grd (Rng (u1.1)) (ret (span 0 ((u1.1)).toNat))) fun l3 => lcG (fun c2 => (ret true)) (fun c2 => (ret ([] : List Int))) l3) fun found_4 =>
  bnd (ret (u1.2)) fun l12 => forK (fun x5 (s6 : ((List (List Int)))) kc7 kb8 =>
  bnd (bnd (opt (atI s6 (x5.1))) fun x9 => ret (!decide ((x5.2.1) ∈ x9))) fun b10 => sel b10
  (app2W s6 (ret (x5.1)) (ret (x5.2.1)) fun s11 =>
  kc7 s11)
  (kc7 s6)) (fun s6 : ((List (List Int))) =>
  ret s6) l12 found_4
def p_distances_from (beside : (List (List Int))) (u : Int) : Wp (List (Option Int)) :=
  bnd (grd (-(2 ^ 63) ≤ (beside.length : Int) ∧ (beside.length : Int) < 2 ^ 63 ∧ [(none : (Option Int))].length * ((beside.length : Int)).toNat ≤ 16777216) (ret (repL [(none : (Option Int))] (beside.length : Int)))) fun found_1 =>
  setW found_1 (ret (some (0 : Int))) (ret u) fun s2 =>
  bnd (ret [u]) fun todo_3 =>
  whileW (fun s4 : ((List (Option Int)) × (List Int)) => ret (!s4.2.isEmpty)) (fun (s4 : ((List (Option Int)) × (List Int))) kc5 kb6 =>
  bnd (ret ([] : List Int)) fun later_7 =>
  forK (fun x8 (s9 : ((List (Option Int)) × (List Int))) kc10 kb11 =>
  bnd (opt (atI beside x8)) fun l24 => forK (fun x14 (s15 : ((List (Option Int)) × (List Int))) kc16 kb17 =>
  bnd (bnd (opt (atI s15.1 x14)) fun x18 => ret (Option.isNone x18)) fun b19 => sel b19
  (setW s15.1 (bnd (bnd (bnd (opt (atI s15.1 x8)) fun x20 => opt x20) fun x21 => ret (x21 + (1 : Int))) fun y => ret (some y)) (ret x14) fun s22 =>
  appW s15.2 (ret x14) fun s23 =>
  kc16 (s22, s23))
  (kc16 (s15.1, s15.2))) (fun s15 : ((List (Option Int)) × (List Int)) =>
  kc10 (s15.1, s15.2)) l24 (s9.1, s9.2)) (fun s9 : ((List (Option Int)) × (List Int)) =>
  kc5 (s9.1, s9.2)) s4.2 (s4.1, later_7)) (fun s4 : ((List (Option Int)) × (List Int)) =>
  ret s4.1) (s2, todo_3)
def p_distances (network : (Int × (List (Int × Int × Int)))) : Wp (List (List (Option Int))) :=
  bnd (noX (p_nodes_next network)) fun beside_1 =>
  bnd (grd (Rng network.1) (ret (span 0 (network.1).toNat))) fun l3 => lcG (fun c2 => (ret true)) (fun c2 => (noX (p_distances_from beside_1 c2))) l3
def p_is_numberI (value : Int) (least : Int) (most : Int) : Wp Bool :=
  sel true (sel (!false) (sel (decide (least ≤ value)) (ret (decide (value ≤ most))) (ret false)) (ret false)) (ret false)
def p_made (n : Int) (links : (List (Int × Int))) : Wp (Int × (List (Int × Int))) :=
  bnd (bnd (bnd (noX (p_is_numberI n (2 : Int) (64 : Int))) fun x1 => ret (!x1)) fun x2 => sel x2 (ret true) (sel (!(!links.isEmpty)) (ret true) (ret (decide ((400 : Int) < ((2 : Int) * (links.length : Int))))))) fun b3 => sel b3
  (thr (.plain 0))
  (bnd (sortW (e2 eI eI) links) fun x4 => ret (n, x4))
def p_nodes_of (sizes : (List Int)) : Wp Int :=
  bnd (bnd (bnd (sel (decide ((1 : Int) ≤ (sizes.length : Int))) (ret (decide ((sizes.length : Int) ≤ (6 : Int)))) (ret false)) fun x1 => ret (!x1)) fun x6 => sel x6 (ret true) (bnd (bnd (bnd (ret sizes) fun l3 => lcG (fun c2 => (ret true)) (fun c2 => (noX (p_is_numberI c2 (1 : Int) (64 : Int)))) l3) fun x4 => ret (List.all x4 id)) fun x5 => ret (!x5))) fun b7 => sel b7
  (thr (.plain 0))
  (bnd (ret (1 : Int)) fun product_8 =>
  bnd (ret sizes) fun l16 => forK (fun x9 (s10 : (Int)) kc11 kb12 =>
  bnd (grd (CMul s10 x9) (ret (s10 * x9))) fun product_13 =>
  kc11 product_13) (fun s10 : (Int) =>
  bnd (bnd (sel (decide ((2 : Int) ≤ s10)) (ret (decide (s10 ≤ (64 : Int)))) (ret false)) fun x14 => ret (!x14)) fun b15 => sel b15
  (thr (.plain 0))
  (ret s10)) l16 product_8)
def p_node_at (sizes : (List Int)) (place : (List Int)) : Wp Int :=
  bnd (ret (0 : Int)) fun node_1 =>
  bnd (ret (List.zip sizes place)) fun l8 => forK (fun x2 (s3 : (Int)) kc4 kb5 =>
  bnd (bnd (grd (CMul s3 (x2.1)) (ret (s3 * (x2.1)))) fun x6 => ret (x6 + (x2.2))) fun node_7 =>
  kc4 node_7) (fun s3 : (Int) =>
  ret s3) l8 node_1
def p_place_of (sizes : (List Int)) (node : Int) : Wp (List Int) :=
  bnd (ret ([] : List Int)) fun place_1 =>
  bnd (ret (sizes).reverse) fun l8 => forK (fun x2 (s3 : ((List Int) × Int)) kc4 kb5 =>
  appW s3.1 (grd (x2 ≠ 0) (ret (Int.fmod s3.2 x2))) fun s6 =>
  bnd (grd (CDiv s3.2 x2) (ret (s3.2 / x2))) fun node_7 =>
  kc4 (s6, node_7)) (fun s3 : ((List Int) × Int) =>
  ret (s3.1).reverse) l8 (place_1, node)
def p_stepped (place : (List Int)) (at' : Int) (by' : Int) : Wp (List Int) :=
  bnd (bnd (bnd (bnd (opt (atI place at')) fun x1 => ret (x1 + by')) fun x2 => ret [x2]) fun x3 => grd ((cutA place none (some at')).length + x3.length ≤ 16777216) (ret ((cutA place none (some at')) ++ x3))) fun x4 => grd (x4.length + (cutA place (some (at' + (1 : Int))) none).length ≤ 16777216) (ret (x4 ++ (cutA place (some (at' + (1 : Int))) none)))
def p_mesh_links (sizes : (List Int)) (wraps : Bool) : Wp (List (Int × Int)) :=
  bnd (ret ([] : List (Int × Int))) fun links_1 =>
  bnd (bnd (p_nodes_of sizes) fun x2 => grd (Rng x2) (ret (span 0 (x2).toNat))) fun l26 => forK (fun x3 (s4 : ((List (Int × Int)))) kc5 kb6 =>
  bnd (noX (p_place_of sizes x3)) fun place_7 =>
  bnd (ret (enumI sizes)) fun l25 => forK (fun x8 (s9 : ((List (Int × Int)))) kc10 kb11 =>
  letK (fun s15 : ((List (Int × Int))) =>
  bnd (sel wraps (sel (decide ((2 : Int) < (x8.2))) (bnd (opt (atI place_7 (x8.1))) fun x20 => ret (decide (x20 = (0 : Int)))) (ret false)) (ret false)) fun b21 => sel b21
  (appW s15 (bnd (bnd (noX (p_stepped place_7 (x8.1) ((x8.2) - (1 : Int)))) fun x23 => noX (p_node_at sizes x23)) fun x24 => ret (x3, x24)) fun s22 =>
  kc10 s22)
  (kc10 s15)) fun k16 =>
  bnd (bnd (bnd (opt (atI place_7 (x8.1))) fun x12 => ret (x12 + (1 : Int))) fun x13 => ret (decide (x13 < (x8.2)))) fun b14 => sel b14
  (appW s9 (bnd (bnd (noX (p_stepped place_7 (x8.1) (1 : Int))) fun x18 => noX (p_node_at sizes x18)) fun x19 => ret (x3, x19)) fun s17 =>
  k16 s17)
  (k16 s9)) (fun s9 : ((List (Int × Int))) =>
  kc5 s9) l25 s4) (fun s4 : ((List (Int × Int))) =>
  ret s4) l26 links_1
def p_mesh (sizes : (List Int)) : Wp (Int × (List (Int × Int))) :=
  bnd (p_nodes_of sizes) fun x3 => bnd (p_mesh_links sizes false) fun x4 => p_made x3 x4
def p_torus (sizes : (List Int)) : Wp (Int × (List (Int × Int))) :=
  bnd (p_nodes_of sizes) fun x3 => bnd (p_mesh_links sizes true) fun x4 => p_made x3 x4
def p_network_of (frame : (Int × (List (Int × Int)))) (lanes : Int) (room : Int) : Wp (Int × (List (Int × Int × Int))) :=
  bnd (ret frame) fun u1 =>
  bnd (bnd (bnd (noX (p_is_numberI lanes (1 : Int) (8 : Int))) fun x2 => ret (!x2)) fun x4 => sel x4 (ret true) (bnd (noX (p_is_numberI room (1 : Int) (1000 : Int))) fun x3 => ret (!x3))) fun b5 => sel b5
  (thr (.plain 0))
  (bnd (bnd (grd (CMul ((2 : Int) * lanes) ((u1.2).length : Int)) (ret (((2 : Int) * lanes) * ((u1.2).length : Int)))) fun x6 => ret (decide ((400 : Int) < x6))) fun b7 => sel b7
  (thr (.plain 0))
  (bnd (ret ([] : List (Int × Int × Int))) fun channels_8 =>
  bnd (ret (u1.2)) fun l16 => forK (fun x9 (s10 : ((List (Int × Int × Int)))) kc11 kb12 =>
  extW s10 (bnd (grd (-(2 ^ 63) ≤ lanes ∧ lanes < 2 ^ 63 ∧ [((x9.1), (x9.2), room)].length * (lanes).toNat ≤ 16777216) (ret (repL [((x9.1), (x9.2), room)] lanes))) fun x14 => bnd (grd (-(2 ^ 63) ≤ lanes ∧ lanes < 2 ^ 63 ∧ [((x9.2), (x9.1), room)].length * (lanes).toNat ≤ 16777216) (ret (repL [((x9.2), (x9.1), room)] lanes))) fun x15 => grd (x14.length + x15.length ≤ 16777216) (ret (x14 ++ x15))) fun s13 =>
  kc11 s13) (fun s10 : ((List (Int × Int × Int))) =>
  ret ((u1.1), s10)) l16 channels_8))
def p_link_of (lanes : Int) (c : Int) : Wp (List Int) :=
  bnd (grd (CDiv c ((2 : Int) * lanes)) (ret (c / ((2 : Int) * lanes), c % ((2 : Int) * lanes)))) fun u1 =>
  bnd (bnd (grd (CDiv (u1.2) lanes) (ret ((u1.2) / lanes, (u1.2) % lanes))) fun y => ret ((fun y => [y.1, y.2]) y)) fun x2 => grd ([(u1.1)].length + x2.length ≤ 16777216) (ret ([(u1.1)] ++ x2))
def p_channels_from (network : (Int × (List (Int × Int × Int)))) (u : Int) : Wp (List Int) :=
  bnd (grd (Rng (network.2.length : Int)) (ret (span 0 ((network.2.length : Int)).toNat))) fun l4 => lcG (fun c1 => (bnd (bnd (opt (atI network.2 c1)) fun x2 => ret x2.1) fun x3 => ret (decide (x3 = u)))) (fun c1 => (ret c1)) l4
def p_Nearer_is_nearer (self : ((Int × (List (Int × Int × Int))) × (List (List (Option Int))))) (u : Int) (d : Int) (c : Int) : Wp Bool :=
  bnd (bnd (bnd (opt (atI self.2 u)) fun x1 => opt (atI x1 d)) fun x6 => bnd (bnd (bnd (bnd (opt (atI self.1.2 c)) fun x2 => ret x2.2.1) fun x3 => opt (atI self.2 x3)) fun x4 => opt (atI x4 d)) fun x7 => ret (x6, x7)) fun u5 =>
  sel (Option.isSome u5.1) (sel (Option.isSome u5.2) (bnd (bnd (bnd (opt u5.1) fun x8 => ret (x8 - (1 : Int))) fun y => ret (some y)) fun x9 => eqW ((eO eI) u5.2) ((eO eI) x9)) (ret false)) (ret false)
def p_Nearer_options (self : ((Int × (List (Int × Int × Int))) × (List (List (Option Int))))) (u : Int) (d : Int) : Wp (List Int) :=
  bnd (noX (p_channels_from self.1 u)) fun l2 => lcG (fun c1 => (noX (p_Nearer_is_nearer self u d c1))) (fun c1 => (ret c1)) l2
def p_table_of (network : (Int × (List (Int × Int × Int)))) (chooser : ((Int × (List (Int × Int × Int))) × (List (List (Option Int))))) : Wp (List (List (List Int))) :=
  bnd (ret ([] : List (List (List Int)))) fun rows_1 =>
  bnd (grd (Rng network.1) (ret (span 0 (network.1).toNat))) fun l9 => forK (fun x2 (s3 : ((List (List (List Int))))) kc4 kb5 =>
  appW s3 (bnd (grd (Rng network.1) (ret (span 0 (network.1).toNat))) fun l8 => lcG (fun c7 => (ret true)) (fun c7 => (sel (decide (x2 = c7)) (ret ([] : (List Int))) (noX (p_Nearer_options chooser x2 c7)))) l8) fun s6 =>
  kc4 s6) (fun s3 : ((List (List (List Int)))) =>
  ret s3) l9 rows_1
def p_first_other (one : (List Int)) (other : (List Int)) : Wp Int :=
  bnd (bnd (grd (Rng (one.length : Int)) (ret (span 0 ((one.length : Int)).toNat))) fun l4 => lcG (fun c1 => (bnd (opt (atI one c1)) fun x2 => bnd (opt (atI other c1)) fun x3 => ret (!decide (x2 = x3)))) (fun c1 => (ret c1)) l4) fun x5 => opt (atI x5 (0 : Int))
def p_Grid_step (self : ((List Int) × Int × (Int × (List (Int × Int × Int))) × (List (List Int)))) (c : Int) : Wp (Int × Int) :=
  bnd (opt (atI self.2.2.1.2 c)) fun u1 =>
  bnd (bnd (opt (atI self.2.2.2 (u1.1))) fun x3 => bnd (opt (atI self.2.2.2 (u1.2.1))) fun x4 => ret (x3, x4)) fun u2 =>
  bnd (noX (p_first_other u2.1 u2.2)) fun at_5 =>
  bnd (bnd (opt (atI u2.2 at_5)) fun x6 => bnd (opt (atI u2.1 at_5)) fun x7 => ret (x6 - x7)) fun x8 => ret (at_5, x8)
def p_Grid_is_useful (self : ((List Int) × Int × (Int × (List (Int × Int × Int))) × (List (List Int)))) (u : Int) (d : Int) (c : Int) : Wp Bool :=
  bnd (noX (p_Grid_step self c)) fun u1 =>
  bnd (bnd (bnd (opt (atI self.2.2.2 d)) fun x2 => opt (atI x2 (u1.1))) fun x4 => bnd (bnd (opt (atI self.2.2.2 u)) fun x3 => opt (atI x3 (u1.1))) fun x5 => ret (x4 - x5)) fun left_6 =>
  bnd (grd (CMul left_6 (u1.2)) (ret (left_6 * (u1.2)))) fun x7 => ret (decide ((0 : Int) < x7))
def p_Grid_useful (self : ((List Int) × Int × (Int × (List (Int × Int × Int))) × (List (List Int)))) (u : Int) (d : Int) : Wp (List Int) :=
  bnd (noX (p_channels_from self.2.2.1 u)) fun l2 => lcG (fun c1 => (noX (p_Grid_is_useful self u d c1))) (fun c1 => (ret c1)) l2
def p_InOrder_options (self : ((List Int) × Int × (Int × (List (Int × Int × Int))) × (List (List Int)))) (u : Int) (d : Int) : Wp (List Int) :=
  bnd (bnd (opt (atI self.2.2.2 u)) fun x1 => bnd (opt (atI self.2.2.2 d)) fun x2 => noX (p_first_other x1 x2)) fun at_3 =>
  bnd (noX (p_Grid_useful self u d)) fun useful_4 =>
  bnd (ret useful_4) fun l8 => lcG (fun c5 => (bnd (bnd (noX (p_Grid_step self c5)) fun x6 => ret x6.1) fun x7 => ret (decide (x7 = at_3)))) (fun c5 => (ret c5)) l8
def p_table_of_order (network : (Int × (List (Int × Int × Int)))) (chooser : ((List Int) × Int × (Int × (List (Int × Int × Int))) × (List (List Int)))) : Wp (List (List (List Int))) :=
  bnd (ret ([] : List (List (List Int)))) fun rows_1 =>
  bnd (grd (Rng network.1) (ret (span 0 (network.1).toNat))) fun l9 => forK (fun x2 (s3 : ((List (List (List Int))))) kc4 kb5 =>
  appW s3 (bnd (grd (Rng network.1) (ret (span 0 (network.1).toNat))) fun l8 => lcG (fun c7 => (ret true)) (fun c7 => (sel (decide (x2 = c7)) (ret ([] : (List Int))) (noX (p_InOrder_options chooser x2 c7)))) l8) fun s6 =>
  kc4 s6) (fun s3 : ((List (List (List Int)))) =>
  ret s3) l9 rows_1
def p_dateline_choice (size : Int) (x : Int) (t : Int) : Wp (Int × Int) :=
  bnd (ret (decide (size ≤ (2 : Int)))) fun b1 => sel b1
  (ret ((t - x), (0 : Int)))
  (bnd (bnd (bnd (grd (size ≠ 0) (ret (Int.fmod (t - x) size))) fun x2 => ret ((2 : Int) * x2)) fun x3 => ret (decide (x3 ≤ size))) fun b4 => sel b4
  (bnd (sel (decide ((x + (1 : Int)) < size)) (ret (1 : Int)) (ret ((1 : Int) - size))) fun x5 => ret (x5, (if (decide (t < x)) then 1 else 0 : Int)))
  (bnd (sel (decide ((0 : Int) < x)) (ret (-(1 : Int))) (ret (size - (1 : Int)))) fun x6 => ret (x6, (if (decide (x < t)) then 1 else 0 : Int))))
def p_AcrossLines_options (self : ((List Int) × Int × (Int × (List (Int × Int × Int))) × (List (List Int)))) (u : Int) (d : Int) : Wp (List Int) :=
  bnd (bnd (opt (atI self.2.2.2 u)) fun x2 => bnd (opt (atI self.2.2.2 d)) fun x3 => ret (x2, x3)) fun u1 =>
  bnd (noX (p_first_other u1.1 u1.2)) fun at_4 =>
  bnd (bnd (opt (atI self.1 at_4)) fun x5 => bnd (opt (atI u1.1 at_4)) fun x6 => bnd (opt (atI u1.2 at_4)) fun x7 => noX (p_dateline_choice x5 x6 x7)) fun u8 =>
  bnd (noX (p_channels_from self.2.2.1 u)) fun own_9 =>
  bnd (ret own_9) fun l15 => lcG (fun c10 => (bnd (bnd (noX (p_Grid_step self c10)) fun x11 => eqW ((e2 eI eI) x11) ((e2 eI eI) (at_4, (u8.1)))) fun x14 => sel x14 (bnd (bnd (noX (p_link_of self.2.1 c10)) fun x12 => opt (atI x12 (2 : Int))) fun x13 => ret (decide (x13 = (u8.2)))) (ret false))) (fun c10 => (ret c10)) l15
def p_table_of_lines (network : (Int × (List (Int × Int × Int)))) (chooser : ((List Int) × Int × (Int × (List (Int × Int × Int))) × (List (List Int)))) : Wp (List (List (List Int))) :=
  bnd (ret ([] : List (List (List Int)))) fun rows_1 =>
  bnd (grd (Rng network.1) (ret (span 0 (network.1).toNat))) fun l9 => forK (fun x2 (s3 : ((List (List (List Int))))) kc4 kb5 =>
  appW s3 (bnd (grd (Rng network.1) (ret (span 0 (network.1).toNat))) fun l8 => lcG (fun c7 => (ret true)) (fun c7 => (sel (decide (x2 = c7)) (ret ([] : (List Int))) (noX (p_AcrossLines_options chooser x2 c7)))) l8) fun s6 =>
  kc4 s6) (fun s3 : ((List (List (List Int)))) =>
  ret s3) l9 rows_1
def p_InTurn_is_first (self : (((List Int) × Int × (Int × (List (Int × Int × Int))) × (List (List Int))) × Str)) (step : (Int × Int)) : Wp Bool :=
  bnd (ret (decide (self.2 = ("negative" : Str)))) fun b1 => sel b1
  (ret (decide (step.2 < (0 : Int))))
  (bnd (ret (decide (self.2 = ("west" : Str)))) fun b2 => sel b2
  (eqW ((e2 eI eI) step) ((e2 eI eI) ((1 : Int), (-(1 : Int)))))
  (eqWN ((e2 eI eI) step) ((e2 eI eI) ((0 : Int), (1 : Int)))))
def p_InTurn_options (self : (((List Int) × Int × (Int × (List (Int × Int × Int))) × (List (List Int))) × Str)) (u : Int) (d : Int) : Wp (List Int) :=
  bnd (noX (p_Grid_useful self.1 u d)) fun own_1 =>
  bnd (bnd (ret own_1) fun l4 => lcG (fun c2 => (bnd (noX (p_Grid_step self.1 c2)) fun x3 => noX (p_InTurn_is_first self x3))) (fun c2 => (ret c2)) l4) fun first_5 =>
  sel (!first_5.isEmpty) (ret first_5) (ret own_1)
def p_table_of_turn (network : (Int × (List (Int × Int × Int)))) (chooser : (((List Int) × Int × (Int × (List (Int × Int × Int))) × (List (List Int))) × Str)) : Wp (List (List (List Int))) :=
  bnd (ret ([] : List (List (List Int)))) fun rows_1 =>
  bnd (grd (Rng network.1) (ret (span 0 (network.1).toNat))) fun l9 => forK (fun x2 (s3 : ((List (List (List Int))))) kc4 kb5 =>
  appW s3 (bnd (grd (Rng network.1) (ret (span 0 (network.1).toNat))) fun l8 => lcG (fun c7 => (ret true)) (fun c7 => (sel (decide (x2 = c7)) (ret ([] : (List Int))) (noX (p_InTurn_options chooser x2 c7)))) l8) fun s6 =>
  kc4 s6) (fun s3 : ((List (List (List Int)))) =>
  ret s3) l9 rows_1
def p_Nearer_init (network : (Int × (List (Int × Int × Int)))) : Wp ((Int × (List (Int × Int × Int))) × (List (List (Option Int)))) :=
  bnd (ret network) fun network_1 =>
  bnd (noX (p_distances network)) fun far_2 =>
  ret (network_1, far_2)
def p_shortest (network : (Int × (List (Int × Int × Int)))) : Wp (List (List (List Int))) :=
  bnd (noX (p_Nearer_init network)) fun x1 => noX (p_table_of network x1)
def p_Grid_init (sizes : (List Int)) (lanes : Int) (wraps : Bool) : Wp ((List Int) × Int × (Int × (List (Int × Int × Int))) × (List (List Int))) :=
  bnd (ret sizes) fun sizes_1 =>
  bnd (ret lanes) fun lanes_2 =>
  bnd (bnd (sel wraps (noX (p_torus sizes)) (noX (p_mesh sizes))) fun x3 => noX (p_network_of x3 lanes (1 : Int))) fun network_4 =>
  bnd (bnd (grd (Rng network_4.1) (ret (span 0 (network_4.1).toNat))) fun l6 => lcG (fun c5 => (ret true)) (fun c5 => (noX (p_place_of sizes c5))) l6) fun places_7 =>
  ret (sizes_1, lanes_2, network_4, places_7)
def p_dimension_order (sizes : (List Int)) (lanes : Int) : Wp (List (List (List Int))) :=
  bnd (noX (p_Grid_init sizes lanes false)) fun grid_1 =>
  noX (p_table_of_order grid_1.2.2.1 grid_1)
def p_dateline (sizes : (List Int)) (lanes : Int) : Wp (List (List (List Int))) :=
  bnd (ret (decide (lanes = (1 : Int)))) fun b1 => sel b1
  (thr (.plain 0))
  (bnd (noX (p_Grid_init sizes lanes true)) fun grid_2 =>
  noX (p_table_of_lines grid_2.2.2.1 grid_2))
def p_table_in_turn (sizes : (List Int)) (lanes : Int) (kind : Str) : Wp (List (List (List Int))) :=
  bnd (noX (p_Grid_init sizes lanes false)) fun grid_1 =>
  noX (p_table_of_turn grid_1.2.2.1 (grid_1, kind))
def p_negative_first (sizes : (List Int)) (lanes : Int) : Wp (List (List (List Int))) :=
  noX (p_table_in_turn sizes lanes ("negative" : Str))
def p_check_two (sizes : (List Int)) : Wp Unit :=
  bnd (ret (!decide ((sizes.length : Int) = (2 : Int)))) fun b1 => sel b1
  (thr (.plain 0))
  (ret ())
def p_west_first (sizes : (List Int)) (lanes : Int) : Wp (List (List (List Int))) :=
  bnd (p_check_two sizes) fun u1 =>
  noX (p_table_in_turn sizes lanes ("west" : Str))
def p_north_last (sizes : (List Int)) (lanes : Int) : Wp (List (List (List Int))) :=
  bnd (p_check_two sizes) fun u1 =>
  noX (p_table_in_turn sizes lanes ("north" : Str))
def l_drawn_network (most : Int) (channels : Int) : Wp (Int × (List (Int × Int × Int))) :=
  bnd (bnd (noX (l_take (most - (1 : Int)))) fun x1 => ret ((2 : Int) + x1)) fun n_2 =>
  bnd (ret ([] : List (Int × Int × Int))) fun found_3 =>
  bnd (bnd (bnd (noX (l_take channels)) fun x4 => ret ((1 : Int) + x4)) fun x5 => grd (Rng x5) (ret (span 0 (x5).toNat))) fun l17 => forK (fun x6 (s7 : ((List (Int × Int × Int)))) kc8 kb9 =>
  bnd (noX (l_take n_2)) fun source_10 =>
  bnd (bnd (bnd (noX (l_take (n_2 - (1 : Int)))) fun x11 => ret ((source_10 + (1 : Int)) + x11)) fun x12 => grd (n_2 ≠ 0) (ret (Int.fmod x12 n_2))) fun target_13 =>
  appW s7 (bnd (bnd (noX (l_take (3 : Int))) fun x15 => ret ((1 : Int) + x15)) fun x16 => ret (source_10, target_13, x16)) fun s14 =>
  kc8 s14) (fun s7 : ((List (Int × Int × Int))) =>
  ret (n_2, s7)) l17 found_3
def l_far (network_here : (Int × (List (Int × Int × Int)))) : Wp (List (List Int)) :=
  bnd (ret network_here.1) fun n_1 =>
  bnd (bnd (grd (Rng n_1) (ret (span 0 (n_1).toNat))) fun l5 => lcG (fun c2 => (ret true)) (fun c2 => (bnd (grd (Rng n_1) (ret (span 0 (n_1).toNat))) fun l4 => lcG (fun c3 => (ret true)) (fun c3 => (sel (decide (c2 = c3)) (ret (0 : Int)) (ret (999 : Int)))) l4)) l5) fun far_here_6 =>
  bnd (ret network_here.2) fun l41 => forK (fun x7 (s8 : ((List (List Int)))) kc9 kb10 =>
  openW s8 (ret (x7.1)) fun a11 =>
  alSetW s8 a11 (bnd (bnd (opt (s8)[a11]?) fun x13 => opt (atI x13 (x7.2.1))) fun x14 => ret (if (1 : Int) < x14 then (1 : Int) else x14)) (ret (x7.2.1)) fun s15 =>
  kc9 s15) (fun s8 : ((List (List Int))) =>
  bnd (grd (Rng n_1) (ret (span 0 (n_1).toNat))) fun l40 => forK (fun x16 (s17 : ((List (List Int)))) kc18 kb19 =>
  bnd (grd (Rng n_1) (ret (span 0 (n_1).toNat))) fun l39 => forK (fun x20 (s21 : ((List (List Int)))) kc22 kb23 =>
  openW s21 (ret x20) fun a24 =>
  bnd (grd (Rng n_1) (ret (span 0 (n_1).toNat))) fun l38 => forK (fun x26 (s27 : ((List (List Int)))) kc28 kb29 =>
  alSetW s27 a24 (bnd (bnd (opt (s27)[a24]?) fun x30 => opt (atI x30 x26)) fun x35 => bnd (bnd (bnd (opt (s27)[a24]?) fun x31 => opt (atI x31 x16)) fun x33 => bnd (bnd (opt (atI s27 x16)) fun x32 => opt (atI x32 x26)) fun x34 => ret (x33 + x34)) fun x36 => ret (if x36 < x35 then x36 else x35)) (ret x26) fun s37 =>
  kc28 s37) (fun s27 : ((List (List Int))) =>
  kc22 s27) l38 s21) (fun s21 : ((List (List Int))) =>
  kc18 s21) l39 s17) (fun s17 : ((List (List Int))) =>
  ret s17) l40 s8) l41 far_here_6
def l_sizes25 (many : Int) : Wp (List Int) :=
  bnd (opt (atI [(4 : Int), (3 : Int), (2 : Int)] (many - (1 : Int)))) fun most_1 =>
  letK (fun s4 : (Int) =>
  bnd (bnd (grd (Rng many) (ret (span 0 (many).toNat))) fun l9 => lcG (fun c7 => (ret true)) (fun c7 => (bnd (noX (l_take s4)) fun x8 => ret ((1 : Int) + x8))) l9) fun sizes_here_10 =>
  sel (decide (many < (List.sum sizes_here_10))) (ret sizes_here_10) (grd ([(2 : Int)].length + (cutA sizes_here_10 (some (1 : Int)) none).length ≤ 16777216) (ret ([(2 : Int)] ++ (cutA sizes_here_10 (some (1 : Int)) none))))) fun k5 =>
  bnd (sel (decide (many = (2 : Int))) (bnd (noX (l_take (8 : Int))) fun x2 => ret (decide (x2 = (0 : Int)))) (ret false)) fun b3 => sel b3
  (bnd (ret (4 : Int)) fun most_6 =>
  k5 most_6)
  (k5 most_1)
def l_places (sizes_here : (List Int)) : Wp (List (List Int)) :=
  bnd (ret [([] : (List Int))]) fun found_1 =>
  bnd (ret sizes_here) fun l16 => forK (fun x2 (s3 : ((List (List Int)))) kc4 kb5 =>
  bnd (ret ([] : List (List Int))) fun longer_6 =>
  forK (fun x7 (s8 : ((List (List Int)))) kc9 kb10 =>
  extW s8 (bnd (grd (Rng x2) (ret (span 0 (x2).toNat))) fun l15 => lcG (fun c14 => (ret true)) (fun c14 => (grd (x7.length + [c14].length ≤ 16777216) (ret (x7 ++ [c14])))) l15) fun s13 =>
  kc9 s13) (fun s8 : ((List (List Int))) =>
  kc4 s8) s3 longer_6) (fun s3 : ((List (List Int))) =>
  ret s3) l16 found_1
def l_grid (sizes_here : (List Int)) (lanes : Int) (wraps : Bool) : Wp (List (Int × Int × Int × Int × Int)) :=
  bnd (noX (l_places sizes_here)) fun places_here_1 =>
  bnd (ret ([] : List (Int × Int × Int × Int × Int))) fun found_2 =>
  bnd (grd (Rng (places_here_1.length : Int)) (ret (span 0 ((places_here_1.length : Int)).toNat))) fun l49 => forK (fun x3 (s4 : ((List (Int × Int × Int × Int × Int)))) kc5 kb6 =>
  bnd (grd (Rng (x3 + (1 : Int)) ∧ Rng (places_here_1.length : Int)) (ret (span (x3 + (1 : Int)) ((places_here_1.length : Int) - (x3 + (1 : Int))).toNat))) fun l48 => forK (fun x7 (s8 : ((List (Int × Int × Int × Int × Int)))) kc9 kb10 =>
  bnd (bnd (grd (Rng (sizes_here.length : Int)) (ret (span 0 ((sizes_here.length : Int)).toNat))) fun l16 => lcG (fun c11 => (bnd (bnd (opt (atI places_here_1 x3)) fun x12 => opt (atI x12 c11)) fun x14 => bnd (bnd (opt (atI places_here_1 x7)) fun x13 => opt (atI x13 c11)) fun x15 => ret (!decide (x14 = x15)))) (fun c11 => (ret c11)) l16) fun apart_17 =>
  bnd (bnd (bnd (bnd (opt (atI places_here_1 x3)) fun x18 => bnd (opt (atI apart_17 (0 : Int))) fun x19 => opt (atI x18 x19)) fun x22 => bnd (bnd (opt (atI places_here_1 x7)) fun x20 => bnd (opt (atI apart_17 (0 : Int))) fun x21 => opt (atI x20 x21)) fun x23 => ret (x22 - x23)) fun x24 => ret (if x24 < 0 then -x24 else x24)) fun far_here_25 =>
  bnd (sel (decide ((apart_17.length : Int) = (1 : Int))) (sel (decide (far_here_25 = (1 : Int))) (ret true) (sel wraps (bnd (bnd (bnd (opt (atI apart_17 (0 : Int))) fun x26 => opt (atI sizes_here x26)) fun x27 => ret (decide ((2 : Int) < x27))) fun x31 => sel x31 (bnd (bnd (bnd (opt (atI apart_17 (0 : Int))) fun x28 => opt (atI sizes_here x28)) fun x29 => ret (x29 - (1 : Int))) fun x30 => ret (decide (far_here_25 = x30))) (ret false)) (ret false))) (ret false)) fun b32 => sel b32
  (bnd (bnd (bnd (opt (atI places_here_1 x7)) fun x33 => bnd (opt (atI apart_17 (0 : Int))) fun x34 => opt (atI x33 x34)) fun x37 => bnd (bnd (opt (atI places_here_1 x3)) fun x35 => bnd (opt (atI apart_17 (0 : Int))) fun x36 => opt (atI x35 x36)) fun x38 => ret (x37 - x38)) fun by_39 =>
  extW s8 (bnd (grd (Rng lanes) (ret (span 0 (lanes).toNat))) fun l43 => lcG (fun c41 => (ret true)) (fun c41 => (bnd (opt (atI apart_17 (0 : Int))) fun x42 => ret (x3, x7, x42, by_39, c41))) l43) fun s40 =>
  extW s40 (bnd (grd (Rng lanes) (ret (span 0 (lanes).toNat))) fun l47 => lcG (fun c45 => (ret true)) (fun c45 => (bnd (opt (atI apart_17 (0 : Int))) fun x46 => ret (x7, x3, x46, (-by_39), c45))) l47) fun s44 =>
  kc9 s44)
  (kc9 s8)) (fun s8 : ((List (Int × Int × Int × Int × Int))) =>
  kc5 s8) l48 s4) (fun s4 : ((List (Int × Int × Int × Int × Int))) =>
  ret s4) l49 found_2
def l_network (sizes_here : (List Int)) (lanes : Int) (wraps : Bool) (room : Int) : Wp (Int × (List (Int × Int × Int))) :=
  bnd (bnd (noX (l_places sizes_here)) fun x1 => ret (x1.length : Int)) fun x4 => bnd (bnd (noX (l_grid sizes_here lanes wraps)) fun l3 => lcG (fun c2 => (ret true)) (fun c2 => (ret (c2.1, c2.2.1, room))) l3) fun x5 => ret (x4, x5)
def l_dateline_fits (sizes_here : (List Int)) (here : (List Int)) (there : (List Int)) (row : (Int × Int × Int × Int × Int)) : Wp Bool :=
  bnd (bnd (bnd (grd (Rng (sizes_here.length : Int)) (ret (span 0 ((sizes_here.length : Int)).toNat))) fun l4 => lcG (fun c1 => (bnd (opt (atI here c1)) fun x2 => bnd (opt (atI there c1)) fun x3 => ret (!decide (x2 = x3)))) (fun c1 => (ret c1)) l4) fun x5 => opt (atI x5 (0 : Int))) fun at_6 =>
  bnd (opt (atI here at_6)) fun x_7 =>
  bnd (opt (atI there at_6)) fun t_8 =>
  bnd (opt (atI sizes_here at_6)) fun size_9 =>
  bnd (ret (!decide (row.2.2.1 = at_6))) fun b10 => sel b10
  (ret false)
  (bnd (ret (decide (size_9 ≤ (2 : Int)))) fun b11 => sel b11
  (sel (decide (row.2.2.2.1 = (t_8 - x_7))) (ret (decide (row.2.2.2.2 = (0 : Int)))) (ret false))
  (bnd (bnd (bnd (grd (size_9 ≠ 0) (ret (Int.fmod (t_8 - x_7) size_9))) fun x12 => ret ((2 : Int) * x12)) fun x13 => ret (decide (x13 ≤ size_9))) fun b14 => sel b14
  (bnd (bnd (grd (size_9 ≠ 0) (ret (Int.fmod (x_7 + row.2.2.2.1) size_9))) fun x15 => bnd (grd (size_9 ≠ 0) (ret (Int.fmod (x_7 + (1 : Int)) size_9))) fun x16 => ret (decide (x15 = x16))) fun x17 => sel x17 (ret (decide (row.2.2.2.2 = (if (decide (t_8 < x_7)) then 1 else 0 : Int)))) (ret false))
  (bnd (bnd (grd (size_9 ≠ 0) (ret (Int.fmod ((x_7 + row.2.2.2.1) + size_9) size_9))) fun x18 => bnd (grd (size_9 ≠ 0) (ret (Int.fmod ((x_7 - (1 : Int)) + size_9) size_9))) fun x19 => ret (decide (x18 = x19))) fun x20 => sel x20 (ret (decide (row.2.2.2.2 = (if (decide (x_7 < t_8)) then 1 else 0 : Int)))) (ret false))))
def l_options25 (word : Str) (sizes_here : (List Int)) (rows : (List (Int × Int × Int × Int × Int))) (places_here : (List (List Int))) (u : Int) (d : Int) : Wp (List Int) :=
  bnd (opt (atI places_here u)) fun here_1 =>
  bnd (opt (atI places_here d)) fun there_2 =>
  bnd (bnd (grd (Rng (rows.length : Int)) (ret (span 0 ((rows.length : Int)).toNat))) fun l6 => lcG (fun c3 => (bnd (bnd (opt (atI rows c3)) fun x4 => ret x4.1) fun x5 => ret (decide (x5 = u)))) (fun c3 => (ret c3)) l6) fun own_7 =>
  bnd (ret (decide (word = ("dateline" : Str)))) fun b8 => sel b8
  (bnd (ret own_7) fun l11 => lcG (fun c9 => (bnd (opt (atI rows c9)) fun x10 => noX (l_dateline_fits sizes_here here_1 there_2 x10))) (fun c9 => (ret c9)) l11)
  (bnd (bnd (ret own_7) fun l23 => lcG (fun c12 => (bnd (bnd (bnd (bnd (bnd (opt (atI rows c12)) fun x13 => ret x13.2.2.1) fun x14 => opt (atI there_2 x14)) fun x17 => bnd (bnd (bnd (opt (atI rows c12)) fun x15 => ret x15.2.2.1) fun x16 => opt (atI here_1 x16)) fun x18 => ret (x17 - x18)) fun x20 => bnd (bnd (opt (atI rows c12)) fun x19 => ret x19.2.2.2.1) fun x21 => grd (CMul x20 x21) (ret (x20 * x21))) fun x22 => ret (decide ((0 : Int) < x22)))) (fun c12 => (ret c12)) l23) fun useful_24 =>
  bnd (ret (decide (word = ("order" : Str)))) fun b25 => sel b25
  (bnd (bnd (bnd (grd (Rng (sizes_here.length : Int)) (ret (span 0 ((sizes_here.length : Int)).toNat))) fun l29 => lcG (fun c26 => (bnd (opt (atI here_1 c26)) fun x27 => bnd (opt (atI there_2 c26)) fun x28 => ret (!decide (x27 = x28)))) (fun c26 => (ret c26)) l29) fun x30 => opt (atI x30 (0 : Int))) fun at_31 =>
  bnd (ret useful_24) fun l35 => lcG (fun c32 => (bnd (bnd (opt (atI rows c32)) fun x33 => ret x33.2.2.1) fun x34 => ret (decide (x34 = at_31)))) (fun c32 => (ret c32)) l35)
  (bnd (bnd (ret useful_24) fun l39 => lcG (fun c36 => (bnd (bnd (opt (atI rows c36)) fun x37 => ret x37.2.2.2.1) fun x38 => ret (decide (x38 < (0 : Int))))) (fun c36 => (ret c36)) l39) fun first_40 =>
  letK (fun s42 : ((List Int)) =>
  letK (fun s50 : ((List Int)) =>
  sel (decide ((0 : Int) < (s50.length : Int))) (ret s50) (ret useful_24)) fun k51 =>
  bnd (ret (decide (word = ("north" : Str)))) fun b49 => sel b49
  (bnd (bnd (ret useful_24) fun l58 => lcG (fun c52 => (bnd (bnd (bnd (opt (atI rows c52)) fun x53 => ret x53.2.2.1) fun x54 => ret (!decide (x54 = (0 : Int)))) fun x57 => sel x57 (ret true) (bnd (bnd (opt (atI rows c52)) fun x55 => ret x55.2.2.2.1) fun x56 => ret (decide (x56 < (0 : Int)))))) (fun c52 => (ret c52)) l58) fun first_59 =>
  k51 first_59)
  (k51 s42)) fun k43 =>
  bnd (ret (decide (word = ("west" : Str)))) fun b41 => sel b41
  (bnd (bnd (ret first_40) fun l47 => lcG (fun c44 => (bnd (bnd (opt (atI rows c44)) fun x45 => ret x45.2.2.1) fun x46 => ret (decide (x46 = (1 : Int))))) (fun c44 => (ret c44)) l47) fun first_48 =>
  k43 first_48)
  (k43 first_40)))
def l_table (word : Str) (sizes_here : (List Int)) (lanes : Int) : Wp (List (List (List Int))) :=
  bnd (noX (l_grid sizes_here lanes (decide (word = ("dateline" : Str))))) fun rows_1 =>
  bnd (noX (l_places sizes_here)) fun places_here_2 =>
  bnd (ret (places_here_2.length : Int)) fun n_3 =>
  bnd (grd (Rng n_3) (ret (span 0 (n_3).toNat))) fun l7 => lcG (fun c4 => (ret true)) (fun c4 => (bnd (grd (Rng n_3) (ret (span 0 (n_3).toNat))) fun l6 => lcG (fun c5 => (ret true)) (fun c5 => (sel (decide (c4 = c5)) (ret ([] : (List Int))) (noX (l_options25 word sizes_here rows_1 places_here_2 c4 c5)))) l6)) l7
def l_told25 (word : Str) (sizes_here : (List Int)) (lanes : Int) : Wp (Option (List (List (List Int)))) :=
  tryW (bnd (ret (decide (word = ("order" : Str)))) fun b1 => sel b1
  (bnd (p_dimension_order sizes_here lanes) fun y => ret (some y))
  (bnd (ret (decide (word = ("dateline" : Str)))) fun b2 => sel b2
  (bnd (p_dateline sizes_here lanes) fun y => ret (some y))
  (bnd (ret (decide (word = ("negative" : Str)))) fun b3 => sel b3
  (bnd (p_negative_first sizes_here lanes) fun y => ret (some y))
  (sel (decide (word = ("west" : Str))) (bnd (p_west_first sizes_here lanes) fun y => ret (some y)) (bnd (p_north_last sizes_here lanes) fun y => ret (some y)))))) (ret (none : (Option (List (List (List Int))))))
def l_shortest_fine (network_here : (Int × (List (Int × Int × Int)))) : Wp Bool :=
  bnd (noX (l_far network_here)) fun far_here_1 =>
  bnd (noX (p_shortest network_here)) fun told_here_2 =>
  bnd (ret network_here.1) fun n_3 =>
  bnd (grd (Rng n_3) (ret (span 0 (n_3).toNat))) fun l35 => forK (fun x4 (s5 : Unit) kc6 kb7 =>
  bnd (grd (Rng n_3) (ret (span 0 (n_3).toNat))) fun l34 => forK (fun x8 (s9 : Unit) kc10 kb11 =>
  bnd (bnd (grd (Rng (network_here.2.length : Int)) (ret (span 0 ((network_here.2.length : Int)).toNat))) fun l16 => lcG (fun c12 => (bnd (bnd (bnd (opt (atI network_here.2 c12)) fun x13 => ret x13.1) fun x14 => ret (decide (x14 = x4))) fun x15 => sel x15 (ret (!decide (x4 = x8))) (ret false))) (fun c12 => (ret c12)) l16) fun own_17 =>
  bnd (bnd (ret own_17) fun l29 => lcG (fun c18 => (bnd (bnd (bnd (opt (atI far_here_1 x4)) fun x19 => opt (atI x19 x8)) fun x20 => ret (decide (x20 < (900 : Int)))) fun x28 => sel x28 (bnd (bnd (bnd (bnd (opt (atI network_here.2 c18)) fun x21 => ret x21.2.1) fun x22 => opt (atI far_here_1 x22)) fun x23 => opt (atI x23 x8)) fun x26 => bnd (bnd (bnd (opt (atI far_here_1 x4)) fun x24 => opt (atI x24 x8)) fun x25 => ret (x25 - (1 : Int))) fun x27 => ret (decide (x26 = x27))) (ret false))) (fun c18 => (ret c18)) l29) fun due_30 =>
  bnd (bnd (bnd (opt (atI told_here_2 x4)) fun x31 => opt (atI x31 x8)) fun x32 => eqWN ((eT eI) x32) ((eT eI) due_30)) fun b33 => sel b33
  (ret false)
  (kc10 ())) (fun s9 : Unit =>
  kc6 ()) l34 ()) (fun s5 : Unit =>
  sel true (ret (decide ((told_here_2.length : Int) = n_3))) (ret false)) l35 ()
def law25 : Wp Bool :=
  bnd (bnd (bnd (noX (l_take (5 : Int))) fun x1 => opt (atI [(1 : Int), (2 : Int), (2 : Int), (2 : Int), (3 : Int)] x1)) fun x2 => noX (l_sizes25 x2)) fun sizes_here_3 =>
  bnd (bnd (noX (l_take (3 : Int))) fun x4 => ret ((1 : Int) + x4)) fun lanes_5 =>
  bnd (ret [("order" : Str), ("dateline" : Str), ("negative" : Str), ("west" : Str), ("north" : Str)]) fun l22 => forK (fun x6 (s7 : Unit) kc8 kb9 =>
  bnd (bnd (noX (l_table x6 sizes_here_3 lanes_5)) fun y => ret (some y)) fun due_10 =>
  letK (fun s14 : ((Option (List (List (List Int))))) =>
  bnd (bnd (noX (l_told25 x6 sizes_here_3 lanes_5)) fun x17 => eqWN ((eO (eT (eT (eT eI)))) x17) ((eO (eT (eT (eT eI)))) s14)) fun b18 => sel b18
  (ret false)
  (kc8 ())) fun k15 =>
  bnd (bnd (sel (decide (x6 = ("dateline" : Str))) (ret (decide (lanes_5 = (1 : Int)))) (ret false)) fun x12 => sel x12 (ret true) (bnd (inD (eS x6) (List.map eS [("west" : Str), ("north" : Str)])) fun x11 => sel x11 (ret (!decide ((sizes_here_3.length : Int) = (2 : Int)))) (ret false))) fun b13 => sel b13
  (bnd (ret (none : (Option (List (List (List Int)))))) fun due_16 =>
  k15 due_16)
  (k15 due_10)) (fun s7 : Unit =>
  bnd (bnd (noX (l_drawn_network (7 : Int) (16 : Int))) fun x19 => noX (l_shortest_fine x19)) fun x21 => sel x21 (bnd (noX (l_network sizes_here_3 lanes_5 true (2 : Int))) fun x20 => noX (l_shortest_fine x20)) (ret false)) l22 ()
end Cf
namespace Cf
open PySem PySem.Spec PyProof.Rows L2 WL GxR
def topS (i : Nat) : Stmt := PySem.Challenge.pw_calmfabric_k25_tables_of_known_forms.main.body.getD i (.Pass ⟨0, 0, 0, 0⟩)
abbrev s_p_nodes_next : Stmt := topS 1
abbrev s_p_distances_from : Stmt := topS 2
abbrev s_p_distances : Stmt := topS 3
abbrev s_p_is_numberI : Stmt := topS 14
abbrev s_p_made : Stmt := topS 15
abbrev s_p_nodes_of : Stmt := topS 16
abbrev s_p_node_at : Stmt := topS 17
abbrev s_p_place_of : Stmt := topS 18
abbrev s_p_stepped : Stmt := topS 19
abbrev s_p_mesh_links : Stmt := topS 20
abbrev s_p_mesh : Stmt := topS 21
abbrev s_p_torus : Stmt := topS 22
abbrev s_p_network_of : Stmt := topS 23
abbrev s_p_link_of : Stmt := topS 24
abbrev s_p_table_of : Stmt := topS 26
abbrev s_p_channels_from : Stmt := topS 27
abbrev s_p_Nearer_init : Stmt := inClass (topS 28) 0
abbrev s_p_Nearer_is_nearer : Stmt := inClass (topS 28) 1
abbrev s_p_Nearer_options : Stmt := inClass (topS 28) 2
abbrev s_p_shortest : Stmt := topS 29
abbrev s_p_Grid_init : Stmt := inClass (topS 30) 0
abbrev s_p_Grid_step : Stmt := inClass (topS 30) 1
abbrev s_p_Grid_is_useful : Stmt := inClass (topS 30) 2
abbrev s_p_Grid_useful : Stmt := inClass (topS 30) 3
abbrev s_p_first_other : Stmt := topS 31
abbrev s_p_InOrder_init : Stmt := inClass (topS 32) 0
abbrev s_p_InOrder_options : Stmt := inClass (topS 32) 1
abbrev s_p_dimension_order : Stmt := topS 33
abbrev s_p_dateline_choice : Stmt := topS 34
abbrev s_p_AcrossLines_init : Stmt := inClass (topS 35) 0
abbrev s_p_AcrossLines_options : Stmt := inClass (topS 35) 1
abbrev s_p_dateline : Stmt := topS 36
abbrev s_p_InTurn_init : Stmt := inClass (topS 37) 0
abbrev s_p_InTurn_is_first : Stmt := inClass (topS 37) 1
abbrev s_p_InTurn_options : Stmt := inClass (topS 37) 2
abbrev s_p_table_in_turn : Stmt := topS 38
abbrev s_p_negative_first : Stmt := topS 39
abbrev s_p_check_two : Stmt := topS 40
abbrev s_p_west_first : Stmt := topS 41
abbrev s_p_north_last : Stmt := topS 42
abbrev s_l_mix : Stmt := topS 44
abbrev s_l_tape : Stmt := topS 45
abbrev s_l_take : Stmt := topS 46
abbrev s_l_drawn_network : Stmt := topS 48
abbrev s_l_far : Stmt := topS 49
abbrev s_l_sizes25 : Stmt := topS 50
abbrev s_l_places : Stmt := topS 51
abbrev s_l_grid : Stmt := topS 52
abbrev s_l_network : Stmt := topS 53
abbrev s_l_dateline_fits : Stmt := topS 56
abbrev s_l_options25 : Stmt := topS 57
abbrev s_l_table : Stmt := topS 58
abbrev s_l_told25 : Stmt := topS 59
abbrev s_l_shortest_fine : Stmt := topS 60
abbrev s_law25 : Stmt := topS 61
abbrev nn_p_nodes_next : List Str := ["network", "n", "channels", "_", "found", "source", "target"]
theorem sc_p_nodes_next : FnScope ["network", "n", "channels", "_", "found", "source", "target"] ["network"] (defScope s_p_nodes_next) := ⟨rfl, rfl, rfl, by decide +kernel, rfl, by decide +kernel, by decide +kernel⟩
abbrev nn_p_distances_from : List Str := ["beside", "u", "found", "todo", "later", "node", "other"]
theorem sc_p_distances_from : FnScope ["beside", "u", "found", "todo", "later", "node", "other"] ["beside", "u"] (defScope s_p_distances_from) := ⟨rfl, rfl, rfl, by decide +kernel, rfl, by decide +kernel, by decide +kernel⟩
abbrev nn_p_distances : List Str := ["network", "beside", "u"]
theorem sc_p_distances : FnScope ["network", "beside", "u"] ["network"] (defScope s_p_distances) := ⟨rfl, rfl, rfl, by decide +kernel, rfl, by decide +kernel, by decide +kernel⟩
abbrev nn_p_is_numberI : List Str := ["value", "least", "most"]
theorem sc_p_is_numberI : FnScope ["value", "least", "most"] ["value", "least", "most"] (defScope s_p_is_numberI) := ⟨rfl, rfl, rfl, by decide +kernel, rfl, by decide +kernel, by decide +kernel⟩
abbrev nn_p_made : List Str := ["n", "links"]
theorem sc_p_made : FnScope ["n", "links"] ["n", "links"] (defScope s_p_made) := ⟨rfl, rfl, rfl, by decide +kernel, rfl, by decide +kernel, by decide +kernel⟩
abbrev nn_p_nodes_of : List Str := ["sizes", "size", "product"]
theorem sc_p_nodes_of : FnScope ["sizes", "size", "product"] ["sizes"] (defScope s_p_nodes_of) := ⟨rfl, rfl, rfl, by decide +kernel, rfl, by decide +kernel, by decide +kernel⟩
abbrev nn_p_node_at : List Str := ["sizes", "place", "node", "size", "coordinate"]
theorem sc_p_node_at : FnScope ["sizes", "place", "node", "size", "coordinate"] ["sizes", "place"] (defScope s_p_node_at) := ⟨rfl, rfl, rfl, by decide +kernel, rfl, by decide +kernel, by decide +kernel⟩
abbrev nn_p_place_of : List Str := ["sizes", "node", "place", "size"]
theorem sc_p_place_of : FnScope ["sizes", "node", "place", "size"] ["sizes", "node"] (defScope s_p_place_of) := ⟨rfl, rfl, rfl, by decide +kernel, rfl, by decide +kernel, by decide +kernel⟩
abbrev nn_p_stepped : List Str := ["place", "at", "by"]
theorem sc_p_stepped : FnScope ["place", "at", "by"] ["place", "at", "by"] (defScope s_p_stepped) := ⟨rfl, rfl, rfl, by decide +kernel, rfl, by decide +kernel, by decide +kernel⟩
abbrev nn_p_mesh_links : List Str := ["sizes", "wraps", "links", "node", "place", "at", "size"]
theorem sc_p_mesh_links : FnScope ["sizes", "wraps", "links", "node", "place", "at", "size"] ["sizes", "wraps"] (defScope s_p_mesh_links) := ⟨rfl, rfl, rfl, by decide +kernel, rfl, by decide +kernel, by decide +kernel⟩
abbrev nn_p_mesh : List Str := ["sizes"]
theorem sc_p_mesh : FnScope ["sizes"] ["sizes"] (defScope s_p_mesh) := ⟨rfl, rfl, rfl, by decide +kernel, rfl, by decide +kernel, by decide +kernel⟩
abbrev nn_p_torus : List Str := ["sizes"]
theorem sc_p_torus : FnScope ["sizes"] ["sizes"] (defScope s_p_torus) := ⟨rfl, rfl, rfl, by decide +kernel, rfl, by decide +kernel, by decide +kernel⟩
abbrev nn_p_network_of : List Str := ["frame", "lanes", "room", "n", "links", "channels", "u", "v"]
theorem sc_p_network_of : FnScope ["frame", "lanes", "room", "n", "links", "channels", "u", "v"] ["frame", "lanes", "room"] (defScope s_p_network_of) := ⟨rfl, rfl, rfl, by decide +kernel, rfl, by decide +kernel, by decide +kernel⟩
abbrev nn_p_link_of : List Str := ["lanes", "c", "link", "rest"]
theorem sc_p_link_of : FnScope ["lanes", "c", "link", "rest"] ["lanes", "c"] (defScope s_p_link_of) := ⟨rfl, rfl, rfl, by decide +kernel, rfl, by decide +kernel, by decide +kernel⟩
abbrev nn_p_table_of : List Str := ["network", "chooser", "rows", "u", "d"]
theorem sc_p_table_of : FnScope ["network", "chooser", "rows", "u", "d"] ["network", "chooser"] (defScope s_p_table_of) := ⟨rfl, rfl, rfl, by decide +kernel, rfl, by decide +kernel, by decide +kernel⟩
abbrev nn_p_channels_from : List Str := ["network", "u", "c"]
theorem sc_p_channels_from : FnScope ["network", "u", "c"] ["network", "u"] (defScope s_p_channels_from) := ⟨rfl, rfl, rfl, by decide +kernel, rfl, by decide +kernel, by decide +kernel⟩
abbrev nn_p_Nearer_init : List Str := ["self", "network"]
theorem sc_p_Nearer_init : FnScope ["self", "network"] ["self", "network"] (defScope s_p_Nearer_init) := ⟨rfl, rfl, rfl, by decide +kernel, rfl, by decide +kernel, by decide +kernel⟩
abbrev nn_p_Nearer_is_nearer : List Str := ["self", "u", "d", "c", "here", "there"]
theorem sc_p_Nearer_is_nearer : FnScope ["self", "u", "d", "c", "here", "there"] ["self", "u", "d", "c"] (defScope s_p_Nearer_is_nearer) := ⟨rfl, rfl, rfl, by decide +kernel, rfl, by decide +kernel, by decide +kernel⟩
abbrev nn_p_Nearer_options : List Str := ["self", "u", "d", "c"]
theorem sc_p_Nearer_options : FnScope ["self", "u", "d", "c"] ["self", "u", "d"] (defScope s_p_Nearer_options) := ⟨rfl, rfl, rfl, by decide +kernel, rfl, by decide +kernel, by decide +kernel⟩
abbrev nn_p_shortest : List Str := ["network"]
theorem sc_p_shortest : FnScope ["network"] ["network"] (defScope s_p_shortest) := ⟨rfl, rfl, rfl, by decide +kernel, rfl, by decide +kernel, by decide +kernel⟩
abbrev nn_p_Grid_init : List Str := ["self", "sizes", "lanes", "wraps", "node"]
theorem sc_p_Grid_init : FnScope ["self", "sizes", "lanes", "wraps", "node"] ["self", "sizes", "lanes", "wraps"] (defScope s_p_Grid_init) := ⟨rfl, rfl, rfl, by decide +kernel, rfl, by decide +kernel, by decide +kernel⟩
abbrev nn_p_Grid_step : List Str := ["self", "c", "source", "target", "_", "one", "other", "at"]
theorem sc_p_Grid_step : FnScope ["self", "c", "source", "target", "_", "one", "other", "at"] ["self", "c"] (defScope s_p_Grid_step) := ⟨rfl, rfl, rfl, by decide +kernel, rfl, by decide +kernel, by decide +kernel⟩
abbrev nn_p_Grid_is_useful : List Str := ["self", "u", "d", "c", "at", "by", "left"]
theorem sc_p_Grid_is_useful : FnScope ["self", "u", "d", "c", "at", "by", "left"] ["self", "u", "d", "c"] (defScope s_p_Grid_is_useful) := ⟨rfl, rfl, rfl, by decide +kernel, rfl, by decide +kernel, by decide +kernel⟩
abbrev nn_p_Grid_useful : List Str := ["self", "u", "d", "c"]
theorem sc_p_Grid_useful : FnScope ["self", "u", "d", "c"] ["self", "u", "d"] (defScope s_p_Grid_useful) := ⟨rfl, rfl, rfl, by decide +kernel, rfl, by decide +kernel, by decide +kernel⟩
abbrev nn_p_first_other : List Str := ["one", "other", "at"]
theorem sc_p_first_other : FnScope ["one", "other", "at"] ["one", "other"] (defScope s_p_first_other) := ⟨rfl, rfl, rfl, by decide +kernel, rfl, by decide +kernel, by decide +kernel⟩
abbrev nn_p_InOrder_init : List Str := ["self", "grid"]
theorem sc_p_InOrder_init : FnScope ["self", "grid"] ["self", "grid"] (defScope s_p_InOrder_init) := ⟨rfl, rfl, rfl, by decide +kernel, rfl, by decide +kernel, by decide +kernel⟩
abbrev nn_p_InOrder_options : List Str := ["self", "u", "d", "grid", "at", "useful", "c"]
theorem sc_p_InOrder_options : FnScope ["self", "u", "d", "grid", "at", "useful", "c"] ["self", "u", "d"] (defScope s_p_InOrder_options) := ⟨rfl, rfl, rfl, by decide +kernel, rfl, by decide +kernel, by decide +kernel⟩
abbrev nn_p_dimension_order : List Str := ["sizes", "lanes", "grid"]
theorem sc_p_dimension_order : FnScope ["sizes", "lanes", "grid"] ["sizes", "lanes"] (defScope s_p_dimension_order) := ⟨rfl, rfl, rfl, by decide +kernel, rfl, by decide +kernel, by decide +kernel⟩
abbrev nn_p_dateline_choice : List Str := ["size", "x", "t"]
theorem sc_p_dateline_choice : FnScope ["size", "x", "t"] ["size", "x", "t"] (defScope s_p_dateline_choice) := ⟨rfl, rfl, rfl, by decide +kernel, rfl, by decide +kernel, by decide +kernel⟩
abbrev nn_p_AcrossLines_init : List Str := ["self", "grid"]
theorem sc_p_AcrossLines_init : FnScope ["self", "grid"] ["self", "grid"] (defScope s_p_AcrossLines_init) := ⟨rfl, rfl, rfl, by decide +kernel, rfl, by decide +kernel, by decide +kernel⟩
abbrev nn_p_AcrossLines_options : List Str := ["self", "u", "d", "grid", "here", "there", "at", "by", "lane", "own", "c"]
theorem sc_p_AcrossLines_options : FnScope ["self", "u", "d", "grid", "here", "there", "at", "by", "lane", "own", "c"] ["self", "u", "d"] (defScope s_p_AcrossLines_options) := ⟨rfl, rfl, rfl, by decide +kernel, rfl, by decide +kernel, by decide +kernel⟩
abbrev nn_p_dateline : List Str := ["sizes", "lanes", "grid"]
theorem sc_p_dateline : FnScope ["sizes", "lanes", "grid"] ["sizes", "lanes"] (defScope s_p_dateline) := ⟨rfl, rfl, rfl, by decide +kernel, rfl, by decide +kernel, by decide +kernel⟩
abbrev nn_p_InTurn_init : List Str := ["self", "grid", "kind"]
theorem sc_p_InTurn_init : FnScope ["self", "grid", "kind"] ["self", "grid", "kind"] (defScope s_p_InTurn_init) := ⟨rfl, rfl, rfl, by decide +kernel, rfl, by decide +kernel, by decide +kernel⟩
abbrev nn_p_InTurn_is_first : List Str := ["self", "step"]
theorem sc_p_InTurn_is_first : FnScope ["self", "step"] ["self", "step"] (defScope s_p_InTurn_is_first) := ⟨rfl, rfl, rfl, by decide +kernel, rfl, by decide +kernel, by decide +kernel⟩
abbrev nn_p_InTurn_options : List Str := ["self", "u", "d", "own", "first", "c"]
theorem sc_p_InTurn_options : FnScope ["self", "u", "d", "own", "first", "c"] ["self", "u", "d"] (defScope s_p_InTurn_options) := ⟨rfl, rfl, rfl, by decide +kernel, rfl, by decide +kernel, by decide +kernel⟩
abbrev nn_p_table_in_turn : List Str := ["sizes", "lanes", "kind", "grid"]
theorem sc_p_table_in_turn : FnScope ["sizes", "lanes", "kind", "grid"] ["sizes", "lanes", "kind"] (defScope s_p_table_in_turn) := ⟨rfl, rfl, rfl, by decide +kernel, rfl, by decide +kernel, by decide +kernel⟩
abbrev nn_p_negative_first : List Str := ["sizes", "lanes"]
theorem sc_p_negative_first : FnScope ["sizes", "lanes"] ["sizes", "lanes"] (defScope s_p_negative_first) := ⟨rfl, rfl, rfl, by decide +kernel, rfl, by decide +kernel, by decide +kernel⟩
abbrev nn_p_check_two : List Str := ["sizes"]
theorem sc_p_check_two : FnScope ["sizes"] ["sizes"] (defScope s_p_check_two) := ⟨rfl, rfl, rfl, by decide +kernel, rfl, by decide +kernel, by decide +kernel⟩
abbrev nn_p_west_first : List Str := ["sizes", "lanes"]
theorem sc_p_west_first : FnScope ["sizes", "lanes"] ["sizes", "lanes"] (defScope s_p_west_first) := ⟨rfl, rfl, rfl, by decide +kernel, rfl, by decide +kernel, by decide +kernel⟩
abbrev nn_p_north_last : List Str := ["sizes", "lanes"]
theorem sc_p_north_last : FnScope ["sizes", "lanes"] ["sizes", "lanes"] (defScope s_p_north_last) := ⟨rfl, rfl, rfl, by decide +kernel, rfl, by decide +kernel, by decide +kernel⟩
abbrev nn_l_mix : List Str := ["_law_number"]
theorem sc_l_mix : FnScope ["_law_number"] ["_law_number"] (defScope s_l_mix) := ⟨rfl, rfl, rfl, by decide +kernel, rfl, by decide +kernel, by decide +kernel⟩
theorem sc_l_tape : FnScope ["_law_script", "_law_budget"] ["_law_script", "_law_budget"] (defScope s_l_tape) := ⟨rfl, rfl, rfl, by decide +kernel, rfl, by decide +kernel, by decide +kernel⟩
theorem sc_l_take : FnScope ["_law_tape_here", "_law_many", "_law_cell", "_law_digit"] ["_law_tape_here", "_law_many"] (defScope s_l_take) := ⟨rfl, rfl, rfl, by decide +kernel, rfl, by decide +kernel, by decide +kernel⟩
abbrev nn_l_drawn_network : List Str := ["_law_tape_here", "_law_most", "_law_channels", "_law_n", "_law_found", "_law_k", "_law_source", "_law_target"]
theorem sc_l_drawn_network : FnScope ["_law_tape_here", "_law_most", "_law_channels", "_law_n", "_law_found", "_law_k", "_law_source", "_law_target"] ["_law_tape_here", "_law_most", "_law_channels"] (defScope s_l_drawn_network) := ⟨rfl, rfl, rfl, by decide +kernel, rfl, by decide +kernel, by decide +kernel⟩
abbrev nn_l_far : List Str := ["_law_network_here", "_law_n", "_law_u", "_law_d", "_law_far_here", "_law_source", "_law_target", "_law_room", "_law_row", "_law_k"]
theorem sc_l_far : FnScope ["_law_network_here", "_law_n", "_law_u", "_law_d", "_law_far_here", "_law_source", "_law_target", "_law_room", "_law_row", "_law_k"] ["_law_network_here"] (defScope s_l_far) := ⟨rfl, rfl, rfl, by decide +kernel, rfl, by decide +kernel, by decide +kernel⟩
abbrev nn_l_sizes25 : List Str := ["_law_tape_here", "_law_many", "_law_most", "_law_sizes_here", "_law_k"]
theorem sc_l_sizes25 : FnScope ["_law_tape_here", "_law_many", "_law_most", "_law_sizes_here", "_law_k"] ["_law_tape_here", "_law_many"] (defScope s_l_sizes25) := ⟨rfl, rfl, rfl, by decide +kernel, rfl, by decide +kernel, by decide +kernel⟩
abbrev nn_l_places : List Str := ["_law_sizes_here", "_law_found", "_law_size", "_law_longer", "_law_place", "_law_x"]
theorem sc_l_places : FnScope ["_law_sizes_here", "_law_found", "_law_size", "_law_longer", "_law_place", "_law_x"] ["_law_sizes_here"] (defScope s_l_places) := ⟨rfl, rfl, rfl, by decide +kernel, rfl, by decide +kernel, by decide +kernel⟩
abbrev nn_l_grid : List Str := ["_law_sizes_here", "_law_lanes", "_law_wraps", "_law_places_here", "_law_found", "_law_u", "_law_v", "_law_apart", "_law_far_here", "_law_by", "_law_at", "_law_lane"]
theorem sc_l_grid : FnScope ["_law_sizes_here", "_law_lanes", "_law_wraps", "_law_places_here", "_law_found", "_law_u", "_law_v", "_law_apart", "_law_far_here", "_law_by", "_law_at", "_law_lane"] ["_law_sizes_here", "_law_lanes", "_law_wraps"] (defScope s_l_grid) := ⟨rfl, rfl, rfl, by decide +kernel, rfl, by decide +kernel, by decide +kernel⟩
abbrev nn_l_network : List Str := ["_law_sizes_here", "_law_lanes", "_law_wraps", "_law_room", "_law_row"]
theorem sc_l_network : FnScope ["_law_sizes_here", "_law_lanes", "_law_wraps", "_law_room", "_law_row"] ["_law_sizes_here", "_law_lanes", "_law_wraps", "_law_room"] (defScope s_l_network) := ⟨rfl, rfl, rfl, by decide +kernel, rfl, by decide +kernel, by decide +kernel⟩
abbrev nn_l_dateline_fits : List Str := ["_law_sizes_here", "_law_here", "_law_there", "_law_row", "_law_at", "_law_x", "_law_t", "_law_size", "_law_k"]
theorem sc_l_dateline_fits : FnScope ["_law_sizes_here", "_law_here", "_law_there", "_law_row", "_law_at", "_law_x", "_law_t", "_law_size", "_law_k"] ["_law_sizes_here", "_law_here", "_law_there", "_law_row"] (defScope s_l_dateline_fits) := ⟨rfl, rfl, rfl, by decide +kernel, rfl, by decide +kernel, by decide +kernel⟩
abbrev nn_l_options25 : List Str := ["_law_word", "_law_sizes_here", "_law_rows", "_law_places_here", "_law_u", "_law_d", "_law_here", "_law_there", "_law_own", "_law_useful", "_law_at", "_law_first", "_law_c", "_law_k"]
theorem sc_l_options25 : FnScope ["_law_word", "_law_sizes_here", "_law_rows", "_law_places_here", "_law_u", "_law_d", "_law_here", "_law_there", "_law_own", "_law_useful", "_law_at", "_law_first", "_law_c", "_law_k"] ["_law_word", "_law_sizes_here", "_law_rows", "_law_places_here", "_law_u", "_law_d"] (defScope s_l_options25) := ⟨rfl, rfl, rfl, by decide +kernel, rfl, by decide +kernel, by decide +kernel⟩
abbrev nn_l_table : List Str := ["_law_word", "_law_sizes_here", "_law_lanes", "_law_rows", "_law_places_here", "_law_n", "_law_u", "_law_d"]
theorem sc_l_table : FnScope ["_law_word", "_law_sizes_here", "_law_lanes", "_law_rows", "_law_places_here", "_law_n", "_law_u", "_law_d"] ["_law_word", "_law_sizes_here", "_law_lanes"] (defScope s_l_table) := ⟨rfl, rfl, rfl, by decide +kernel, rfl, by decide +kernel, by decide +kernel⟩
abbrev nn_l_told25 : List Str := ["_law_word", "_law_sizes_here", "_law_lanes"]
theorem sc_l_told25 : FnScope ["_law_word", "_law_sizes_here", "_law_lanes"] ["_law_word", "_law_sizes_here", "_law_lanes"] (defScope s_l_told25) := ⟨rfl, rfl, rfl, by decide +kernel, rfl, by decide +kernel, by decide +kernel⟩
abbrev nn_l_shortest_fine : List Str := ["_law_network_here", "_law_far_here", "_law_told_here", "_law_n", "_law_u", "_law_d", "_law_own", "_law_due", "_law_c"]
theorem sc_l_shortest_fine : FnScope ["_law_network_here", "_law_far_here", "_law_told_here", "_law_n", "_law_u", "_law_d", "_law_own", "_law_due", "_law_c"] ["_law_network_here"] (defScope s_l_shortest_fine) := ⟨rfl, rfl, rfl, by decide +kernel, rfl, by decide +kernel, by decide +kernel⟩
theorem sc_law25 : FnScope ["_law_script", "_law_tape_here", "_law_sizes_here", "_law_lanes", "_law_word", "_law_due"] ["_law_script"] (defScope s_law25) := ⟨rfl, rfl, rfl, by decide +kernel, rfl, by decide +kernel, by decide +kernel⟩
/-! what the top has written -/
set_option maxHeartbeats 0 in
structure Tx (K : PySem.W.Frag) [Tbs K] (mg : Str → Option Value) (base : Heap) where
  Ps : List Addr
  tba : ∀ t, (∀ P ∈ Ps, HasTab P t) → tbOf K (some t)
  o_Nearer : Addr
  o_Grid : Addr
  o_InOrder : Addr
  o_AcrossLines : Addr
  o_InTurn : Addr
  f_p_nodes_next : Addr
  d_p_nodes_next : FuncData
  F_p_nodes_next : Fun K "nodes_next" "nodes_next" s_p_nodes_next f_p_nodes_next d_p_nodes_next
  b_p_nodes_next : Binds K d_p_nodes_next ["network"] []
  g_p_nodes_next : mg "nodes_next" = some (.ref f_p_nodes_next)
  f_p_distances_from : Addr
  d_p_distances_from : FuncData
  F_p_distances_from : Fun K "distances_from" "distances_from" s_p_distances_from f_p_distances_from d_p_distances_from
  b_p_distances_from : Binds K d_p_distances_from ["beside", "u"] []
  g_p_distances_from : mg "distances_from" = some (.ref f_p_distances_from)
  f_p_distances : Addr
  d_p_distances : FuncData
  F_p_distances : Fun K "distances" "distances" s_p_distances f_p_distances d_p_distances
  b_p_distances : Binds K d_p_distances ["network"] []
  g_p_distances : mg "distances" = some (.ref f_p_distances)
  f_p_is_numberI : Addr
  d_p_is_numberI : FuncData
  F_p_is_numberI : Fun K "is_number" "is_number" s_p_is_numberI f_p_is_numberI d_p_is_numberI
  b_p_is_numberI : Binds K d_p_is_numberI ["value", "least", "most"] []
  g_p_is_numberI : mg "is_number" = some (.ref f_p_is_numberI)
  f_p_made : Addr
  d_p_made : FuncData
  F_p_made : Fun K "made" "made" s_p_made f_p_made d_p_made
  b_p_made : Binds K d_p_made ["n", "links"] []
  g_p_made : mg "made" = some (.ref f_p_made)
  f_p_nodes_of : Addr
  d_p_nodes_of : FuncData
  F_p_nodes_of : Fun K "nodes_of" "nodes_of" s_p_nodes_of f_p_nodes_of d_p_nodes_of
  b_p_nodes_of : Binds K d_p_nodes_of ["sizes"] []
  g_p_nodes_of : mg "nodes_of" = some (.ref f_p_nodes_of)
  f_p_node_at : Addr
  d_p_node_at : FuncData
  F_p_node_at : Fun K "node_at" "node_at" s_p_node_at f_p_node_at d_p_node_at
  b_p_node_at : Binds K d_p_node_at ["sizes", "place"] []
  g_p_node_at : mg "node_at" = some (.ref f_p_node_at)
  f_p_place_of : Addr
  d_p_place_of : FuncData
  F_p_place_of : Fun K "place_of" "place_of" s_p_place_of f_p_place_of d_p_place_of
  b_p_place_of : Binds K d_p_place_of ["sizes", "node"] []
  g_p_place_of : mg "place_of" = some (.ref f_p_place_of)
  f_p_stepped : Addr
  d_p_stepped : FuncData
  F_p_stepped : Fun K "stepped" "stepped" s_p_stepped f_p_stepped d_p_stepped
  b_p_stepped : Binds K d_p_stepped ["place", "at", "by"] []
  g_p_stepped : mg "stepped" = some (.ref f_p_stepped)
  f_p_mesh_links : Addr
  d_p_mesh_links : FuncData
  F_p_mesh_links : Fun K "mesh_links" "mesh_links" s_p_mesh_links f_p_mesh_links d_p_mesh_links
  b_p_mesh_links : Binds K d_p_mesh_links ["sizes", "wraps"] []
  g_p_mesh_links : mg "mesh_links" = some (.ref f_p_mesh_links)
  f_p_mesh : Addr
  d_p_mesh : FuncData
  F_p_mesh : Fun K "mesh" "mesh" s_p_mesh f_p_mesh d_p_mesh
  b_p_mesh : Binds K d_p_mesh ["sizes"] []
  g_p_mesh : mg "mesh" = some (.ref f_p_mesh)
  f_p_torus : Addr
  d_p_torus : FuncData
  F_p_torus : Fun K "torus" "torus" s_p_torus f_p_torus d_p_torus
  b_p_torus : Binds K d_p_torus ["sizes"] []
  g_p_torus : mg "torus" = some (.ref f_p_torus)
  f_p_network_of : Addr
  d_p_network_of : FuncData
  F_p_network_of : Fun K "network_of" "network_of" s_p_network_of f_p_network_of d_p_network_of
  b_p_network_of : Binds K d_p_network_of ["frame", "lanes", "room"] []
  g_p_network_of : mg "network_of" = some (.ref f_p_network_of)
  f_p_link_of : Addr
  d_p_link_of : FuncData
  F_p_link_of : Fun K "link_of" "link_of" s_p_link_of f_p_link_of d_p_link_of
  b_p_link_of : Binds K d_p_link_of ["lanes", "c"] []
  g_p_link_of : mg "link_of" = some (.ref f_p_link_of)
  f_p_table_of : Addr
  d_p_table_of : FuncData
  F_p_table_of : Fun K "table_of" "table_of" s_p_table_of f_p_table_of d_p_table_of
  b_p_table_of : Binds K d_p_table_of ["network", "chooser"] []
  g_p_table_of : mg "table_of" = some (.ref f_p_table_of)
  f_p_channels_from : Addr
  d_p_channels_from : FuncData
  F_p_channels_from : Fun K "channels_from" "channels_from" s_p_channels_from f_p_channels_from d_p_channels_from
  b_p_channels_from : Binds K d_p_channels_from ["network", "u"] []
  g_p_channels_from : mg "channels_from" = some (.ref f_p_channels_from)
  f_p_Nearer_init : Addr
  d_p_Nearer_init : FuncData
  F_p_Nearer_init : Fun K "__init__" "Nearer.__init__" s_p_Nearer_init f_p_Nearer_init d_p_Nearer_init
  b_p_Nearer_init : Binds K d_p_Nearer_init ["self", "network"] []
  f_p_Nearer_is_nearer : Addr
  d_p_Nearer_is_nearer : FuncData
  F_p_Nearer_is_nearer : Fun K "is_nearer" "Nearer.is_nearer" s_p_Nearer_is_nearer f_p_Nearer_is_nearer d_p_Nearer_is_nearer
  b_p_Nearer_is_nearer : Binds K d_p_Nearer_is_nearer ["self", "u", "d", "c"] []
  f_p_Nearer_options : Addr
  d_p_Nearer_options : FuncData
  F_p_Nearer_options : Fun K "options" "Nearer.options" s_p_Nearer_options f_p_Nearer_options d_p_Nearer_options
  b_p_Nearer_options : Binds K d_p_Nearer_options ["self", "u", "d"] []
  f_p_shortest : Addr
  d_p_shortest : FuncData
  F_p_shortest : Fun K "shortest" "shortest" s_p_shortest f_p_shortest d_p_shortest
  b_p_shortest : Binds K d_p_shortest ["network"] []
  g_p_shortest : mg "shortest" = some (.ref f_p_shortest)
  f_p_Grid_init : Addr
  d_p_Grid_init : FuncData
  F_p_Grid_init : Fun K "__init__" "Grid.__init__" s_p_Grid_init f_p_Grid_init d_p_Grid_init
  b_p_Grid_init : Binds K d_p_Grid_init ["self", "sizes", "lanes", "wraps"] []
  f_p_Grid_step : Addr
  d_p_Grid_step : FuncData
  F_p_Grid_step : Fun K "step" "Grid.step" s_p_Grid_step f_p_Grid_step d_p_Grid_step
  b_p_Grid_step : Binds K d_p_Grid_step ["self", "c"] []
  f_p_Grid_is_useful : Addr
  d_p_Grid_is_useful : FuncData
  F_p_Grid_is_useful : Fun K "is_useful" "Grid.is_useful" s_p_Grid_is_useful f_p_Grid_is_useful d_p_Grid_is_useful
  b_p_Grid_is_useful : Binds K d_p_Grid_is_useful ["self", "u", "d", "c"] []
  f_p_Grid_useful : Addr
  d_p_Grid_useful : FuncData
  F_p_Grid_useful : Fun K "useful" "Grid.useful" s_p_Grid_useful f_p_Grid_useful d_p_Grid_useful
  b_p_Grid_useful : Binds K d_p_Grid_useful ["self", "u", "d"] []
  f_p_first_other : Addr
  d_p_first_other : FuncData
  F_p_first_other : Fun K "first_other" "first_other" s_p_first_other f_p_first_other d_p_first_other
  b_p_first_other : Binds K d_p_first_other ["one", "other"] []
  g_p_first_other : mg "first_other" = some (.ref f_p_first_other)
  f_p_InOrder_init : Addr
  d_p_InOrder_init : FuncData
  F_p_InOrder_init : Fun K "__init__" "InOrder.__init__" s_p_InOrder_init f_p_InOrder_init d_p_InOrder_init
  b_p_InOrder_init : Binds K d_p_InOrder_init ["self", "grid"] []
  f_p_InOrder_options : Addr
  d_p_InOrder_options : FuncData
  F_p_InOrder_options : Fun K "options" "InOrder.options" s_p_InOrder_options f_p_InOrder_options d_p_InOrder_options
  b_p_InOrder_options : Binds K d_p_InOrder_options ["self", "u", "d"] []
  f_p_dimension_order : Addr
  d_p_dimension_order : FuncData
  F_p_dimension_order : Fun K "dimension_order" "dimension_order" s_p_dimension_order f_p_dimension_order d_p_dimension_order
  b_p_dimension_order : Binds K d_p_dimension_order ["sizes", "lanes"] []
  g_p_dimension_order : mg "dimension_order" = some (.ref f_p_dimension_order)
  f_p_dateline_choice : Addr
  d_p_dateline_choice : FuncData
  F_p_dateline_choice : Fun K "dateline_choice" "dateline_choice" s_p_dateline_choice f_p_dateline_choice d_p_dateline_choice
  b_p_dateline_choice : Binds K d_p_dateline_choice ["size", "x", "t"] []
  g_p_dateline_choice : mg "dateline_choice" = some (.ref f_p_dateline_choice)
  f_p_AcrossLines_init : Addr
  d_p_AcrossLines_init : FuncData
  F_p_AcrossLines_init : Fun K "__init__" "AcrossLines.__init__" s_p_AcrossLines_init f_p_AcrossLines_init d_p_AcrossLines_init
  b_p_AcrossLines_init : Binds K d_p_AcrossLines_init ["self", "grid"] []
  f_p_AcrossLines_options : Addr
  d_p_AcrossLines_options : FuncData
  F_p_AcrossLines_options : Fun K "options" "AcrossLines.options" s_p_AcrossLines_options f_p_AcrossLines_options d_p_AcrossLines_options
  b_p_AcrossLines_options : Binds K d_p_AcrossLines_options ["self", "u", "d"] []
  f_p_dateline : Addr
  d_p_dateline : FuncData
  F_p_dateline : Fun K "dateline" "dateline" s_p_dateline f_p_dateline d_p_dateline
  b_p_dateline : Binds K d_p_dateline ["sizes", "lanes"] []
  g_p_dateline : mg "dateline" = some (.ref f_p_dateline)
  f_p_InTurn_init : Addr
  d_p_InTurn_init : FuncData
  F_p_InTurn_init : Fun K "__init__" "InTurn.__init__" s_p_InTurn_init f_p_InTurn_init d_p_InTurn_init
  b_p_InTurn_init : Binds K d_p_InTurn_init ["self", "grid", "kind"] []
  f_p_InTurn_is_first : Addr
  d_p_InTurn_is_first : FuncData
  F_p_InTurn_is_first : Fun K "is_first" "InTurn.is_first" s_p_InTurn_is_first f_p_InTurn_is_first d_p_InTurn_is_first
  b_p_InTurn_is_first : Binds K d_p_InTurn_is_first ["self", "step"] []
  f_p_InTurn_options : Addr
  d_p_InTurn_options : FuncData
  F_p_InTurn_options : Fun K "options" "InTurn.options" s_p_InTurn_options f_p_InTurn_options d_p_InTurn_options
  b_p_InTurn_options : Binds K d_p_InTurn_options ["self", "u", "d"] []
  f_p_table_in_turn : Addr
  d_p_table_in_turn : FuncData
  F_p_table_in_turn : Fun K "table_in_turn" "table_in_turn" s_p_table_in_turn f_p_table_in_turn d_p_table_in_turn
  b_p_table_in_turn : Binds K d_p_table_in_turn ["sizes", "lanes", "kind"] []
  g_p_table_in_turn : mg "table_in_turn" = some (.ref f_p_table_in_turn)
  f_p_negative_first : Addr
  d_p_negative_first : FuncData
  F_p_negative_first : Fun K "negative_first" "negative_first" s_p_negative_first f_p_negative_first d_p_negative_first
  b_p_negative_first : Binds K d_p_negative_first ["sizes", "lanes"] []
  g_p_negative_first : mg "negative_first" = some (.ref f_p_negative_first)
  f_p_check_two : Addr
  d_p_check_two : FuncData
  F_p_check_two : Fun K "check_two" "check_two" s_p_check_two f_p_check_two d_p_check_two
  b_p_check_two : Binds K d_p_check_two ["sizes"] []
  g_p_check_two : mg "check_two" = some (.ref f_p_check_two)
  f_p_west_first : Addr
  d_p_west_first : FuncData
  F_p_west_first : Fun K "west_first" "west_first" s_p_west_first f_p_west_first d_p_west_first
  b_p_west_first : Binds K d_p_west_first ["sizes", "lanes"] []
  g_p_west_first : mg "west_first" = some (.ref f_p_west_first)
  f_p_north_last : Addr
  d_p_north_last : FuncData
  F_p_north_last : Fun K "north_last" "north_last" s_p_north_last f_p_north_last d_p_north_last
  b_p_north_last : Binds K d_p_north_last ["sizes", "lanes"] []
  g_p_north_last : mg "north_last" = some (.ref f_p_north_last)
  f_l_mix : Addr
  d_l_mix : FuncData
  F_l_mix : Fun K "_law_mix" "_law_mix" s_l_mix f_l_mix d_l_mix
  b_l_mix : Binds K d_l_mix ["_law_number"] []
  g_l_mix : mg "_law_mix" = some (.ref f_l_mix)
  f_l_tape : Addr
  d_l_tape : FuncData
  F_l_tape : Fun K "_law_tape" "_law_tape" s_l_tape f_l_tape d_l_tape
  b_l_tape : Binds K d_l_tape ["_law_script", "_law_budget"] []
  g_l_tape : mg "_law_tape" = some (.ref f_l_tape)
  f_l_take : Addr
  d_l_take : FuncData
  F_l_take : Fun K "_law_take" "_law_take" s_l_take f_l_take d_l_take
  b_l_take : Binds K d_l_take ["_law_tape_here", "_law_many"] []
  g_l_take : mg "_law_take" = some (.ref f_l_take)
  f_l_drawn_network : Addr
  d_l_drawn_network : FuncData
  F_l_drawn_network : Fun K "_law_drawn_network" "_law_drawn_network" s_l_drawn_network f_l_drawn_network d_l_drawn_network
  b_l_drawn_network : Binds K d_l_drawn_network ["_law_tape_here", "_law_most", "_law_channels"] []
  g_l_drawn_network : mg "_law_drawn_network" = some (.ref f_l_drawn_network)
  f_l_far : Addr
  d_l_far : FuncData
  F_l_far : Fun K "_law_far" "_law_far" s_l_far f_l_far d_l_far
  b_l_far : Binds K d_l_far ["_law_network_here"] []
  g_l_far : mg "_law_far" = some (.ref f_l_far)
  f_l_sizes25 : Addr
  d_l_sizes25 : FuncData
  F_l_sizes25 : Fun K "_law_sizes" "_law_sizes" s_l_sizes25 f_l_sizes25 d_l_sizes25
  b_l_sizes25 : Binds K d_l_sizes25 ["_law_tape_here", "_law_many"] []
  g_l_sizes25 : mg "_law_sizes" = some (.ref f_l_sizes25)
  f_l_places : Addr
  d_l_places : FuncData
  F_l_places : Fun K "_law_places" "_law_places" s_l_places f_l_places d_l_places
  b_l_places : Binds K d_l_places ["_law_sizes_here"] []
  g_l_places : mg "_law_places" = some (.ref f_l_places)
  f_l_grid : Addr
  d_l_grid : FuncData
  F_l_grid : Fun K "_law_grid" "_law_grid" s_l_grid f_l_grid d_l_grid
  b_l_grid : Binds K d_l_grid ["_law_sizes_here", "_law_lanes", "_law_wraps"] []
  g_l_grid : mg "_law_grid" = some (.ref f_l_grid)
  f_l_network : Addr
  d_l_network : FuncData
  F_l_network : Fun K "_law_network" "_law_network" s_l_network f_l_network d_l_network
  b_l_network : Binds K d_l_network ["_law_sizes_here", "_law_lanes", "_law_wraps", "_law_room"] []
  g_l_network : mg "_law_network" = some (.ref f_l_network)
  f_l_dateline_fits : Addr
  d_l_dateline_fits : FuncData
  F_l_dateline_fits : Fun K "_law_dateline_fits" "_law_dateline_fits" s_l_dateline_fits f_l_dateline_fits d_l_dateline_fits
  b_l_dateline_fits : Binds K d_l_dateline_fits ["_law_sizes_here", "_law_here", "_law_there", "_law_row"] []
  g_l_dateline_fits : mg "_law_dateline_fits" = some (.ref f_l_dateline_fits)
  f_l_options25 : Addr
  d_l_options25 : FuncData
  F_l_options25 : Fun K "_law_options" "_law_options" s_l_options25 f_l_options25 d_l_options25
  b_l_options25 : Binds K d_l_options25 ["_law_word", "_law_sizes_here", "_law_rows", "_law_places_here", "_law_u", "_law_d"] []
  g_l_options25 : mg "_law_options" = some (.ref f_l_options25)
  f_l_table : Addr
  d_l_table : FuncData
  F_l_table : Fun K "_law_table" "_law_table" s_l_table f_l_table d_l_table
  b_l_table : Binds K d_l_table ["_law_word", "_law_sizes_here", "_law_lanes"] []
  g_l_table : mg "_law_table" = some (.ref f_l_table)
  f_l_told25 : Addr
  d_l_told25 : FuncData
  F_l_told25 : Fun K "_law_told" "_law_told" s_l_told25 f_l_told25 d_l_told25
  b_l_told25 : Binds K d_l_told25 ["_law_word", "_law_sizes_here", "_law_lanes"] []
  g_l_told25 : mg "_law_told" = some (.ref f_l_told25)
  f_l_shortest_fine : Addr
  d_l_shortest_fine : FuncData
  F_l_shortest_fine : Fun K "_law_shortest_fine" "_law_shortest_fine" s_l_shortest_fine f_l_shortest_fine d_l_shortest_fine
  b_l_shortest_fine : Binds K d_l_shortest_fine ["_law_network_here"] []
  g_l_shortest_fine : mg "_law_shortest_fine" = some (.ref f_l_shortest_fine)
  f_law25 : Addr
  d_law25 : FuncData
  F_law25 : Fun K "law" "law" s_law25 f_law25 d_law25
  b_law25 : Binds K d_law25 ["_law_script"] []
  g_law25 : mg "law" = some (.ref f_law25)
  xg_Nearer : mg "Nearer" = some (.ref o_Nearer)
  cl_Nearer : Cls K o_Nearer
  mk_Nearer : Mk K o_Nearer f_p_Nearer_init
  na_Nearer_network : NoAttr K o_Nearer "network"
  na_Nearer_far : NoAttr K o_Nearer "far"
  me_p_Nearer_is_nearer : Meth K o_Nearer "is_nearer" f_p_Nearer_is_nearer
  me_p_Nearer_options : Meth K o_Nearer "options" f_p_Nearer_options
  xg_Grid : mg "Grid" = some (.ref o_Grid)
  cl_Grid : Cls K o_Grid
  mk_Grid : Mk K o_Grid f_p_Grid_init
  na_Grid_sizes : NoAttr K o_Grid "sizes"
  na_Grid_lanes : NoAttr K o_Grid "lanes"
  na_Grid_network : NoAttr K o_Grid "network"
  na_Grid_places : NoAttr K o_Grid "places"
  me_p_Grid_step : Meth K o_Grid "step" f_p_Grid_step
  me_p_Grid_is_useful : Meth K o_Grid "is_useful" f_p_Grid_is_useful
  me_p_Grid_useful : Meth K o_Grid "useful" f_p_Grid_useful
  xg_InOrder : mg "InOrder" = some (.ref o_InOrder)
  cl_InOrder : Cls K o_InOrder
  mk_InOrder : Mk K o_InOrder f_p_InOrder_init
  na_InOrder_grid : NoAttr K o_InOrder "grid"
  me_p_InOrder_options : Meth K o_InOrder "options" f_p_InOrder_options
  xg_AcrossLines : mg "AcrossLines" = some (.ref o_AcrossLines)
  cl_AcrossLines : Cls K o_AcrossLines
  mk_AcrossLines : Mk K o_AcrossLines f_p_AcrossLines_init
  na_AcrossLines_grid : NoAttr K o_AcrossLines "grid"
  me_p_AcrossLines_options : Meth K o_AcrossLines "options" f_p_AcrossLines_options
  xg_InTurn : mg "InTurn" = some (.ref o_InTurn)
  cl_InTurn : Cls K o_InTurn
  mk_InTurn : Mk K o_InTurn f_p_InTurn_init
  na_InTurn_grid : NoAttr K o_InTurn "grid"
  na_InTurn_kind : NoAttr K o_InTurn "kind"
  me_p_InTurn_is_first : Meth K o_InTurn "is_first" f_p_InTurn_is_first
  me_p_InTurn_options : Meth K o_InTurn "options" f_p_InTurn_options
  t_p_MAX_CHANNELS : Tok
  c_p_MAX_CHANNELS : mg "MAX_CHANNELS" = some (.int 400 t_p_MAX_CHANNELS)
  t_p_MAX_LANES : Tok
  c_p_MAX_LANES : mg "MAX_LANES" = some (.int 8 t_p_MAX_LANES)
  t_p_MAX_NODES : Tok
  c_p_MAX_NODES : mg "MAX_NODES" = some (.int 64 t_p_MAX_NODES)
  t_p_MAX_ROOM : Tok
  c_p_MAX_ROOM : mg "MAX_ROOM" = some (.int 1000 t_p_MAX_ROOM)
  t_p_MAX_SIZE : Tok
  c_p_MAX_SIZE : mg "MAX_SIZE" = some (.int 64 t_p_MAX_SIZE)
  t_p_MAX_SIZES : Tok
  c_p_MAX_SIZES : mg "MAX_SIZES" = some (.int 6 t_p_MAX_SIZES)
  xa_NotAllowed : Addr
  xc_NotAllowed : XCls K mg "NotAllowed" xa_NotAllowed
  z_abs : mg "abs" = none
  z_all : mg "all" = none
  z_bool : mg "bool" = none
  z_divmod : mg "divmod" = none
  z_enumerate : mg "enumerate" = none
  z_int : mg "int" = none
  z_isinstance : mg "isinstance" = none
  z_len : mg "len" = none
  z_list : mg "list" = none
  z_min : mg "min" = none
  z_range : mg "range" = none
  z_reversed : mg "reversed" = none
  z_sorted : mg "sorted" = none
  z_sum : mg "sum" = none
  z_tuple : mg "tuple" = none
  z_zip : mg "zip" = none
abbrev sl_Nearer {K : PySem.W.Frag} [Tbs K] {mg : Str → Option Value} {base : Heap} (T : Tx K mg base) (r : ((Int × (List (Int × Int × Int))) × (List (List (Option Int))))) : Sl := insS T.o_Nearer [("network", fz K ((e2 eI (eT (e3 eI eI eI))) r.1)), ("far", fz K ((eT (eT (eO eI))) r.2))]
abbrev sl_Grid {K : PySem.W.Frag} [Tbs K] {mg : Str → Option Value} {base : Heap} (T : Tx K mg base) (r : ((List Int) × Int × (Int × (List (Int × Int × Int))) × (List (List Int)))) : Sl := insS T.o_Grid [("sizes", fz K ((eT eI) r.1)), ("lanes", fz K (eI r.2.1)), ("network", fz K ((e2 eI (eT (e3 eI eI eI))) r.2.2.1)), ("places", ls K (List.map (eT eI) r.2.2.2))]
abbrev sl_InOrder {K : PySem.W.Frag} [Tbs K] {mg : Str → Option Value} {base : Heap} (T : Tx K mg base) (r : ((List Int) × Int × (Int × (List (Int × Int × Int))) × (List (List Int)))) : Sl := insS T.o_InOrder [("grid", sl_Grid T r)]
abbrev sl_AcrossLines {K : PySem.W.Frag} [Tbs K] {mg : Str → Option Value} {base : Heap} (T : Tx K mg base) (r : ((List Int) × Int × (Int × (List (Int × Int × Int))) × (List (List Int)))) : Sl := insS T.o_AcrossLines [("grid", sl_Grid T r)]
abbrev sl_InTurn {K : PySem.W.Frag} [Tbs K] {mg : Str → Option Value} {base : Heap} (T : Tx K mg base) (r : (((List Int) × Int × (Int × (List (Int × Int × Int))) × (List (List Int))) × Str)) : Sl := insS T.o_InTurn [("grid", sl_Grid T (r.1)), ("kind", fz K (eS r.2))]
end Cf
namespace Cf
open PySem PySem.Spec PyProof.Rows L2 WL GxR
section
variable {P : Program} {w : World} {K : PySem.W.Frag} [Tbs K] {mg : Str → Option Value} {base : Heap}
set_option maxHeartbeats 4000000
theorem ok_l_mix (T : Tx K mg base) : FnOk P w K mg base CX0 1 T.f_l_mix T.d_l_mix ["_law_number"] (spN K (fun x : Int × Unit => [.d (eI x.1)]) (fun x => l_mix x.1) (fun r : Int => .fz (eI r))) := by
  have S := sc_l_mix
  refine fn_n (N := nn_l_mix) T.F_l_mix S (fun _ => rfl) (fun cdv A outer s H E hr => ?_)
  refine ⟨_, (pss_cons (ps_set (i := 0) S.nd rfl (by first | exact .inl rfl | exact .inr rfl) (pe_op op_modN (pe_callTy call_int1 (by rfl) T.z_int (by decide +kernel) (pa_cons (pe_op op_add (pe_op op_mul (pv 0) pe_int) pe_int) pa_nil)) pe_int))
      (pss_one (ps_ret (pe_op op_modN (pe_callTy call_int1 (by rfl) T.z_int (by decide +kernel) (pa_cons (pe_op op_add (pe_op op_fdivW (pe_op op_mul (pv 0) (pv 0)) pe_int) (pe_op op_mul (pv 0) pe_int)) pa_nil)) pe_int)))), ?_⟩
  rintro ⟨number, _⟩
  show SimB _ _ _ _ _ _ [.sl (fz K (eI number))] (l_mix number)
  unfold l_mix
  exact (sb_seq (sb_set (e := eI) (EvG.is (w' := (ret (Int.fmod ((number * (6364136223846793005 : Int)) + (1442695040888963407 : Int)) (18446744073709551616 : Int)))) (ev_modC (by decide) (ev_b1F (ev_opF (ev_mulR (by decide) (ev_f (e := eI) number rfl)) ev_int (fun _ _ => o_add _ _)) (fun _ => c_int _))) rfl) (ltb rfl) (fun number_1 => (la_in (sb_retF (EvG.is (w' := (bnd (bnd (bnd (grd (CMul number_1 number_1) (ret (number_1 * number_1))) fun x2 => ret (x2 / (4294967296 : Int))) fun x3 => ret (x3 + (number_1 * (69621 : Int)))) fun x4 => ret (Int.fmod x4 (18446744073709551557 : Int)))) (ev_modC (by decide) (ev_b1F (ev_opF (ev_fdivW (by decide) (ev_opF (ev_f (e := eI) number_1 rfl) (ev_f (e := eI) number_1 rfl) (fun _ _ => o_mul _ _))) (ev_mulR (by decide) (ev_f (e := eI) number_1 rfl)) (fun _ _ => o_add _ _)) (fun _ => c_int _))) (by simp only [ret_bnd, bnd_bnd, mapW_bnd, mapW_ret] <;> rfl)) (fun _ => rfl))))))
end
end Cf
namespace Cf
open PySem PySem.Spec PyProof.Rows L2 WL GxR
section
variable {P : Program} {w : World} {K : PySem.W.Frag} [Tbs K] {mg : Str → Option Value} {base : Heap}
set_option maxHeartbeats 4000000
instance {CX : CXT} {N : List Str} {q : Str} {sc : Scope} {f : Addr} {cd : Value} {A : Around} {outer : List Env} {s : Shared} {H : Hp} {E : XK} : Tbs (cxOf CX P w K mg base N q sc f cd A outer s H E).nox.K := inferInstanceAs (Tbs K)
def tNo : Sl where
  own := fun _ _ fp => fp = []
  ro := true
  dom := fun h ha => by rw [h] at ha; cases ha
  keep := fun h _ => h
theorem mix_any (z : Int) : l_mix z (fun r => 0 ≤ r) (fun _ => False) := by
  unfold l_mix
  have h0 := Int.fmod_eq_emod_of_nonneg (z * 6364136223846793005 + 1442695040888963407) (show (0 : Int) ≤ 18446744073709551616 by decide)
  have h1 := Int.emod_nonneg (z * 6364136223846793005 + 1442695040888963407) (show (18446744073709551616 : Int) ≠ 0 by decide)
  have h2 := Int.emod_lt_of_pos (z * 6364136223846793005 + 1442695040888963407) (show (0 : Int) < 18446744073709551616 by decide)
  refine ⟨.inl ⟨?_, ?_⟩, ?_⟩
  · rw [h0]
    show -(18446744073709551616 : Int) < _
    omega
  · rw [h0]
    exact h2
  · show 0 ≤ Int.fmod _ 18446744073709551557
    rw [Int.fmod_eq_emod_of_nonneg _ (by decide)]
    exact Int.emod_nonneg _ (by decide)
theorem mix_use (T : Tx K mg base) {H : Hp} {Q : VK} {E : XK} {z : Int} (hT : ∀ P ∈ T.Ps, TabG H P) (h : ∀ r H', 0 ≤ r → (∀ a o, H a = some o → a ∉ T.Ps → H' a = some o) → (∀ P ∈ T.Ps, TabG H' P) → Q (.int r) H') : spN K (fun x : Int × Unit => [.d (eI x.1)]) (fun x => l_mix x.1) (fun r : Int => .fz (eI r)) ([V.int z] ++ []) H Q E := by
  have ts : TpSt ⟨H, [], some (tpG tNo T.Ps, V.non, [] ++ T.Ps), []⟩ H := fun t e => by
    cases e
    exact ⟨[], rfl, rfl, fun P hP => ⟨by simp, hT P hP⟩⟩
  obtain ⟨R, en⟩ := args_en (K := K) (B := ⟨H, [], some (tpG tNo T.Ps, V.non, [] ++ T.Ps), []⟩) (H0 := H) (H := H) (vs := [V.int z]) (as := [.d (eI z)]) ts (.cons (Fz.int z) .nil)
  refine ⟨(z, ()), _, some (tpG tNo T.Ps, V.non, [] ++ T.Ps), R, _, ⟨mix_any z, T.tba _ fun P hP => tpG_has hP (by simp)⟩, en, fun out v H' hp hf ht ho => ?_⟩
  have e := Fz.int_inv (n := out) ho
  subst e
  obtain ⟨f0, e0, _, htab⟩ := ht _ rfl
  refine h out H' hp (fun a o ea na => ?_) fun P hP => (htab P hP).2
  obtain ⟨o', e1, e2, _⟩ := hf a o ea
  rw [e2 (by simp) (fun t e => by cases e; simpa using na)] at e1
  exact e1
theorem at0 {α : Type} {a b c d e : α} : atI [a, b, c, d, e] 0 = some a := rfl
theorem at1 {α : Type} {a b c d e : α} : atI [a, b, c, d, e] 1 = some b := rfl
theorem at2 {α : Type} {a b c d e : α} : atI [a, b, c, d, e] 2 = some c := rfl
theorem at3 {α : Type} {a b c d e : α} : atI [a, b, c, d, e] 3 = some d := rfl
/-- the tape as it stands: all else as in H, but the tables -/
structure TkS (Ps : List Addr) (H : Hp) (p q : Addr) (ns : List Int) (H' : Hp) (a b c d : Int) : Prop where
  k : ∀ x o, H x = some o → x ≠ p → x ∉ Ps → H' x = some o
  h : H' p = some (.lst [.ref q, .int a, .int b, .int c, .int d])
  q : H' q = some (.lst (ns.map V.int))
  t : ∀ P ∈ Ps, TabG H' P
theorem TkS.np {Ps : List Addr} {H H' : Hp} {p q : Addr} {ns : List Int} {a b c d : Int} (t : TkS Ps H p q ns H' a b c d) : p ∉ Ps := fun hp => by
  obtain ⟨ps, e, _⟩ := t.t p hp
  rw [t.h] at e
  cases e
theorem TkS.nq {Ps : List Addr} {H H' : Hp} {p q : Addr} {ns : List Int} {a b c d : Int} (t : TkS Ps H p q ns H' a b c d) : q ∉ Ps := fun hp => by
  obtain ⟨ps, e, _⟩ := t.t q hp
  rw [t.q] at e
  cases e
theorem TkS.more {Ps : List Addr} {H H' H'' : Hp} {p q : Addr} {ns : List Int} {a b c d : Int} (t : TkS Ps H p q ns H' a b c d) (s : ∀ x o, H' x = some o → x ∉ Ps → H'' x = some o) (st : ∀ P ∈ Ps, TabG H'' P) : TkS Ps H p q ns H'' a b c d := ⟨fun x o e n m => s x o (t.k x o e n m) m, s _ _ t.h t.np, s _ _ t.q t.nq, st⟩
theorem TkS.set {Ps : List Addr} {H H' : Hp} {p q : Addr} {ns : List Int} {a b c d a' b' c' d' : Int} (t : TkS Ps H p q ns H' a b c d) (hpq : p ≠ q) : TkS Ps H p q ns (upd H' p (.lst [.ref q, .int a', .int b', .int c', .int d'])) a' b' c' d' :=
  ⟨fun x o e n m => by rw [upd_ne n]; exact t.k x o e n m, upd_same, by rw [upd_ne (Ne.symm hpq)]; exact t.q, fun P hP => by
    obtain ⟨ps, e, z⟩ := t.t P hP
    exact ⟨ps, by rw [upd_ne (fun y : P = p => t.np (by rw [← y]; exact hP))]; exact e, z⟩⟩
theorem TkS.sq {Ps : List Addr} {H H' : Hp} {p q : Addr} {ns : List Int} {a b c d : Int} (t : TkS Ps H p q ns H' a b c d) : SqL K H' p [.ref q, .int a, .int b, .int c, .int d] := .inl (.inl t.h)
theorem TkS.sc {Ps : List Addr} {H H' : Hp} {p q : Addr} {ns : List Int} {a b c d : Int} (t : TkS Ps H p q ns H' a b c d) : SqL K H' q (ns.map V.int) := .inl (.inl t.q)
theorem ok_l_take (T : Tx K mg base) : FnOk P w K mg base CX0 2 T.f_l_take T.d_l_take ["_law_tape_here", "_law_many"] (spN K (fun x : Unit × Int × Unit => [.t (tpG tape1 T.Ps), .d (eI x.2.1)]) (fun x => l_take x.2.1) (fun r : Int => .fz (eI r))) := by
  have S := sc_l_take
  refine T.F_l_take.ok S (fun vs H Q E h => ?_) (fun cdv A outer s H vs Q E hr h => ?_)
  · obtain ⟨x, P, T, R, fp, _, en, _⟩ := h
    have := en.len
    rw [List.length_map, List.length_map] at this
    exact this
  obtain ⟨⟨_, n, _⟩, P, Tt, R, fp, hf, en, fin⟩ := h
  obtain ⟨⟨⟨hn0, hn1⟩, hd⟩, htb⟩ := hf
  have hl := en.len
  rw [List.length_map, List.length_map] at hl
  obtain ⟨v, fq, hT, hv0⟩ := en.tp 0 (tpG tape1 T.Ps) rfl
  obtain ⟨v1, hv1, _, hz⟩ := en.sl 1 _ rfl
  have hT' : Tt = some (tpG tape1 T.Ps, v, fq) := hT
  subst hT'
  obtain ⟨f0, rfl, ⟨p, q, cells, a, b, c, d, rfl, rfl, hpq, hp, hq, ha, hb, hc⟩, htab⟩ := en.tps _ rfl
  have e1 := Fz.int_inv (n := n) hz
  subst e1
  have evs : vs = [.ref p, .int n] := by
    match vs, hl with
    | [x, y], _ =>
      have h0 : some (some x) = some (some (V.ref p)) := hv0
      have h1 : some (some y) = some (some (V.int n)) := hv1
      cases h0
      cases h1
      rfl
  subst evs
  have t0 : TkS T.Ps H p q cells H a b c d := ⟨fun x o e _ _ => e, hp, hq, fun P hP => (htab P hP).2⟩
  refine ⟨_, (pss_cons (ps_if (pt_cmpR op_lt (pe_ix ix_list (pv 0) pe_int (fun _ _ => rfl)) (pv 1) (nomark _))
      (pss_one (ps_if (pt_cmpR op_lt (pe_ix ix_list (pv 0) pe_int (fun _ _ => rfl)) (pe_callB call_len_seq (by rfl) T.z_len (by decide +kernel) (pa_cons (pe_ix ix_list (pv 0) pe_int (fun _ _ => rfl)) pa_nil)) (nomark _))
        (pss_cons (ps_set (i := 2) S.nd rfl (by first | exact .inl rfl | exact .inr rfl) (pe_ix ix_list (pe_ix ix_list (pv 0) pe_int (fun _ _ => rfl)) (pe_ix ix_list (pv 0) pe_int (fun _ _ => rfl)) (fun _ _ => rfl)))
        (pss_cons (ps_set (i := 2) S.nd rfl (by first | exact .inl rfl | exact .inr rfl) (pe_ifExp (pt_cmpR op_ge (pv 2) pe_int (nomark _)) (pe_op op_mul pe_int (pv 2)) (pe_op op_sub (pe_op op_mul (pe_un un_neg pe_int) (pv 2)) pe_int)))
        (pss_cons (ps_asg (pe_op op_add (pe_ix ix_list (pv 0) pe_int (fun _ _ => rfl)) pe_int) (pg_sub (pv 0) pe_int set_list))
        (pss_cons (ps_asg (pe_call (ok_l_mix T) (hr.mono (by decide)) (by rfl) T.g_l_mix T.F_l_mix.kp T.b_l_mix .nil pass0 (pa_cons (pe_op op_add (pe_ix ix_list (pv 0) pe_int (fun _ _ => rfl)) (pv 2)) pa_nil)) (pg_sub (pv 0) pe_int set_list))
        (pss_one (ps_asg (pe_ifExp (pt_cmpR op_ge (pv 2) (pe_op op_pow pe_int pe_int) (nomark _)) (pv 2) (pe_call (ok_l_mix T) (hr.mono (by decide)) (by rfl) T.g_l_mix T.F_l_mix.kp T.b_l_mix .nil pass0 (pa_cons (pe_call (ok_l_mix T) (hr.mono (by decide)) (by rfl) T.g_l_mix T.F_l_mix.kp T.b_l_mix .nil pass0 (pa_cons (pv 2) pa_nil)) pa_nil))) (pg_sub (pv 0) pe_int set_list)))))))
        (pss_cons (ps_asg (pe_call (ok_l_mix T) (hr.mono (by decide)) (by rfl) T.g_l_mix T.F_l_mix.kp T.b_l_mix .nil pass0 (pa_cons (pe_op op_add (pe_ix ix_list (pv 0) pe_int (fun _ _ => rfl)) pe_int) pa_nil)) (pg_sub (pv 0) pe_int set_list)) (pss_one (ps_asg (pe_ix ix_list (pv 0) pe_int (fun _ _ => rfl)) (pg_sub (pv 0) pe_int set_list)))))) pss_nil)
      (pss_cons (ps_set (i := 3) S.nd rfl (by first | exact .inl rfl | exact .inr rfl) (pe_op op_modN (pe_callTy call_int1 (by rfl) T.z_int (by decide +kernel) (pa_cons (pe_ix ix_list (pv 0) pe_int (fun _ _ => rfl)) pa_nil)) (pv 1)))
      (pss_cons (ps_asg (pe_op op_fdivN (pe_ix ix_list (pv 0) pe_int (fun _ _ => rfl)) (pv 1)) (pg_sub (pv 0) pe_int set_list))
      (pss_one (ps_ret (pv 3)))))), ?_⟩
  refine seq_via (fun σ' H' => ∃ y2 y3 a b c d, σ' = [some (.ref p), some (.int n), y2, y3] ∧ TkS T.Ps H p q cells H' a b c d ∧ 0 ≤ a ∧ 0 ≤ b ∧ 0 ≤ c) (fun N hN => ?_) ?_
  · -- the refill
    have st : start ["_law_tape_here", "_law_many", "_law_cell", "_law_digit"] [V.ref p, V.int n] = [some (.ref p), some (.int n), none, none] := rfl
    rw [st]
    refine ⟨_, rfl, p, _, 2, _, rfl, rfl, t0.sq, at2, _, rfl, b, n, rfl, rfl, _, rfl, ite2 (fun _ => ?_) (fun _ => hN _ _ ⟨_, _, a, b, c, d, rfl, t0, ha, hb, hc⟩)⟩
    refine ⟨_, rfl, p, _, 1, _, rfl, rfl, t0.sq, at1, _, rfl, p, _, 0, _, rfl, rfl, t0.sq, at0, q, _, rfl, .inl t0.sc, a, _, rfl, rfl, _, rfl, ite2 (fun hlt => ?_) (fun _ => ?_)⟩
    · have hlt' : a < ((cells.map V.int).length : Int) := of_decide_eq_true hlt
      rw [List.length_map] at hlt'
      have hat : atI (cells.map V.int) a = some (.int (cells[a.toNat]'(by omega))) := by
        have := atI_nat (xs := cells.map V.int) (j := a.toNat) (v := .int (cells[a.toNat]'(by omega))) (by rw [List.getElem?_map, List.getElem?_eq_getElem (by omega)]; rfl)
        rw [show ((a.toNat : Nat) : Int) = a by omega] at this
        exact this
      generalize cells[a.toNat]'(by omega) = z at hat
      refine seq_via (fun σ' H' => σ' = [some (.ref p), some (.int n), some (.int z), none] ∧ TkS T.Ps H p q cells H' a b c d) (fun N hN => ?_) ?_
      · exact ⟨_, rfl, p, _, 0, _, rfl, rfl, t0.sq, at0, _, rfl, p, _, 1, _, rfl, rfl, t0.sq, at1, q, _, a, _, rfl, rfl, t0.sc, hat, hN _ _ ⟨rfl, t0⟩⟩
      rintro σ1 H1 ⟨rfl, t1⟩
      refine seq_via (fun σ' H' => ∃ y : Int, 0 ≤ y ∧ σ' = [some (.ref p), some (.int n), some (.int y), none] ∧ TkS T.Ps H p q cells H' a b c d) (fun N hN => ?_) ?_
      · refine ⟨_, rfl, z, 0, rfl, rfl, _, rfl, ite2 (fun h => ?_) (fun h => ?_)⟩
        · have h' : 0 ≤ z := of_decide_eq_true h
          exact ⟨_, rfl, 2, z, rfl, rfl, .inl (by omega), hN _ _ ⟨2 * z, by omega, rfl, t1⟩⟩
        · have h' : ¬ 0 ≤ z := fun h' => h (decide_eq_true h')
          exact ⟨2, rfl, _, rfl, -2, z, rfl, rfl, .inl (by omega), -2 * z, 1, rfl, rfl, hN _ _ ⟨-2 * z - 1, by omega, rfl, t1⟩⟩
      rintro σ2 H2 ⟨y, hy, rfl, t2⟩
      refine ⟨_, rfl, p, _, 1, _, rfl, rfl, t2.sq, at1, a, 1, rfl, rfl, _, rfl, p, _, 1, 1, rfl, rfl, t2.h, rfl, ?_⟩
      have t3 : TkS T.Ps H p q cells (upd H2 p (.lst [.ref q, .int (a + 1), .int b, .int c, .int d])) (a + 1) b c d := t2.set hpq
      refine ⟨_, rfl, p, _, 3, _, rfl, rfl, t3.sq, at3, _, rfl, c, y, rfl, rfl, mix_use T (E := E0) t3.t (fun c' H4 hc' k4 kt4 => ?_)⟩
      have t4 := t3.more k4 kt4
      refine ⟨_, rfl, p, _, 3, 3, rfl, rfl, t4.h, rfl, ?_⟩
      have t5 : TkS T.Ps H p q cells (upd H4 p (.lst [.ref q, .int (a + 1), .int b, .int c', .int d])) (a + 1) b c' d := t4.set hpq
      refine ⟨_, rfl, 10, 18, rfl, rfl, ⟨by decide, by decide, by decide⟩, y, _, rfl, rfl, _, rfl, ite2 (fun _ => ?_) (fun _ => ?_)⟩
      · exact ⟨_, rfl, _, rfl, p, _, 2, 2, rfl, rfl, t5.h, rfl, hN _ _ ⟨_, _, a + 1, y, c', d, rfl, t5.set hpq, by omega, hy, hc'⟩⟩
      · refine ⟨_, rfl, mix_use T (E := E0) t5.t (fun y1 H6 _ k6 kt6 => mix_use T (E := E0) kt6 (fun y2 H7 hy2 k7 kt7 => ?_))⟩
        have t7 := (t5.more k6 kt6).more k7 kt7
        exact ⟨_, rfl, p, _, 2, 2, rfl, rfl, t7.h, rfl, hN _ _ ⟨_, _, a + 1, y2, c', d, rfl, t7.set hpq, by omega, hy2, hc'⟩⟩
    · refine ⟨_, rfl, p, _, 3, _, rfl, rfl, t0.sq, at3, c, 1, rfl, rfl, mix_use T (E := E0) t0.t (fun c' H4 hc' k4 kt4 => ?_)⟩
      have t4 := t0.more k4 kt4
      refine ⟨_, rfl, p, _, 3, 3, rfl, rfl, t4.h, rfl, ?_⟩
      have t5 : TkS T.Ps H p q cells (upd H4 p (.lst [.ref q, .int a, .int b, .int c', .int d])) a b c' d := t4.set hpq
      exact ⟨_, rfl, p, _, 3, _, rfl, rfl, t5.sq, at3, _, rfl, p, _, 2, 2, rfl, rfl, t5.h, rfl, hN _ _ ⟨_, _, a, c', c', d, rfl, t5.set hpq, ha, hc', hc'⟩⟩
  · rintro σ' H' ⟨y2, y3, a, b, c, d, rfl, t, ha, hb, hc⟩
    have hn0' : 0 < n := hn0
    have hn1' : n < 1073741824 := hn1
    refine ⟨_, rfl, p, _, 2, _, rfl, rfl, t.sq, at2, .inl ⟨b, rfl, _, rfl, b, n, rfl, rfl, (by omega : n ≠ 0), ?_⟩⟩
    refine ⟨_, rfl, p, _, 2, _, rfl, rfl, t.sq, at2, _, rfl, b, n, rfl, rfl, ⟨by omega, by omega⟩, _, rfl, p, _, 2, 2, rfl, rfl, t.h, rfl, ?_⟩
    have t1 : TkS T.Ps H p q cells (upd H' p (.lst [.ref q, .int a, .int (b.fdiv n), .int c, .int d])) a (b.fdiv n) c d := t.set hpq
    refine ⟨_, rfl, fin (b.fmod n) (.int (b.fmod n)) _ (hd _ ⟨?_, ?_⟩) (fun x o e => ?_) (fun t' e => ?_) (Fz.int _)⟩
    · show 0 ≤ b.fmod n
      rw [Int.fmod_eq_emod_of_nonneg _ (by omega)]
      exact Int.emod_nonneg _ (by omega)
    · show b.fmod n < n
      rw [Int.fmod_eq_emod_of_nonneg _ (by omega)]
      exact Int.emod_lt_of_pos _ hn0'
    · by_cases hx : x = p
      · subst hx
        refine ⟨_, t1.h, fun _ off => (off _ rfl (by simp)).elim, fun st => ?_⟩
        have e' : H x = some o := e
        rw [hp] at e'
        cases e'
        cases st
      · by_cases hx2 : x ∈ T.Ps
        · obtain ⟨ps, e1, _⟩ := t1.t x hx2
          refine ⟨_, e1, fun _ off => (off _ rfl (by simp [hx2])).elim, fun st => ?_⟩
          have e' : H x = some o := e
          obtain ⟨ps', e2, _⟩ := (htab x hx2).2
          rw [e2] at e'
          cases e'
          cases st
        · exact ⟨o, t1.k x o e hx hx2, fun _ _ => rfl, fun _ => rfl⟩
    · cases e
      exact ⟨_, rfl, ⟨p, q, cells, a, b.fdiv n, c, d, rfl, rfl, hpq, t1.h, t1.q, ha, Int.fdiv_nonneg hb (by omega), hc⟩, fun P hP => ⟨(htab P hP).1, t1.t P hP⟩⟩
end
end Cf
namespace Cf
open PySem PySem.Spec PyProof.Rows L2 WL GxR
section
variable {P : Program} {w : World} {K : PySem.W.Frag} [Tbs K] {mg : Str → Option Value} {base : Heap}
set_option maxHeartbeats 4000000
theorem ok_l_drawn_network (T : Tx K mg base) : FnOk P w K mg base CX0 3 T.f_l_drawn_network T.d_l_drawn_network ["_law_tape_here", "_law_most", "_law_channels"] (spN K (fun x : Unit × Int × Int × Unit => [.t (tpG tape1 T.Ps), .d (eI x.2.1), .d (eI x.2.2.1)]) (fun x => l_drawn_network x.2.1 x.2.2.1) (fun r : (Int × (List (Int × Int × Int))) => .fz ((e2 eI (eT (e3 eI eI eI))) r))) := by
  have S := sc_l_drawn_network
  refine fn_n (N := nn_l_drawn_network) T.F_l_drawn_network S (fun _ => rfl) (fun cdv A outer s H E hr => ?_)
  refine ⟨_, (pss_cons (ps_set (i := 3) S.nd rfl (by first | exact .inl rfl | exact .inr rfl) (pe_op op_add pe_int (pe_call (ok_l_take T) (hr.mono (by decide)) (by rfl) T.g_l_take T.F_l_take.kp T.b_l_take .nil pass0 (pa_cons (pv 0) (pa_cons (pe_op op_sub (pv 1) pe_int) pa_nil)))))
      (pss_cons (ps_set (i := 4) S.nd rfl (by first | exact .inl rfl | exact .inr rfl) (pe_lst pa_nil))
      (pss_cons (ps_for PassesOwn.never rfl (pi_range1 (by rfl) T.z_range (pa_cons (pe_op op_add pe_int (pe_call (ok_l_take T) (hr.mono (by decide)) (by rfl) T.g_l_take T.F_l_take.kp T.b_l_take .nil pass0 (pa_cons (pv 0) (pa_cons (pv 2) pa_nil)))) pa_nil)) (pg_name (i := 5) S.nd rfl (by first | exact .inl rfl | exact .inr rfl)) (pss_cons (ps_set (i := 6) S.nd rfl (by first | exact .inl rfl | exact .inr rfl) (pe_call (ok_l_take T) (hr.mono (by decide)) (by rfl) T.g_l_take T.F_l_take.kp T.b_l_take .nil pass0 (pa_cons (pv 0) (pa_cons (pv 3) pa_nil))))
      (pss_cons (ps_set (i := 7) S.nd rfl (by first | exact .inl rfl | exact .inr rfl) (pe_op op_modN (pe_callTy call_int1 (by rfl) T.z_int (by decide +kernel) (pa_cons (pe_op op_add (pe_op op_add (pv 6) pe_int) (pe_call (ok_l_take T) (hr.mono (by decide)) (by rfl) T.g_l_take T.F_l_take.kp T.b_l_take .nil pass0 (pa_cons (pv 0) (pa_cons (pe_op op_sub (pv 3) pe_int) pa_nil)))) pa_nil)) (pv 3)))
      (pss_one (ps_expr (pe_bm PySem.F.plainAttrs_list PySem.F.slot_list_append PySem.F.type_list_append mt_append (pv 4) (pa_cons (pe_tup (pa_cons (pv 6) (pa_cons (pv 7) (pa_cons (pe_op op_add pe_int (pe_call (ok_l_take T) (hr.mono (by decide)) (by rfl) T.g_l_take T.F_l_take.kp T.b_l_take .nil pass0 (pa_cons (pv 0) (pa_cons pe_int pa_nil)))) pa_nil)))) pa_nil)))))))
      (pss_one (ps_ret (pe_tup (pa_cons (pv 3) (pa_cons (pe_callTy (call_tupK (K := K) rfl) (by rfl) T.z_tuple (by decide +kernel) (pa_cons (pv 4) pa_nil)) pa_nil)))))))), ?_⟩
  rintro ⟨_, most, channels, _⟩
  show SimB _ _ _ _ _ _ [.tp (tpG tape1 T.Ps), .sl (fz K (eI most)), .sl (fz K (eI channels)), .un, .un, .un, .un, .un] (l_drawn_network most channels)
  unfold l_drawn_network
  exact (sb_seq (sb_set (e := eI) (EvG.is (w' := (bnd (noX (l_take (most - (1 : Int)))) fun x1 => ret ((2 : Int) + x1))) (ev_opF ev_int (ev_callS eI (es_t (ev_t (S := (tpG tape1 T.Ps)) rfl) (es_f (ev_opF (ev_f (e := eI) most rfl) ev_int (fun _ _ => o_sub _ _)) es_nil)) (fun _ => rfl)) (fun _ _ => o_add _ _)) rfl) (ltb rfl) (fun n_2 => (la_in (sb_seq (sb_setN (S := fun r => ls K (List.map (e3 eI eI eI) r)) (EvG.is (w' := (ret ([] : List (Int × Int × Int)))) (ev_lstS (fun _ => ([] : List (Int × Int × Int))) (e3 eI eI eI) es_nil (fun _ => AllF.nil) (fun _ => rfl) (fun _ => rfl)) rfl) (ltb rfl) (fun found_3 => (la_in (sb_seq (sb_for (S := ((List (Int × Int × Int)))) (e := eI) (Γh := fun s7 => [.tp (tpG tape1 T.Ps), .sl (fz K (eI most)), .sl (fz K (eI channels)), .sl (fz K (eI n_2)), .sl (ls K (List.map (e3 eI eI eI) s7)), .un, .un, .un]) found_3 (ItG.is (w' := (bnd (bnd (noX (l_take channels)) fun x4 => ret ((1 : Int) + x4)) fun x5 => grd (Rng x5) (ret (span 0 (x5).toNat)))) (it_range1 (ev_opF ev_int (ev_callS eI (es_t (ev_t (S := (tpG tape1 T.Ps)) rfl) (es_f (ev_f (e := eI) channels rfl) es_nil)) (fun _ => rfl)) (fun _ _ => o_add _ _))) rfl) (fun _ h => nomatch h) (wk_mask [true, true, true, true, true, true, true, true] _) (fun x6 s7 => (tg_name (ltb rfl))) (fun x6 s7 kc8 => (sb_seq (sb_set (e := eI) (EvG.is (w' := (noX (l_take n_2))) (ev_callS eI (es_t (ev_t (S := (tpG tape1 T.Ps)) rfl) (es_f (ev_f (e := eI) n_2 rfl) es_nil)) (fun _ => rfl)) rfl) (ltb rfl) (fun source_10 => (la_in (sb_seq (sb_set (e := eI) (EvG.is (w' := (bnd (bnd (noX (l_take (n_2 - (1 : Int)))) fun x11 => ret ((source_10 + (1 : Int)) + x11)) fun x12 => grd (n_2 ≠ 0) (ret (Int.fmod x12 n_2)))) (ev_opF (ev_b1F (ev_opF (ev_opF (ev_f (e := eI) source_10 rfl) ev_int (fun _ _ => o_add _ _)) (ev_callS eI (es_t (ev_t (S := (tpG tape1 T.Ps)) rfl) (es_f (ev_opF (ev_f (e := eI) n_2 rfl) ev_int (fun _ _ => o_sub _ _)) es_nil)) (fun _ => rfl)) (fun _ _ => o_add _ _)) (fun _ => c_int _)) (ev_f (e := eI) n_2 rfl) (fun _ _ => o_mod _ _)) rfl) (ltb rfl) (fun target_13 => (la_in (sb_appendK (e := (e3 eI eI eI)) (xs := s7) rfl (EvG.is (w' := (bnd (bnd (noX (l_take (3 : Int))) fun x15 => ret ((1 : Int) + x15)) fun x16 => ret (source_10, target_13, x16))) (ev_tupS (fun x => (x.1, x.2.1, x.2.2.1)) (e3 eI eI eI) (es_f (ev_f (e := eI) source_10 rfl) (es_f (ev_f (e := eI) target_13 rfl) (es_f (ev_opF ev_int (ev_callS eI (es_t (ev_t (S := (tpG tape1 T.Ps)) rfl) (es_f ev_int es_nil)) (fun _ => rfl)) (fun _ _ => o_add _ _)) es_nil))) (fun _ => (AllF.cons (AllF.cons (AllF.cons AllF.nil)))) (fun _ => rfl) (fun _ => rfl)) rfl) (fun s14 => (Lands.wk (la_at s14) (wk_mask [true, true, true, true, true, false, false, false] _))))))))))))) (fun s7 => (la_in (sb_retF (EvG.is (w' := (ret (n_2, s7))) (ev_tupS (fun x => (x.1, x.2.1)) (e2 eI (eT (e3 eI eI eI))) (es_f (ev_f (e := eI) n_2 rfl) (es_f (ev_b1L (ev_l (e := (e3 eI eI eI)) s7 rfl) (fun _ => c_tupL _)) es_nil)) (fun _ => (AllF.cons (AllF.cons AllF.nil))) (fun _ => rfl) (fun _ => rfl)) rfl) (fun _ => rfl))))))))))))))
end
end Cf
namespace Cf
open PySem PySem.Spec PyProof.Rows L2 WL GxR
section
variable {P : Program} {w : World} {K : PySem.W.Frag} [Tbs K] {mg : Str → Option Value} {base : Heap}
set_option maxHeartbeats 4000000
theorem ok_l_places (T : Tx K mg base) : FnOk P w K mg base CX0 1 T.f_l_places T.d_l_places ["_law_sizes_here"] (spN K (fun x : (List Int) × Unit => [.d ((eT eI) x.1)]) (fun x => l_places x.1) (fun r : (List (List Int)) => .nw (ls K (List.map (eT eI) r)))) := by
  have S := sc_l_places
  refine fn_n (N := nn_l_places) T.F_l_places S (fun _ => rfl) (fun cdv A outer s H E hr => ?_)
  refine ⟨_, (pss_cons (ps_set (i := 1) S.nd rfl (by first | exact .inl rfl | exact .inr rfl) (pe_lst (pa_cons (pe_tup pa_nil) pa_nil)))
      (pss_cons (ps_for PassesOwn.never rfl (pi_tupK (K := K) rfl (pv 0)) (pg_name (i := 2) S.nd rfl (by first | exact .inl rfl | exact .inr rfl)) (pss_cons (ps_set (i := 3) S.nd rfl (by first | exact .inl rfl | exact .inr rfl) (pe_lst pa_nil))
      (pss_cons (ps_for PassesOwn.never rfl (pi_listK (K := K) rfl (pv 1)) (pg_name (i := 4) S.nd rfl (by first | exact .inl rfl | exact .inr rfl)) (pss_one (ps_expr (pe_bm PySem.F.plainAttrs_list PySem.F.slot_list_extend PySem.F.type_list_extend mt_extend (pv 3) (pa_cons (pe_lc (own := [("_law_x", 5)]) rfl S.nd (pi_range1 (by rfl) T.z_range (pa_cons (pv 2) pa_nil)) (blkOk_by (N := nn_l_places) (sc := (defScope s_l_places)) (own := [("_law_x", 5)]) (by decide +kernel)) (fun _ _ _ _ _ => (pg_name (i := 5) S.nd rfl (by first | exact .inl rfl | exact .inr rfl))) (fun _ _ _ _ _ => pts_nil) (fun _ _ _ _ _ => (pe_op (op_catK (K := K) rfl) (pv 4) (pe_tup (pa_cons (pv 5) pa_nil))))) pa_nil)))))
      (pss_one (ps_set (i := 1) S.nd rfl (by first | exact .inl rfl | exact .inr rfl) (pv 3))))))
      (pss_one (ps_ret (pv 1))))), ?_⟩
  rintro ⟨sizes_here, _⟩
  show SimB _ _ _ _ _ _ [.sl (fz K ((eT eI) sizes_here)), .un, .un, .un, .un, .un] (l_places sizes_here)
  unfold l_places
  exact (sb_seq (sb_setN (S := fun r => ls K (List.map (eT eI) r)) (EvG.is (w' := (ret [([] : (List Int))])) (ev_lstS (fun x => [x.1]) (eT eI) (es_f (ev_tupS (fun x => []) (eT eI) es_nil (fun _ => AllF.nil) (fun _ => rfl) (fun _ => rfl)) es_nil) (fun _ => (AllF.cons AllF.nil)) (fun _ => rfl) (fun _ => rfl)) rfl) (ltb rfl) (fun found_1 => (la_in (sb_seq (sb_for (S := ((List (List Int)))) (e := eI) (Γh := fun s3 => [.sl (fz K ((eT eI) sizes_here)), .sl (ls K (List.map (eT eI) s3)), .un, .un, .un, .un]) found_1 (ItG.is (w' := (ret sizes_here)) (it_tup (ev_f (e := (eT eI)) sizes_here rfl)) rfl) (fun _ h => nomatch h) (wk_mask [true, true, true, true, true, true] _) (fun x2 s3 => (tg_name (ltb rfl))) (fun x2 s3 kc4 => (sb_seq (sb_setN (S := fun r => ls K (List.map (eT eI) r)) (EvG.is (w' := (ret ([] : List (List Int)))) (ev_lstS (fun _ => ([] : List (List Int))) (eT eI) es_nil (fun _ => AllF.nil) (fun _ => rfl) (fun _ => rfl)) rfl) (ltb rfl) (fun longer_6 => (la_in (sb_seq (sb_forV (S := ((List (List Int)))) (e := (eT eI)) (xs := s3) (Γh := fun p11 ws12 s8 => [.sl (fz K ((eT eI) sizes_here)), .sl (lk K p11 ws12 (List.map (eT eI) s3)), .sl (fz K (eI x2)), .sl (ls K (List.map (eT eI) s8)), .un, .un]) longer_6 rfl (fun p11 ws12 => wk_mask [true, true, true, true, true, true] _) (fun _ _ _ => rfl) (fun p11 ws12 x7 s8 => (tg_name (ltb rfl))) (fun p11 ws12 x7 s8 kc9 => (sb_extendK (e := (eT eI)) (xs := s8) rfl (ev_lc (e := eI) (c := fun c14 => (ret true)) (f := fun c14 => (grd (x7.length + [c14].length ≤ 16777216) (ret (x7 ++ [c14])))) (ItG.is (w' := (grd (Rng x2) (ret (span 0 (x2).toNat)))) (it_range1 (ev_f (e := eI) x2 rfl)) rfl) (fun c14 => (tg_name (ltb rfl))) (fun c14 => (EvT.is (w' := (ret true)) et_yes rfl)) (fun c14 => (EvG.is (w' := (grd (x7.length + [c14].length ≤ 16777216) (ret (x7 ++ [c14])))) (ev_opF (ev_f (e := (eT eI)) x7 rfl) (ev_tupS (fun x => [x.1]) (eT eI) (es_f (ev_f (e := eI) c14 rfl) es_nil) (fun _ => (AllF.cons AllF.nil)) (fun _ => rfl) (fun _ => rfl)) (fun _ _ => o_catT _ _)) rfl))) (fun s13 => (Lands.wk (la_at s13) (wk_mask [true, true, true, true, false, true] _))))) (fun p11 ws12 s8 => (la_in (sb_move (S := ls K (List.map (eT eI) s8)) rfl (ltb rfl) rfl (by decide) (Lands.wk (la_at s8) (wk_mask [true, true, false, true, true, true] _)))))))))))) (fun s3 => (la_in (sb_retV (S := ls K (List.map (eT eI) s3)) (g := s3) rfl rfl rfl)))))))))
end
end Cf
namespace Cf
open PySem PySem.Spec PyProof.Rows L2 WL GxR
section
variable {P : Program} {w : World} {K : PySem.W.Frag} [Tbs K] {mg : Str → Option Value} {base : Heap}
set_option maxHeartbeats 4000000
theorem ok_l_grid (T : Tx K mg base) : FnOk P w K mg base CX0 2 T.f_l_grid T.d_l_grid ["_law_sizes_here", "_law_lanes", "_law_wraps"] (spN K (fun x : (List Int) × Int × Bool × Unit => [.d ((eT eI) x.1), .d (eI x.2.1), .d (eB x.2.2.1)]) (fun x => l_grid x.1 x.2.1 x.2.2.1) (fun r : (List (Int × Int × Int × Int × Int)) => .nw (ls K (List.map (e5 eI eI eI eI eI) r)))) := by
  have S := sc_l_grid
  refine fn_n (N := nn_l_grid) T.F_l_grid S (fun _ => rfl) (fun cdv A outer s H E hr => ?_)
  refine ⟨_, (pss_cons (ps_set (i := 3) S.nd rfl (by first | exact .inl rfl | exact .inr rfl) (pe_call (ok_l_places T) (hr.mono (by decide)) (by rfl) T.g_l_places T.F_l_places.kp T.b_l_places .nil pass0 (pa_cons (pv 0) pa_nil)))
      (pss_cons (ps_set (i := 4) S.nd rfl (by first | exact .inl rfl | exact .inr rfl) (pe_lst pa_nil))
      (pss_cons (ps_for PassesOwn.never rfl (pi_range1 (by rfl) T.z_range (pa_cons (pe_callB (call_lenK (K := K) rfl) (by rfl) T.z_len (by decide +kernel) (pa_cons (pv 3) pa_nil)) pa_nil)) (pg_name (i := 5) S.nd rfl (by first | exact .inl rfl | exact .inr rfl)) (pss_one (ps_for PassesOwn.never rfl (pi_range2 (by rfl) T.z_range (pa_cons (pe_op op_add (pv 5) pe_int) (pa_cons (pe_callB (call_lenK (K := K) rfl) (by rfl) T.z_len (by decide +kernel) (pa_cons (pv 3) pa_nil)) pa_nil))) (pg_name (i := 6) S.nd rfl (by first | exact .inl rfl | exact .inr rfl)) (pss_cons (ps_set (i := 7) S.nd rfl (by first | exact .inl rfl | exact .inr rfl) (pe_lc (own := [("_law_at", 10)]) rfl S.nd (pi_range1 (by rfl) T.z_range (pa_cons (pe_callB (call_lenK (K := K) rfl) (by rfl) T.z_len (by decide +kernel) (pa_cons (pv 0) pa_nil)) pa_nil)) (blkOk_by (N := nn_l_grid) (sc := (defScope s_l_grid)) (own := [("_law_at", 10)]) (by decide +kernel)) (fun _ _ _ _ _ => (pg_name (i := 10) S.nd rfl (by first | exact .inl rfl | exact .inr rfl))) (fun _ _ _ _ _ => (pts_one (pt_cmpR op_ne (pe_ix (ix_tupK (K := K) rfl) (pe_ix (ix_listK (K := K) rfl) (pv 3) (pv 5) (fun _ _ => rfl)) (pv 10) (fun _ _ => rfl)) (pe_ix (ix_tupK (K := K) rfl) (pe_ix (ix_listK (K := K) rfl) (pv 3) (pv 6) (fun _ _ => rfl)) (pv 10) (fun _ _ => rfl)) (nomark _)))) (fun _ _ _ _ _ => (pv 10))))
      (pss_cons (ps_set (i := 8) S.nd rfl (by first | exact .inl rfl | exact .inr rfl) (pe_callB call_abs (by rfl) T.z_abs (by decide +kernel) (pa_cons (pe_op op_sub (pe_ix (ix_tupK (K := K) rfl) (pe_ix (ix_listK (K := K) rfl) (pv 3) (pv 5) (fun _ _ => rfl)) (pe_ix (ix_listK (K := K) rfl) (pv 7) pe_int (fun _ _ => rfl)) (fun _ _ => rfl)) (pe_ix (ix_tupK (K := K) rfl) (pe_ix (ix_listK (K := K) rfl) (pv 3) (pv 6) (fun _ _ => rfl)) (pe_ix (ix_listK (K := K) rfl) (pv 7) pe_int (fun _ _ => rfl)) (fun _ _ => rfl))) pa_nil)))
      (pss_one (ps_if (PW.pt (pw_and (pt_cmpR op_eq (pe_callB (call_lenK (K := K) rfl) (by rfl) T.z_len (by decide +kernel) (pa_cons (pv 7) pa_nil)) pe_int (nomark _)) (pw_and1 (PW.pt (pw_or (pt_cmpR op_eq (pv 8) pe_int (nomark _)) (pw_or1 (PW.pt (pw_and (pt_val (pv 2)) (pw_and (pt_cmpR op_gt (pe_ix (ix_tupK (K := K) rfl) (pv 0) (pe_ix (ix_listK (K := K) rfl) (pv 7) pe_int (fun _ _ => rfl)) (fun _ _ => rfl)) pe_int (nomark _)) (pw_and1 (pt_cmpR op_eq (pv 8) (pe_op op_sub (pe_ix (ix_tupK (K := K) rfl) (pv 0) (pe_ix (ix_listK (K := K) rfl) (pv 7) pe_int (fun _ _ => rfl)) (fun _ _ => rfl)) pe_int) (nomark _)))))))))))) (pss_cons (ps_set (i := 9) S.nd rfl (by first | exact .inl rfl | exact .inr rfl) (pe_op op_sub (pe_ix (ix_tupK (K := K) rfl) (pe_ix (ix_listK (K := K) rfl) (pv 3) (pv 6) (fun _ _ => rfl)) (pe_ix (ix_listK (K := K) rfl) (pv 7) pe_int (fun _ _ => rfl)) (fun _ _ => rfl)) (pe_ix (ix_tupK (K := K) rfl) (pe_ix (ix_listK (K := K) rfl) (pv 3) (pv 5) (fun _ _ => rfl)) (pe_ix (ix_listK (K := K) rfl) (pv 7) pe_int (fun _ _ => rfl)) (fun _ _ => rfl))))
      (pss_cons (ps_expr (pe_bm PySem.F.plainAttrs_list PySem.F.slot_list_extend PySem.F.type_list_extend mt_extend (pv 4) (pa_cons (pe_lc (own := [("_law_lane", 11)]) rfl S.nd (pi_range1 (by rfl) T.z_range (pa_cons (pv 1) pa_nil)) (blkOk_by (N := nn_l_grid) (sc := (defScope s_l_grid)) (own := [("_law_lane", 11)]) (by decide +kernel)) (fun _ _ _ _ _ => (pg_name (i := 11) S.nd rfl (by first | exact .inl rfl | exact .inr rfl))) (fun _ _ _ _ _ => pts_nil) (fun _ _ _ _ _ => (pe_tup (pa_cons (pv 5) (pa_cons (pv 6) (pa_cons (pe_ix (ix_listK (K := K) rfl) (pv 7) pe_int (fun _ _ => rfl)) (pa_cons (pv 9) (pa_cons (pv 11) pa_nil)))))))) pa_nil)))
      (pss_one (ps_expr (pe_bm PySem.F.plainAttrs_list PySem.F.slot_list_extend PySem.F.type_list_extend mt_extend (pv 4) (pa_cons (pe_lc (own := [("_law_lane", 11)]) rfl S.nd (pi_range1 (by rfl) T.z_range (pa_cons (pv 1) pa_nil)) (blkOk_by (N := nn_l_grid) (sc := (defScope s_l_grid)) (own := [("_law_lane", 11)]) (by decide +kernel)) (fun _ _ _ _ _ => (pg_name (i := 11) S.nd rfl (by first | exact .inl rfl | exact .inr rfl))) (fun _ _ _ _ _ => pts_nil) (fun _ _ _ _ _ => (pe_tup (pa_cons (pv 6) (pa_cons (pv 5) (pa_cons (pe_ix (ix_listK (K := K) rfl) (pv 7) pe_int (fun _ _ => rfl)) (pa_cons (pe_un un_neg (pv 9)) (pa_cons (pv 11) pa_nil)))))))) pa_nil)))))) pss_nil)))))))
      (pss_one (ps_ret (pv 4)))))), ?_⟩
  rintro ⟨sizes_here, lanes, wraps, _⟩
  show SimB _ _ _ _ _ _ [.sl (fz K ((eT eI) sizes_here)), .sl (fz K (eI lanes)), .sl (fz K (eB wraps)), .un, .un, .un, .un, .un, .un, .un, .un, .un] (l_grid sizes_here lanes wraps)
  unfold l_grid
  exact (sb_seq (sb_setN (S := fun r => ls K (List.map (eT eI) r)) (EvG.is (w' := (noX (l_places sizes_here))) (ev_callNS (fun r => ls K (List.map (eT eI) r)) (es_f (ev_f (e := (eT eI)) sizes_here rfl) es_nil) (fun _ => rfl)) rfl) (ltb rfl) (fun places_here_1 => (la_in (sb_seq (sb_setN (S := fun r => ls K (List.map (e5 eI eI eI eI eI) r)) (EvG.is (w' := (ret ([] : List (Int × Int × Int × Int × Int)))) (ev_lstS (fun _ => ([] : List (Int × Int × Int × Int × Int))) (e5 eI eI eI eI eI) es_nil (fun _ => AllF.nil) (fun _ => rfl) (fun _ => rfl)) rfl) (ltb rfl) (fun found_2 => (la_in (sb_seq (sb_for (S := ((List (Int × Int × Int × Int × Int)))) (e := eI) (Γh := fun s4 => [.sl (fz K ((eT eI) sizes_here)), .sl (fz K (eI lanes)), .sl (fz K (eB wraps)), .sl (ls K (List.map (eT eI) places_here_1)), .sl (ls K (List.map (e5 eI eI eI eI eI) s4)), .un, .un, .un, .un, .un, .un, .un]) found_2 (ItG.is (w' := (grd (Rng (places_here_1.length : Int)) (ret (span 0 ((places_here_1.length : Int)).toNat)))) (it_range1 (ev_b1L (ev_l (e := (eT eI)) places_here_1 rfl) (fun _ => c_lenL _))) rfl) (fun _ h => nomatch h) (wk_mask [true, true, true, true, true, true, true, true, true, true, true, true] _) (fun x3 s4 => (tg_name (ltb rfl))) (fun x3 s4 kc5 => (sb_for (S := ((List (Int × Int × Int × Int × Int)))) (e := eI) (Γh := fun s8 => [.sl (fz K ((eT eI) sizes_here)), .sl (fz K (eI lanes)), .sl (fz K (eB wraps)), .sl (ls K (List.map (eT eI) places_here_1)), .sl (ls K (List.map (e5 eI eI eI eI eI) s8)), .sl (fz K (eI x3)), .un, .un, .un, .un, .un, .un]) s4 (ItG.is (w' := (grd (Rng (x3 + (1 : Int)) ∧ Rng (places_here_1.length : Int)) (ret (span (x3 + (1 : Int)) ((places_here_1.length : Int) - (x3 + (1 : Int))).toNat)))) (it_range2 (ev_opF (ev_f (e := eI) x3 rfl) ev_int (fun _ _ => o_add _ _)) (ev_b1L (ev_l (e := (eT eI)) places_here_1 rfl) (fun _ => c_lenL _))) rfl) (fun _ h => nomatch h) (wk_mask [true, true, true, true, true, true, true, true, true, true, true, true] _) (fun x7 s8 => (tg_name (ltb rfl))) (fun x7 s8 kc9 => (sb_seq (sb_setN (S := fun r => ls K (List.map eI r)) (ev_lc (e := eI) (c := fun c11 => (bnd (bnd (opt (atI places_here_1 x3)) fun x12 => opt (atI x12 c11)) fun x14 => bnd (bnd (opt (atI places_here_1 x7)) fun x13 => opt (atI x13 c11)) fun x15 => ret (!decide (x14 = x15)))) (f := fun c11 => (ret c11)) (ItG.is (w' := (grd (Rng (sizes_here.length : Int)) (ret (span 0 ((sizes_here.length : Int)).toNat)))) (it_range1 (ev_b1F (ev_f (e := (eT eI)) sizes_here rfl) (fun _ => c_lenT _))) rfl) (fun c11 => (tg_name (ltb rfl))) (fun c11 => (EvT.is (w' := (bnd (bnd (opt (atI places_here_1 x3)) fun x12 => opt (atI x12 c11)) fun x14 => bnd (bnd (opt (atI places_here_1 x7)) fun x13 => opt (atI x13 c11)) fun x15 => ret (!decide (x14 = x15)))) (et_test (ev_opF (ev_opF (ev_opLF (ev_l (e := (eT eI)) places_here_1 rfl) (ev_f (e := eI) x3 rfl) (fun _ _ => o_ixL _ _)) (ev_f (e := eI) c11 rfl) (fun _ _ => o_ixT _ _)) (ev_opF (ev_opLF (ev_l (e := (eT eI)) places_here_1 rfl) (ev_f (e := eI) x7 rfl) (fun _ _ => o_ixL _ _)) (ev_f (e := eI) c11 rfl) (fun _ _ => o_ixT _ _)) (fun _ _ => o_neI _ _))) (by simp only [ret_bnd, bnd_bnd, mapW_bnd, mapW_ret] <;> rfl))) (fun c11 => (EvG.is (w' := (ret c11)) (ev_f (e := eI) c11 rfl) rfl))) (ltb rfl) (fun apart_17 => (la_in (sb_seq (sb_set (e := eI) (EvG.is (w' := (bnd (bnd (bnd (opt (atI places_here_1 x3)) fun x18 => bnd (opt (atI apart_17 (0 : Int))) fun x19 => opt (atI x18 x19)) fun x22 => bnd (bnd (opt (atI places_here_1 x7)) fun x20 => bnd (opt (atI apart_17 (0 : Int))) fun x21 => opt (atI x20 x21)) fun x23 => ret (x22 - x23)) fun x24 => ret (if x24 < 0 then -x24 else x24))) (ev_b1F (ev_opF (ev_opF (ev_opLF (ev_l (e := (eT eI)) places_here_1 rfl) (ev_f (e := eI) x3 rfl) (fun _ _ => o_ixL _ _)) (ev_opLF (ev_l (e := eI) apart_17 rfl) ev_int (fun _ _ => o_ixL _ _)) (fun _ _ => o_ixT _ _)) (ev_opF (ev_opLF (ev_l (e := (eT eI)) places_here_1 rfl) (ev_f (e := eI) x7 rfl) (fun _ _ => o_ixL _ _)) (ev_opLF (ev_l (e := eI) apart_17 rfl) ev_int (fun _ _ => o_ixL _ _)) (fun _ _ => o_ixT _ _)) (fun _ _ => o_sub _ _)) (fun _ => c_abs _)) (by simp only [ret_bnd, bnd_bnd, mapW_bnd, mapW_ret] <;> rfl)) (ltb rfl) (fun far_here_25 => (la_in (sb_if (EvT.is (w' := (sel (decide ((apart_17.length : Int) = (1 : Int))) (sel (decide (far_here_25 = (1 : Int))) (ret true) (sel wraps (bnd (bnd (bnd (opt (atI apart_17 (0 : Int))) fun x26 => opt (atI sizes_here x26)) fun x27 => ret (decide ((2 : Int) < x27))) fun x31 => sel x31 (bnd (bnd (bnd (opt (atI apart_17 (0 : Int))) fun x28 => opt (atI sizes_here x28)) fun x29 => ret (x29 - (1 : Int))) fun x30 => ret (decide (far_here_25 = x30))) (ret false)) (ret false))) (ret false))) (et_and (et_test (ev_opF (ev_b1L (ev_l (e := eI) apart_17 rfl) (fun _ => c_lenL _)) ev_int (fun _ _ => o_eqI _ _))) (et_or (et_test (ev_opF (ev_f (e := eI) far_here_25 rfl) ev_int (fun _ _ => o_eqI _ _))) (et_and (et_B (ev_f (e := eB) wraps rfl)) (et_and (et_test (ev_opF (ev_opF (ev_f (e := (eT eI)) sizes_here rfl) (ev_opLF (ev_l (e := eI) apart_17 rfl) ev_int (fun _ _ => o_ixL _ _)) (fun _ _ => o_ixT _ _)) ev_int (fun _ _ => o_gt _ _))) (et_test (ev_opF (ev_f (e := eI) far_here_25 rfl) (ev_opF (ev_opF (ev_f (e := (eT eI)) sizes_here rfl) (ev_opLF (ev_l (e := eI) apart_17 rfl) ev_int (fun _ _ => o_ixL _ _)) (fun _ _ => o_ixT _ _)) ev_int (fun _ _ => o_sub _ _)) (fun _ _ => o_eqI _ _))))))) (by simp only [ret_bnd, bnd_bnd, mapW_bnd, mapW_ret] <;> rfl)) (sb_seq (sb_set (e := eI) (EvG.is (w' := (bnd (bnd (opt (atI places_here_1 x7)) fun x33 => bnd (opt (atI apart_17 (0 : Int))) fun x34 => opt (atI x33 x34)) fun x37 => bnd (bnd (opt (atI places_here_1 x3)) fun x35 => bnd (opt (atI apart_17 (0 : Int))) fun x36 => opt (atI x35 x36)) fun x38 => ret (x37 - x38))) (ev_opF (ev_opF (ev_opLF (ev_l (e := (eT eI)) places_here_1 rfl) (ev_f (e := eI) x7 rfl) (fun _ _ => o_ixL _ _)) (ev_opLF (ev_l (e := eI) apart_17 rfl) ev_int (fun _ _ => o_ixL _ _)) (fun _ _ => o_ixT _ _)) (ev_opF (ev_opLF (ev_l (e := (eT eI)) places_here_1 rfl) (ev_f (e := eI) x3 rfl) (fun _ _ => o_ixL _ _)) (ev_opLF (ev_l (e := eI) apart_17 rfl) ev_int (fun _ _ => o_ixL _ _)) (fun _ _ => o_ixT _ _)) (fun _ _ => o_sub _ _)) (by simp only [ret_bnd, bnd_bnd, mapW_bnd, mapW_ret] <;> rfl)) (ltb rfl) (fun by_39 => (la_in (sb_seq (sb_extendK (e := (e5 eI eI eI eI eI)) (xs := s8) rfl (ev_lc (e := eI) (c := fun c41 => (ret true)) (f := fun c41 => (bnd (opt (atI apart_17 (0 : Int))) fun x42 => ret (x3, x7, x42, by_39, c41))) (ItG.is (w' := (grd (Rng lanes) (ret (span 0 (lanes).toNat)))) (it_range1 (ev_f (e := eI) lanes rfl)) rfl) (fun c41 => (tg_name (ltb rfl))) (fun c41 => (EvT.is (w' := (ret true)) et_yes rfl)) (fun c41 => (EvG.is (w' := (bnd (opt (atI apart_17 (0 : Int))) fun x42 => ret (x3, x7, x42, by_39, c41))) (ev_tupS (fun x => (x.1, x.2.1, x.2.2.1, x.2.2.2.1, x.2.2.2.2.1)) (e5 eI eI eI eI eI) (es_f (ev_f (e := eI) x3 rfl) (es_f (ev_f (e := eI) x7 rfl) (es_f (ev_opLF (ev_l (e := eI) apart_17 rfl) ev_int (fun _ _ => o_ixL _ _)) (es_f (ev_f (e := eI) by_39 rfl) (es_f (ev_f (e := eI) c41 rfl) es_nil))))) (fun _ => (AllF.cons (AllF.cons (AllF.cons (AllF.cons (AllF.cons AllF.nil)))))) (fun _ => rfl) (fun _ => rfl)) rfl))) (fun s40 => (la_in (sb_extendK (e := (e5 eI eI eI eI eI)) (xs := s40) rfl (ev_lc (e := eI) (c := fun c45 => (ret true)) (f := fun c45 => (bnd (opt (atI apart_17 (0 : Int))) fun x46 => ret (x7, x3, x46, (-by_39), c45))) (ItG.is (w' := (grd (Rng lanes) (ret (span 0 (lanes).toNat)))) (it_range1 (ev_f (e := eI) lanes rfl)) rfl) (fun c45 => (tg_name (ltb rfl))) (fun c45 => (EvT.is (w' := (ret true)) et_yes rfl)) (fun c45 => (EvG.is (w' := (bnd (opt (atI apart_17 (0 : Int))) fun x46 => ret (x7, x3, x46, (-by_39), c45))) (ev_tupS (fun x => (x.1, x.2.1, x.2.2.1, x.2.2.2.1, x.2.2.2.2.1)) (e5 eI eI eI eI eI) (es_f (ev_f (e := eI) x7 rfl) (es_f (ev_f (e := eI) x3 rfl) (es_f (ev_opLF (ev_l (e := eI) apart_17 rfl) ev_int (fun _ _ => o_ixL _ _)) (es_f (ev_un (ev_f (e := eI) by_39 rfl) (fun _ => u_neg _)) (es_f (ev_f (e := eI) c45 rfl) es_nil))))) (fun _ => (AllF.cons (AllF.cons (AllF.cons (AllF.cons (AllF.cons AllF.nil)))))) (fun _ => rfl) (fun _ => rfl)) rfl))) (fun s44 => (Lands.wk (la_at s44) (wk_mask [true, true, true, true, true, true, false, false, false, false, true, true] _)))))))))))) (sb_next (Lands.wk (la_at s8) (wk_mask [true, true, true, true, true, true, false, false, false, true, true, true] _))))))))))))) (fun s8 => (Lands.wk (la_at s8) (wk_mask [true, true, true, true, true, false, true, true, true, true, true, true] _))))) (fun s4 => (la_in (sb_retV (S := ls K (List.map (e5 eI eI eI eI eI) s4)) (g := s4) rfl rfl rfl)))))))))))))
end
end Cf
namespace Cf
open PySem PySem.Spec PyProof.Rows L2 WL GxR
section
variable {P : Program} {w : World} {K : PySem.W.Frag} [Tbs K] {mg : Str → Option Value} {base : Heap}
set_option maxHeartbeats 4000000
theorem ok_l_network (T : Tx K mg base) : FnOk P w K mg base CX0 3 T.f_l_network T.d_l_network ["_law_sizes_here", "_law_lanes", "_law_wraps", "_law_room"] (spN K (fun x : (List Int) × Int × Bool × Int × Unit => [.d ((eT eI) x.1), .d (eI x.2.1), .d (eB x.2.2.1), .d (eI x.2.2.2.1)]) (fun x => l_network x.1 x.2.1 x.2.2.1 x.2.2.2.1) (fun r : (Int × (List (Int × Int × Int))) => .fz ((e2 eI (eT (e3 eI eI eI))) r))) := by
  have S := sc_l_network
  refine fn_n (N := nn_l_network) T.F_l_network S (fun _ => rfl) (fun cdv A outer s H E hr => ?_)
  refine ⟨_, (pss_one (ps_ret (pe_tup (pa_cons (pe_callB (call_lenK (K := K) rfl) (by rfl) T.z_len (by decide +kernel) (pa_cons (pe_call (ok_l_places T) (hr.mono (by decide)) (by rfl) T.g_l_places T.F_l_places.kp T.b_l_places .nil pass0 (pa_cons (pv 0) pa_nil)) pa_nil)) (pa_cons (pe_callTy (call_tupK (K := K) rfl) (by rfl) T.z_tuple (by decide +kernel) (pa_cons (pe_lc (own := [("_law_row", 4)]) rfl S.nd (pi_listK (K := K) rfl (pe_call (ok_l_grid T) (hr.mono (by decide)) (by rfl) T.g_l_grid T.F_l_grid.kp T.b_l_grid .nil pass0 (pa_cons (pv 0) (pa_cons (pv 1) (pa_cons (pv 2) pa_nil))))) (blkOk_by (N := nn_l_network) (sc := (defScope s_l_network)) (own := [("_law_row", 4)]) (by decide +kernel)) (fun _ _ _ _ _ => (pg_name (i := 4) S.nd rfl (by first | exact .inl rfl | exact .inr rfl))) (fun _ _ _ _ _ => pts_nil) (fun _ _ _ _ _ => (pe_tup (pa_cons (pe_ix (ix_tupK (K := K) rfl) (pv 4) pe_int (fun _ _ => rfl)) (pa_cons (pe_ix (ix_tupK (K := K) rfl) (pv 4) pe_int (fun _ _ => rfl)) (pa_cons (pv 3) pa_nil)))))) pa_nil)) pa_nil))))), ?_⟩
  rintro ⟨sizes_here, lanes, wraps, room, _⟩
  show SimB _ _ _ _ _ _ [.sl (fz K ((eT eI) sizes_here)), .sl (fz K (eI lanes)), .sl (fz K (eB wraps)), .sl (fz K (eI room)), .un] (l_network sizes_here lanes wraps room)
  unfold l_network
  exact (sb_retF (EvG.is (w' := (bnd (bnd (noX (l_places sizes_here)) fun x1 => ret (x1.length : Int)) fun x4 => bnd (bnd (noX (l_grid sizes_here lanes wraps)) fun l3 => lcG (fun c2 => (ret true)) (fun c2 => (ret (c2.1, c2.2.1, room))) l3) fun x5 => ret (x4, x5))) (ev_tupS (fun x => (x.1, x.2.1)) (e2 eI (eT (e3 eI eI eI))) (es_f (ev_b1L (EvG.rl (ev_callNS (fun r => ls K (List.map (eT eI) r)) (es_f (ev_f (e := (eT eI)) sizes_here rfl) es_nil) (fun _ => rfl))) (fun _ => c_lenL _)) (es_f (ev_b1L (EvG.rl (ev_lc (e := (e5 eI eI eI eI eI)) (c := fun c2 => (ret true)) (f := fun c2 => (ret (c2.1, c2.2.1, room))) (ItG.is (w' := (noX (l_grid sizes_here lanes wraps))) (it_list (ev_callNS (fun r => ls K (List.map (e5 eI eI eI eI eI) r)) (es_f (ev_f (e := (eT eI)) sizes_here rfl) (es_f (ev_f (e := eI) lanes rfl) (es_f (ev_f (e := eB) wraps rfl) es_nil))) (fun _ => rfl))) (by rfl)) (fun c2 => (tg_name (ltb rfl))) (fun c2 => (EvT.is (w' := (ret true)) et_yes rfl)) (fun c2 => (EvG.is (w' := (ret (c2.1, c2.2.1, room))) (ev_tupS (fun x => (x.1, x.2.1, x.2.2.1)) (e3 eI eI eI) (es_f (ev_ixW (e' := eI) (fun a => a.1) 0 (ev_f (e := (e5 eI eI eI eI eI)) c2 rfl) rfl (fun _ => ⟨_, rfl, rfl⟩)) (es_f (ev_ixW (e' := eI) (fun a => a.2.1) 1 (ev_f (e := (e5 eI eI eI eI eI)) c2 rfl) rfl (fun _ => ⟨_, rfl, rfl⟩)) (es_f (ev_f (e := eI) room rfl) es_nil))) (fun _ => (AllF.cons (AllF.cons (AllF.cons AllF.nil)))) (fun _ => rfl) (fun _ => rfl)) rfl)))) (fun _ => c_tupL _)) es_nil)) (fun _ => (AllF.cons (AllF.cons AllF.nil))) (fun _ => rfl) (fun _ => rfl)) (by simp only [ret_bnd, bnd_bnd, mapW_bnd, mapW_ret] <;> rfl)) (fun _ => rfl))
end
end Cf
namespace Cf
open PySem PySem.Spec PyProof.Rows L2 WL GxR
section
variable {P : Program} {w : World} {K : PySem.W.Frag} [Tbs K] {mg : Str → Option Value} {base : Heap}
set_option maxHeartbeats 4000000
theorem ok_l_far (T : Tx K mg base) : FnOk P w K mg base CX0 1 T.f_l_far T.d_l_far ["_law_network_here"] (spN K (fun x : (Int × (List (Int × Int × Int))) × Unit => [.d ((e2 eI (eT (e3 eI eI eI))) x.1)]) (fun x => l_far x.1) (fun r : (List (List Int)) => .nw (ls2 K (e2L eI r)))) := by
  have S := sc_l_far
  refine fn_n (N := nn_l_far) T.F_l_far S (fun _ => rfl) (fun cdv A outer s H E hr => ?_)
  refine ⟨_, (pss_cons (ps_set (i := 1) S.nd rfl (by first | exact .inl rfl | exact .inr rfl) (pe_ix (ix_tupK (K := K) rfl) (pv 0) pe_int (fun _ _ => rfl)))
      (pss_cons (ps_setLc (i := 4) (own := [("_law_u", 2)]) rfl S.nd rfl rfl (sw_true rfl rfl rfl (by decide +kernel)) (pi_range1 (by rfl) T.z_range (pa_cons (pv 1) pa_nil)) (blkOk_by (N := nn_l_far) (sc := (defScope s_l_far)) (own := [("_law_u", 2)]) (by decide +kernel)) (fun _ _ _ _ _ => (pg_name (i := 2) S.nd rfl (by first | exact .inl rfl | exact .inr rfl))) (fun _ _ _ _ _ => pts_nil) (fun _ _ _ _ _ => (pe_lc (own := [("_law_d", 3)]) rfl S.nd (pi_range1 (by rfl) T.z_range (pa_cons (pv 1) pa_nil)) (blkOk_by (N := nn_l_far) (sc := (relS ({ kind := .function, names := [(".0", .«local»), ("_law_u", .cell), ("range", .globalImplicit), ("_law_n", .free)], isGenerator := false, isCoroutine := false, more := [] } : Scope) (defScope s_l_far))) (own := [("_law_d", 3)]) (by decide +kernel)) (fun _ _ _ _ _ => (pg_name (i := 3) S.nd rfl (by first | exact .inl rfl | exact .inr rfl))) (fun _ _ _ _ _ => pts_nil) (fun _ _ _ _ _ => (pe_ifExp (pt_cmpR op_eq (pv 2) (pv 3) (nomark _)) pe_int pe_int)))))
      (pss_cons (ps_for PassesOwn.never rfl (pi_tupK (K := K) rfl (pe_ix (ix_tupK (K := K) rfl) (pv 0) pe_int (fun _ _ => rfl))) (pg_tupK (n := 3) (K := K) rfl rfl (pgs_cons (pg_name (i := 5) S.nd rfl (by first | exact .inl rfl | exact .inr rfl)) (pgs_cons (pg_name (i := 6) S.nd rfl (by first | exact .inl rfl | exact .inr rfl)) (pgs_cons (pg_name (i := 7) S.nd rfl (by first | exact .inl rfl | exact .inr rfl)) pgs_nil)))) (pss_cons (ps_set (i := 8) S.nd rfl (by first | exact .inl rfl | exact .inr rfl) (pe_ix (ix_listK (K := K) rfl) (pv 4) (pv 5) (fun _ _ => rfl)))
      (pss_one (ps_asg (pe_callB (call_min2 rfl) (by rfl) T.z_min (by decide +kernel) (pa_cons (pe_ix (ix_listK (K := K) rfl) (pv 8) (pv 6) (fun _ _ => rfl)) (pa_cons pe_int pa_nil))) (pg_sub (pv 8) (pv 6) set_list)))))
      (pss_cons (ps_for PassesOwn.never rfl (pi_range1 (by rfl) T.z_range (pa_cons (pv 1) pa_nil)) (pg_name (i := 9) S.nd rfl (by first | exact .inl rfl | exact .inr rfl)) (pss_one (ps_for PassesOwn.never rfl (pi_range1 (by rfl) T.z_range (pa_cons (pv 1) pa_nil)) (pg_name (i := 2) S.nd rfl (by first | exact .inl rfl | exact .inr rfl)) (pss_cons (ps_set (i := 8) S.nd rfl (by first | exact .inl rfl | exact .inr rfl) (pe_ix (ix_listK (K := K) rfl) (pv 4) (pv 2) (fun _ _ => rfl)))
      (pss_one (ps_for PassesOwn.never rfl (pi_range1 (by rfl) T.z_range (pa_cons (pv 1) pa_nil)) (pg_name (i := 3) S.nd rfl (by first | exact .inl rfl | exact .inr rfl)) (pss_one (ps_asg (pe_callB (call_min2 rfl) (by rfl) T.z_min (by decide +kernel) (pa_cons (pe_ix (ix_listK (K := K) rfl) (pv 8) (pv 3) (fun _ _ => rfl)) (pa_cons (pe_op op_add (pe_ix (ix_listK (K := K) rfl) (pv 8) (pv 9) (fun _ _ => rfl)) (pe_ix (ix_listK (K := K) rfl) (pe_ix (ix_listK (K := K) rfl) (pv 4) (pv 9) (fun _ _ => rfl)) (pv 3) (fun _ _ => rfl))) pa_nil))) (pg_sub (pv 8) (pv 3) set_list)))))))))
      (pss_one (ps_ret (pv 4))))))), ?_⟩
  rintro ⟨network_here, _⟩
  show SimB _ _ _ _ _ _ [.sl (fz K ((e2 eI (eT (e3 eI eI eI))) network_here)), .un, .un, .un, .un, .un, .un, .un, .un, .un] (l_far network_here)
  unfold l_far
  exact (sb_seq (sb_set (e := eI) (EvG.is (w' := (ret network_here.1)) (ev_ixW (e' := eI) (fun a => a.1) 0 (ev_f (e := (e2 eI (eT (e3 eI eI eI)))) network_here rfl) rfl (fun _ => ⟨_, rfl, rfl⟩)) rfl) (ltb rfl) (fun n_1 => (la_in (sb_seq (sb_setN (S := fun r => ls2 K (e2L eI r)) (ev_lcN (e := eI) (c := fun c2 => (ret true)) (f := fun c2 => (bnd (grd (Rng n_1) (ret (span 0 (n_1).toNat))) fun l4 => lcG (fun c3 => (ret true)) (fun c3 => (sel (decide (c2 = c3)) (ret (0 : Int)) (ret (999 : Int)))) l4)) (ItG.is (w' := (grd (Rng n_1) (ret (span 0 (n_1).toNat)))) (it_range1 (ev_f (e := eI) n_1 rfl)) rfl) (fun c2 => (tg_name (ltb rfl))) (fun c2 => (EvT.is (w' := (ret true)) et_yes rfl)) (fun c2 => (ev_lc (e := eI) (c := fun c3 => (ret true)) (f := fun c3 => (sel (decide (c2 = c3)) (ret (0 : Int)) (ret (999 : Int)))) (ItG.is (w' := (grd (Rng n_1) (ret (span 0 (n_1).toNat)))) (it_range1 (ev_f (e := eI) n_1 rfl)) rfl) (fun c3 => (tg_name (ltb rfl))) (fun c3 => (EvT.is (w' := (ret true)) et_yes rfl)) (fun c3 => (EvG.is (w' := (sel (decide (c2 = c3)) (ret (0 : Int)) (ret (999 : Int)))) (ev_ifF (et_test (ev_opF (ev_f (e := eI) c2 rfl) (ev_f (e := eI) c3 rfl) (fun _ _ => o_eqI _ _))) ev_int ev_int) rfl))))) (ltb rfl) (fun far_here_6 => (la_in (sb_seq (sb_for (S := ((List (List Int)))) (e := (e3 eI eI eI)) (Γh := fun s8 => [.sl (fz K ((e2 eI (eT (e3 eI eI eI))) network_here)), .sl (fz K (eI n_1)), .un, .un, .sl (ls2 K (e2L eI s8)), .un, .un, .un, .un, .un]) far_here_6 (ItG.is (w' := (ret network_here.2)) (it_tup (ev_ixW (e' := (eT (e3 eI eI eI))) (fun a => a.2) 1 (ev_f (e := (e2 eI (eT (e3 eI eI eI)))) network_here rfl) rfl (fun _ => ⟨_, rfl, rfl⟩))) rfl) (fun _ h => nomatch h) (wk_mask [true, true, true, true, true, true, true, true, true, true] _) (fun x7 s8 => (tg_tup (ds := [eI (x7.1), eI (x7.2.1), eI (x7.2.2)]) (ts_cons (tg_name (ltb rfl)) (ts_cons (tg_name (ltb rfl)) (ts_cons (tg_name (ltb rfl)) ts_nil))) rfl rfl)) (fun x7 s8 kc9 => (sb_seq (sb_open (e := eI) (xss := s8) rfl (by decide) (ltb rfl) (EvG.is (w' := (ret (x7.1))) (ev_f (e := eI) (x7.1) rfl) rfl) (fun rs12 a11 => (la_in (sb_alSet (i := 4) (kk := 8) (j := a11) (rs := rs12) (e := eI) (xss := s8) rfl rfl (EvG.is (w' := (bnd (bnd (opt (s8)[a11]?) fun x13 => opt (atI x13 (x7.2.1))) fun x14 => ret (if (1 : Int) < x14 then (1 : Int) else x14))) (ev_min2 (ev_opLF (ev_al (i := 4) (k := 8) (j := a11) (rs := rs12) (e := eI) (xss := s8) rfl rfl) (ev_f (e := eI) (x7.2.1) rfl) (fun _ _ => o_ixL _ _)) ev_int) rfl) (EvG.is (w' := (ret (x7.2.1))) (ev_f (e := eI) (x7.2.1) rfl) rfl) (fun s15 => (la_unpinG (i := 4) (rs := rs12) (dss := e2L eI s15) (Γ' := [.sl (fz K ((e2 eI (eT (e3 eI eI eI))) network_here)), .sl (fz K (eI n_1)), .un, .un, .sl (ls2 K (e2L eI s15)), .sl (fz K (eI (x7.1))), .sl (fz K (eI (x7.2.1))), .sl (fz K (eI (x7.2.2))), .sl (alr rs12 a11), .un]) rfl rfl (Lands.wk (la_at s15) (wk_mask [true, true, true, true, true, false, false, false, false, true] _)))))))))) (fun s8 => (la_in (sb_seq (sb_for (S := ((List (List Int)))) (e := eI) (Γh := fun s17 => [.sl (fz K ((e2 eI (eT (e3 eI eI eI))) network_here)), .sl (fz K (eI n_1)), .un, .un, .sl (ls2 K (e2L eI s17)), .un, .un, .un, .un, .un]) s8 (ItG.is (w' := (grd (Rng n_1) (ret (span 0 (n_1).toNat)))) (it_range1 (ev_f (e := eI) n_1 rfl)) rfl) (fun _ h => nomatch h) (wk_mask [true, true, true, true, true, true, true, true, true, true] _) (fun x16 s17 => (tg_name (ltb rfl))) (fun x16 s17 kc18 => (sb_for (S := ((List (List Int)))) (e := eI) (Γh := fun s21 => [.sl (fz K ((e2 eI (eT (e3 eI eI eI))) network_here)), .sl (fz K (eI n_1)), .un, .un, .sl (ls2 K (e2L eI s21)), .un, .un, .un, .un, .sl (fz K (eI x16))]) s17 (ItG.is (w' := (grd (Rng n_1) (ret (span 0 (n_1).toNat)))) (it_range1 (ev_f (e := eI) n_1 rfl)) rfl) (fun _ h => nomatch h) (wk_mask [true, true, true, true, true, true, true, true, true, true] _) (fun x20 s21 => (tg_name (ltb rfl))) (fun x20 s21 kc22 => (sb_seq (sb_open (e := eI) (xss := s21) rfl (by decide) (ltb rfl) (EvG.is (w' := (ret x20)) (ev_f (e := eI) x20 rfl) rfl) (fun rs25 a24 => (la_in (sb_for (S := ((List (List Int)))) (e := eI) (Γh := fun s27 => [.sl (fz K ((e2 eI (eT (e3 eI eI eI))) network_here)), .sl (fz K (eI n_1)), .sl (fz K (eI x20)), .un, .sl (lp2 K rs25 (e2L eI s27)), .un, .un, .un, .sl (alr rs25 a24), .sl (fz K (eI x16))]) s21 (ItG.is (w' := (grd (Rng n_1) (ret (span 0 (n_1).toNat)))) (it_range1 (ev_f (e := eI) n_1 rfl)) rfl) (fun _ h => nomatch h) (wk_mask [true, true, true, true, true, true, true, true, true, true] _) (fun x26 s27 => (tg_name (ltb rfl))) (fun x26 s27 kc28 => (sb_alSet (i := 4) (kk := 8) (j := a24) (rs := rs25) (e := eI) (xss := s27) rfl rfl (EvG.is (w' := (bnd (bnd (opt (s27)[a24]?) fun x30 => opt (atI x30 x26)) fun x35 => bnd (bnd (bnd (opt (s27)[a24]?) fun x31 => opt (atI x31 x16)) fun x33 => bnd (bnd (opt (atI s27 x16)) fun x32 => opt (atI x32 x26)) fun x34 => ret (x33 + x34)) fun x36 => ret (if x36 < x35 then x36 else x35))) (ev_min2 (ev_opLF (ev_al (i := 4) (k := 8) (j := a24) (rs := rs25) (e := eI) (xss := s27) rfl rfl) (ev_f (e := eI) x26 rfl) (fun _ _ => o_ixL _ _)) (ev_opF (ev_opLF (ev_al (i := 4) (k := 8) (j := a24) (rs := rs25) (e := eI) (xss := s27) rfl rfl) (ev_f (e := eI) x16 rfl) (fun _ _ => o_ixL _ _)) (ev_opLF (ev_unpin (i := 4) (rs := rs25) (dss := e2L eI s27) rfl (ev_ix2 (e := eI) s27 (.inl rfl) (ev_f (e := eI) x16 rfl))) (ev_f (e := eI) x26 rfl) (fun _ _ => o_ixL _ _)) (fun _ _ => o_add _ _))) (by simp only [ret_bnd, bnd_bnd, mapW_bnd, mapW_ret] <;> rfl)) (EvG.is (w' := (ret x26)) (ev_f (e := eI) x26 rfl) rfl) (fun s37 => (Lands.wk (la_at s37) (wk_mask [true, true, true, false, true, true, true, true, true, true] _))))) (fun s27 => (la_unpinG (i := 4) (rs := rs25) (dss := e2L eI s27) (Γ' := [.sl (fz K ((e2 eI (eT (e3 eI eI eI))) network_here)), .sl (fz K (eI n_1)), .sl (fz K (eI x20)), .un, .sl (ls2 K (e2L eI s27)), .un, .un, .un, .sl (alr rs25 a24), .sl (fz K (eI x16))]) rfl rfl (Lands.wk (la_at s27) (wk_mask [true, true, false, true, true, true, true, true, false, true] _)))))))))) (fun s21 => (Lands.wk (la_at s21) (wk_mask [true, true, true, true, true, true, true, true, true, false] _))))) (fun s17 => (la_in (sb_retV (S := ls2 K (e2L eI s17)) (g := s17) rfl rfl rfl)))))))))))))))))
end
end Cf
namespace Cf
open PySem PySem.Spec PyProof.Rows L2 WL GxR
section
variable {P : Program} {w : World} {K : PySem.W.Frag} [Tbs K] {mg : Str → Option Value} {base : Heap}
set_option maxHeartbeats 4000000
theorem ok_p_distances_from (T : Tx K mg base) : FnOk P w K mg base CX0 1 T.f_p_distances_from T.d_p_distances_from ["beside", "u"] (spN K (fun x : (List (List Int)) × Int × Unit => [.b (ls2 K (e2L eI x.1)), .d (eI x.2.1)]) (fun x => p_distances_from x.1 x.2.1) (fun r : (List (Option Int)) => .fz ((eT (eO eI)) r))) := by
  have S := sc_p_distances_from
  refine fn_n (N := nn_p_distances_from) T.F_p_distances_from S (fun _ => rfl) (fun cdv A outer s H E hr => ?_)
  refine ⟨_, (pss_cons (ps_set (i := 2) S.nd rfl (by first | exact .inl rfl | exact .inr rfl) (pe_op op_rep (pe_lst (pa_cons pe_non pa_nil)) (pe_callB (call_lenK (K := K) rfl) (by rfl) T.z_len (by decide +kernel) (pa_cons (pv 0) pa_nil))))
      (pss_cons (ps_asg pe_int (pg_sub (pv 2) (pv 1) set_list))
      (pss_cons (ps_set (i := 3) S.nd rfl (by first | exact .inl rfl | exact .inr rfl) (pe_lst (pa_cons (pv 1) pa_nil)))
      (pss_cons (ps_while PassesOwn.never (pt_truthK (K := K) rfl (pv 3) (by intro _; rfl)) (pss_cons (ps_set (i := 4) S.nd rfl (by first | exact .inl rfl | exact .inr rfl) (pe_lst pa_nil))
      (pss_cons (ps_for PassesOwn.never rfl (pi_listK (K := K) rfl (pv 3)) (pg_name (i := 5) S.nd rfl (by first | exact .inl rfl | exact .inr rfl)) (pss_one (ps_for PassesOwn.never rfl (pi_listK (K := K) rfl (pe_ix (ix_listK (K := K) rfl) (pv 0) (pv 5) (fun _ _ => rfl))) (pg_name (i := 6) S.nd rfl (by first | exact .inl rfl | exact .inr rfl)) (pss_one (ps_if (pt_cmpR op_isN (pe_ix (ix_listK (K := K) rfl) (pv 2) (pv 6) (fun _ _ => rfl)) pe_non (nomark _)) (pss_cons (ps_asg (pe_op op_add (pe_ix (ix_listK (K := K) rfl) (pv 2) (pv 5) (fun _ _ => rfl)) pe_int) (pg_sub (pv 2) (pv 6) set_list))
      (pss_one (ps_expr (pe_bm PySem.F.plainAttrs_list PySem.F.slot_list_append PySem.F.type_list_append mt_append (pv 4) (pa_cons (pv 6) pa_nil))))) pss_nil)))))
      (pss_one (ps_set (i := 3) S.nd rfl (by first | exact .inl rfl | exact .inr rfl) (pv 4))))))
      (pss_one (ps_ret (pe_callTy (call_tupK (K := K) rfl) (by rfl) T.z_tuple (by decide +kernel) (pa_cons (pv 2) pa_nil)))))))), ?_⟩
  rintro ⟨beside, u, _⟩
  show SimB _ _ _ _ _ _ [.rb (ls2 K (e2L eI beside)), .sl (fz K (eI u)), .un, .un, .un, .un, .un] (p_distances_from beside u)
  unfold p_distances_from
  exact (sb_seq (sb_setN (S := fun r => ls K (List.map (eO eI) r)) (EvG.is (w' := (grd (-(2 ^ 63) ≤ (beside.length : Int) ∧ (beside.length : Int) < 2 ^ 63 ∧ [(none : (Option Int))].length * ((beside.length : Int)).toNat ≤ 16777216) (ret (repL [(none : (Option Int))] (beside.length : Int))))) (ev_opNF (ev_lstS (fun x => [x.1]) (eO eI) (es_f (ev_nonO (e := eI)) es_nil) (fun _ => (AllF.cons AllF.nil)) (fun _ => rfl) (fun _ => rfl)) (ev_len2 (e := eI) beside (.inr rfl)) (fun _ _ => o_rep _ _)) rfl) (ltb rfl) (fun found_1 => (la_in (sb_seq (sb_setLK (e := (eO eI)) (xs := found_1) rfl (EvG.is (w' := (ret (some (0 : Int)))) (ev_some ev_int) rfl) (EvG.is (w' := (ret u)) (ev_f (e := eI) u rfl) rfl) (fun s2 => (la_in (sb_seq (sb_setN (S := fun r => ls K (List.map eI r)) (EvG.is (w' := (ret [u])) (ev_lstS (fun x => [x.1]) eI (es_f (ev_f (e := eI) u rfl) es_nil) (fun _ => (AllF.cons AllF.nil)) (fun _ => rfl) (fun _ => rfl)) rfl) (ltb rfl) (fun todo_3 => (la_in (sb_seq (sb_while (S := ((List (Option Int)) × (List Int))) (Γh := fun s4 => [.rb (ls2 K (e2L eI beside)), .sl (fz K (eI u)), .sl (ls K (List.map (eO eI) s4.1)), .sl (ls K (List.map eI s4.2)), .un, .un, .un]) (s2, todo_3) (wk_mask [true, true, true, true, true, true, true] _) (fun s4 => (EvT.is (w' := (ret (!s4.2.isEmpty))) (et_truL (ev_l (e := eI) s4.2 rfl)) rfl)) (fun s4 kc5 => (sb_seq (sb_setN (S := fun r => ls K (List.map eI r)) (EvG.is (w' := (ret ([] : List Int))) (ev_lstS (fun _ => ([] : List Int)) eI es_nil (fun _ => AllF.nil) (fun _ => rfl) (fun _ => rfl)) rfl) (ltb rfl) (fun later_7 => (la_in (sb_seq (sb_forV (S := ((List (Option Int)) × (List Int))) (e := eI) (xs := s4.2) (Γh := fun p12 ws13 s9 => [.rb (ls2 K (e2L eI beside)), .sl (fz K (eI u)), .sl (ls K (List.map (eO eI) s9.1)), .sl (lk K p12 ws13 (List.map eI s4.2)), .sl (ls K (List.map eI s9.2)), .un, .un]) (s4.1, later_7) rfl (fun p12 ws13 => wk_mask [true, true, true, true, true, true, true] _) (fun _ _ _ => rfl) (fun p12 ws13 x8 s9 => (tg_name (ltb rfl))) (fun p12 ws13 x8 s9 kc10 => (sb_for (S := ((List (Option Int)) × (List Int))) (e := eI) (Γh := fun s15 => [.rb (ls2 K (e2L eI beside)), .sl (fz K (eI u)), .sl (ls K (List.map (eO eI) s15.1)), .sl (lk K p12 ws13 (List.map eI s4.2)), .sl (ls K (List.map eI s15.2)), .sl (fz K (eI x8)), .un]) (s9.1, s9.2) (ItG.is (w' := (opt (atI beside x8))) (it_rowB (e := eI) beside rfl (ev_f (e := eI) x8 rfl)) rfl) (fun _ h => nomatch h) (wk_mask [true, true, true, true, true, true, true] _) (fun x14 s15 => (tg_name (ltb rfl))) (fun x14 s15 kc16 => (sb_if (EvT.is (w' := (bnd (opt (atI s15.1 x14)) fun x18 => ret (Option.isNone x18))) (et_test (ev_opF (ev_opLF (ev_l (e := (eO eI)) s15.1 rfl) (ev_f (e := eI) x14 rfl) (fun _ _ => o_ixL _ _)) ev_non (fun _ _ => o_isNO (fun _ => rfl) _ _))) rfl) (sb_seq (sb_setLK (e := (eO eI)) (xs := s15.1) rfl (EvG.is (w' := (bnd (bnd (bnd (opt (atI s15.1 x8)) fun x20 => opt x20) fun x21 => ret (x21 + (1 : Int))) fun y => ret (some y))) (ev_some (ev_opF (ev_unO (ev_opLF (ev_l (e := (eO eI)) s15.1 rfl) (ev_f (e := eI) x8 rfl) (fun _ _ => o_ixL _ _))) ev_int (fun _ _ => o_add _ _))) (by simp only [ret_bnd, bnd_bnd, mapW_bnd, mapW_ret] <;> rfl)) (EvG.is (w' := (ret x14)) (ev_f (e := eI) x14 rfl) rfl) (fun s22 => (la_in (sb_appendK (e := eI) (xs := s15.2) rfl (EvG.is (w' := (ret x14)) (ev_f (e := eI) x14 rfl) rfl) (fun s23 => (Lands.wk (la_at (s22, s23)) (wk_mask [true, true, true, true, true, true, false] _)))))))) (sb_next (Lands.wk (la_at (s15.1, s15.2)) (wk_mask [true, true, true, true, true, true, false] _))))) (fun s15 => (Lands.wk (la_at (s15.1, s15.2)) (wk_mask [true, true, true, true, true, false, true] _))))) (fun p12 ws13 s9 => (la_in (sb_move (S := ls K (List.map eI s9.2)) rfl (ltb rfl) rfl (by decide) (Lands.wk (la_at (s9.1, s9.2)) (wk_mask [true, true, true, true, true, true, true] _)))))))))))) (fun s4 => (la_in (sb_retF (EvG.is (w' := (ret s4.1)) (ev_b1L (ev_l (e := (eO eI)) s4.1 rfl) (fun _ => c_tupL _)) rfl) (fun _ => rfl))))))))))))))))))
end
end Cf
namespace Cf
open PySem PySem.Spec PyProof.Rows L2 WL GxR
section
variable {P : Program} {w : World} {K : PySem.W.Frag} [Tbs K] {mg : Str → Option Value} {base : Heap}
set_option maxHeartbeats 4000000
theorem ok_p_nodes_next (T : Tx K mg base) : FnOk P w K mg base CX0 1 T.f_p_nodes_next T.d_p_nodes_next ["network"] (spN K (fun x : (Int × (List (Int × Int × Int))) × Unit => [.d ((e2 eI (eT (e3 eI eI eI))) x.1)]) (fun x => p_nodes_next x.1) (fun r : (List (List Int)) => .nw (ls2 K (e2L eI r)))) := by
  have S := sc_p_nodes_next
  refine fn_n (N := nn_p_nodes_next) T.F_p_nodes_next S (fun _ => rfl) (fun cdv A outer s H E hr => ?_)
  refine ⟨_, (pss_cons (ps_asg (pv 0) (pg_tupK (n := 2) (K := K) rfl rfl (pgs_cons (pg_name (i := 1) S.nd rfl (by first | exact .inl rfl | exact .inr rfl)) (pgs_cons (pg_name (i := 2) S.nd rfl (by first | exact .inl rfl | exact .inr rfl)) pgs_nil))))
      (pss_cons (ps_setLc (i := 4) (own := [("_", 3)]) rfl S.nd rfl rfl (sw_true rfl rfl rfl (by decide +kernel)) (pi_range1 (by rfl) T.z_range (pa_cons (pv 1) pa_nil)) (blkOk_by (N := nn_p_nodes_next) (sc := (defScope s_p_nodes_next)) (own := [("_", 3)]) (by decide +kernel)) (fun _ _ _ _ _ => (pg_name (i := 3) S.nd rfl (by first | exact .inl rfl | exact .inr rfl))) (fun _ _ _ _ _ => pts_nil) (fun _ _ _ _ _ => (pe_lst pa_nil)))
      (pss_cons (ps_for PassesOwn.never rfl (pi_tupK (K := K) rfl (pv 2)) (pg_tupK (n := 3) (K := K) rfl rfl (pgs_cons (pg_name (i := 5) S.nd rfl (by first | exact .inl rfl | exact .inr rfl)) (pgs_cons (pg_name (i := 6) S.nd rfl (by first | exact .inl rfl | exact .inr rfl)) (pgs_cons (pg_name (i := 3) S.nd rfl (by first | exact .inl rfl | exact .inr rfl)) pgs_nil)))) (pss_one (ps_if (pt_cmpR (op_niK (K := K) rfl) (pv 6) (pe_ix (ix_listK (K := K) rfl) (pv 4) (pv 5) (fun _ _ => rfl)) (by rfl)) (pss_one (ps_expr (pe_bm PySem.F.plainAttrs_list PySem.F.slot_list_append PySem.F.type_list_append mt_append (pe_ix (ix_listK (K := K) rfl) (pv 4) (pv 5) (fun _ _ => rfl)) (pa_cons (pv 6) pa_nil)))) pss_nil)))
      (pss_one (ps_ret (pv 4)))))), ?_⟩
  rintro ⟨network, _⟩
  show SimB _ _ _ _ _ _ [.sl (fz K ((e2 eI (eT (e3 eI eI eI))) network)), .un, .un, .un, .un, .un, .un] (p_nodes_next network)
  unfold p_nodes_next
  exact (sb_seq (sb_asg (e := (e2 eI (eT (e3 eI eI eI)))) (EvG.is (w' := (ret network)) (ev_f (e := (e2 eI (eT (e3 eI eI eI)))) network rfl) rfl) (fun u1 => (tg_tup (ds := [eI (u1.1), (eT (e3 eI eI eI)) (u1.2)]) (ts_cons (tg_name (ltb rfl)) (ts_cons (tg_name (ltb rfl)) ts_nil)) rfl rfl)) (fun u1 => (la_in (sb_seq (sb_setN (S := fun r => ls2 K (e2L eI r)) (ev_lcN (e := eI) (c := fun c2 => (ret true)) (f := fun c2 => (ret ([] : List Int))) (ItG.is (w' := (grd (Rng (u1.1)) (ret (span 0 ((u1.1)).toNat)))) (it_range1 (ev_f (e := eI) (u1.1) rfl)) rfl) (fun c2 => (tg_name (ltb rfl))) (fun c2 => (EvT.is (w' := (ret true)) et_yes rfl)) (fun c2 => (EvG.is (w' := (ret ([] : List Int))) (ev_lstS (fun _ => ([] : List Int)) eI es_nil (fun _ => AllF.nil) (fun _ => rfl) (fun _ => rfl)) rfl))) (ltb rfl) (fun found_4 => (la_in (sb_seq (sb_for (S := ((List (List Int)))) (e := (e3 eI eI eI)) (Γh := fun s6 => [.sl (fz K ((e2 eI (eT (e3 eI eI eI))) network)), .sl (fz K (eI (u1.1))), .sl (fz K ((eT (e3 eI eI eI)) (u1.2))), .un, .sl (ls2 K (e2L eI s6)), .un, .un]) found_4 (ItG.is (w' := (ret (u1.2))) (it_tup (ev_f (e := (eT (e3 eI eI eI))) (u1.2) rfl)) rfl) (fun _ h => nomatch h) (wk_mask [true, true, true, true, true, true, true] _) (fun x5 s6 => (tg_tup (ds := [eI (x5.1), eI (x5.2.1), eI (x5.2.2)]) (ts_cons (tg_name (ltb rfl)) (ts_cons (tg_name (ltb rfl)) (ts_cons (tg_name (ltb rfl)) ts_nil))) rfl rfl)) (fun x5 s6 kc7 => (sb_if (EvT.is (w' := (bnd (opt (atI s6 (x5.1))) fun x9 => ret (!decide ((x5.2.1) ∈ x9)))) (et_test (ev_opFL (ev_f (e := eI) (x5.2.1) rfl) (ev_ix2 (e := eI) s6 (.inl rfl) (ev_f (e := eI) (x5.1) rfl)) (fun _ _ => o_niL _ _))) rfl) (sb_append2 (e := eI) (xss := s6) rfl (EvG.is (w' := (ret (x5.1))) (ev_f (e := eI) (x5.1) rfl) rfl) (EvG.is (w' := (ret (x5.2.1))) (ev_f (e := eI) (x5.2.1) rfl) rfl) (fun s11 => (Lands.wk (la_at s11) (wk_mask [true, true, true, false, true, false, false] _)))) (sb_next (Lands.wk (la_at s6) (wk_mask [true, true, true, false, true, false, false] _))))) (fun s6 => (la_in (sb_retV (S := ls2 K (e2L eI s6)) (g := s6) rfl rfl rfl)))))))))))))
end
end Cf
namespace Cf
open PySem PySem.Spec PyProof.Rows L2 WL GxR
section
variable {P : Program} {w : World} {K : PySem.W.Frag} [Tbs K] {mg : Str → Option Value} {base : Heap}
set_option maxHeartbeats 4000000
theorem ok_p_distances (T : Tx K mg base) : FnOk P w K mg base CX0 2 T.f_p_distances T.d_p_distances ["network"] (spN K (fun x : (Int × (List (Int × Int × Int))) × Unit => [.d ((e2 eI (eT (e3 eI eI eI))) x.1)]) (fun x => p_distances x.1) (fun r : (List (List (Option Int))) => .fz ((eT (eT (eO eI))) r))) := by
  have S := sc_p_distances
  refine fn_n (N := nn_p_distances) T.F_p_distances S (fun _ => rfl) (fun cdv A outer s H E hr => ?_)
  refine ⟨_, (pss_cons (ps_set (i := 1) S.nd rfl (by first | exact .inl rfl | exact .inr rfl) (pe_call (ok_p_nodes_next T) (hr.mono (by decide)) (by rfl) T.g_p_nodes_next T.F_p_nodes_next.kp T.b_p_nodes_next .nil pass0 (pa_cons (pv 0) pa_nil)))
      (pss_one (ps_ret (pe_callTy (call_tupK (K := K) rfl) (by rfl) T.z_tuple (by decide +kernel) (pa_cons (pe_lc (own := [("u", 2)]) rfl S.nd (pi_range1 (by rfl) T.z_range (pa_cons (pe_ix (ix_tupK (K := K) rfl) (pv 0) pe_int (fun _ _ => rfl)) pa_nil)) (blkOk_by (N := nn_p_distances) (sc := (defScope s_p_distances)) (own := [("u", 2)]) (by decide +kernel)) (fun _ _ _ _ _ => (pg_name (i := 2) S.nd rfl (by first | exact .inl rfl | exact .inr rfl))) (fun _ _ _ _ _ => pts_nil) (fun _ _ _ _ _ => (pe_call (ok_p_distances_from T) (hr.mono (by decide)) (by rfl) T.g_p_distances_from T.F_p_distances_from.kp T.b_p_distances_from .nil pass0 (pa_cons (pv 1) (pa_cons (pv 2) pa_nil))))) pa_nil))))), ?_⟩
  rintro ⟨network, _⟩
  show SimB _ _ _ _ _ _ [.sl (fz K ((e2 eI (eT (e3 eI eI eI))) network)), .un, .un] (p_distances network)
  unfold p_distances
  exact (sb_seq (sb_setN (S := fun r => ls2 K (e2L eI r)) (EvG.is (w' := (noX (p_nodes_next network))) (ev_callNS (fun r => ls2 K (e2L eI r)) (es_f (ev_f (e := (e2 eI (eT (e3 eI eI eI)))) network rfl) es_nil) (fun _ => rfl)) rfl) (ltb rfl) (fun beside_1 => (la_in (sb_retF (EvG.is (w' := (bnd (grd (Rng network.1) (ret (span 0 (network.1).toNat))) fun l3 => lcG (fun c2 => (ret true)) (fun c2 => (noX (p_distances_from beside_1 c2))) l3)) (ev_b1L (EvG.rl (ev_lc (e := eI) (c := fun c2 => (ret true)) (f := fun c2 => (noX (p_distances_from beside_1 c2))) (ItG.is (w' := (grd (Rng network.1) (ret (span 0 (network.1).toNat)))) (it_range1 (ev_ixW (e' := eI) (fun a => a.1) 0 (ev_f (e := (e2 eI (eT (e3 eI eI eI)))) network rfl) rfl (fun _ => ⟨_, rfl, rfl⟩))) rfl) (fun c2 => (tg_name (ltb rfl))) (fun c2 => (EvT.is (w' := (ret true)) et_yes rfl)) (fun c2 => (EvG.is (w' := (noX (p_distances_from beside_1 c2))) (ev_callS (eT (eO eI)) (es_b (S := fun r => ls2 K (e2L eI r)) (ev_B (S := fun r => ls2 K (e2L eI r)) beside_1 (.inl rfl)) (es_f (ev_f (e := eI) c2 rfl) es_nil)) (fun _ => rfl)) rfl)))) (fun _ => c_tupL _)) rfl) (fun _ => rfl))))))
end
end Cf
namespace Cf
open PySem PySem.Spec PyProof.Rows L2 WL GxR
section
variable {P : Program} {w : World} {K : PySem.W.Frag} [Tbs K] {mg : Str → Option Value} {base : Heap}
set_option maxHeartbeats 4000000
theorem ok_p_Nearer_init (T : Tx K mg base) : FnOk P w K mg base CX0 3 T.f_p_Nearer_init T.d_p_Nearer_init ["self", "network"] (spI K T.o_Nearer (fun x : (Int × (List (Int × Int × Int))) × Unit => [Ag.d ((e2 eI (eT (e3 eI eI eI))) x.1)]) (fun x => p_Nearer_init x.1) (fun (r : ((Int × (List (Int × Int × Int))) × (List (List (Option Int))))) _ => [("network", fz K ((e2 eI (eT (e3 eI eI eI))) r.1)), ("far", fz K ((eT (eT (eO eI))) r.2))])) := by
  have S := sc_p_Nearer_init
  refine fn_init (N := nn_p_Nearer_init) T.F_p_Nearer_init S (fun _ => rfl) (fun cdv A outer s H E hr => ?_)
  refine ⟨_, (pss_cons (ps_fldK (K := K) rfl (pv 0) (pv 1) rfl)
      (pss_one (ps_fldK (K := K) rfl (pv 0) (pe_call (ok_p_distances T) (hr.mono (by decide)) (by rfl) T.g_p_distances T.F_p_distances.kp T.b_p_distances .nil pass0 (pa_cons (pv 1) pa_nil)) rfl))), ?_⟩
  rintro ⟨network, _⟩ a
  show SimB _ _ _ _ _ _ [.sl (insA T.o_Nearer a []), .sl (fz K ((e2 eI (eT (e3 eI eI eI))) network))] (p_Nearer_init network)
  unfold p_Nearer_init
  exact (sb_seq (sb_fld (i := 0) (a := a) (fs := []) (S := fun r => fz K ((e2 eI (eT (e3 eI eI eI))) r)) rfl T.cl_Nearer T.na_Nearer_network (fun _ => nm_by [] rfl (by decide +kernel)) (show 0 < 1000 by decide) (EvG.fN (EvG.is (w' := (ret network)) (ev_f (e := (e2 eI (eT (e3 eI eI eI)))) network rfl) rfl)) (fun network_1 => (la_in (sb_fld (i := 0) (a := a) (fs := [("network", fz K ((e2 eI (eT (e3 eI eI eI))) network_1))]) (S := fun r => fz K ((eT (eT (eO eI))) r)) rfl T.cl_Nearer T.na_Nearer_far (fun _ => nm_by ["network"] rfl (by decide +kernel)) (show 1 < 1000 by decide) (EvG.fN (EvG.is (w' := (noX (p_distances network))) (ev_callS (eT (eT (eO eI))) (es_f (ev_f (e := (e2 eI (eT (e3 eI eI eI)))) network rfl) es_nil) (fun _ => rfl)) rfl)) (fun far_2 => (la_init (i := 0) (fs := fun r : ((Int × (List (Int × Int × Int))) × (List (List (Option Int)))) => [("network", fz K ((e2 eI (eT (e3 eI eI eI))) r.1)), ("far", fz K ((eT (eT (eO eI))) r.2))]) (out := (network_1, far_2)) rfl)))))))
end
end Cf
namespace Cf
open PySem PySem.Spec PyProof.Rows L2 WL GxR
section
variable {P : Program} {w : World} {K : PySem.W.Frag} [Tbs K] {mg : Str → Option Value} {base : Heap}
set_option maxHeartbeats 4000000
theorem ok_p_Nearer_is_nearer (T : Tx K mg base) : FnOk P w K mg base CX0 1 T.f_p_Nearer_is_nearer T.d_p_Nearer_is_nearer ["self", "u", "d", "c"] (spN K (fun x : ((Int × (List (Int × Int × Int))) × (List (List (Option Int)))) × Int × Int × Int × Unit => [.b (sl_Nearer T (x.1)), .d (eI x.2.1), .d (eI x.2.2.1), .d (eI x.2.2.2.1)]) (fun x => p_Nearer_is_nearer x.1 x.2.1 x.2.2.1 x.2.2.2.1) (fun r : Bool => .fz (eB r))) := by
  have S := sc_p_Nearer_is_nearer
  refine fn_n (N := nn_p_Nearer_is_nearer) T.F_p_Nearer_is_nearer S (fun _ => rfl) (fun cdv A outer s H E hr => ?_)
  refine ⟨_, (pss_cons (ps_par (i := 4) (j := 5) rfl S.nd rfl rfl (by decide) rfl rfl (pa_cons (pe_ix (ix_tupK (K := K) rfl) (pe_ix (ix_tupK (K := K) rfl) (pe_fldK (K := K) rfl (pv 0) (by rfl)) (pv 1) (fun _ _ => rfl)) (pv 2) (fun _ _ => rfl)) (pa_cons (pe_ix (ix_tupK (K := K) rfl) (pe_ix (ix_tupK (K := K) rfl) (pe_fldK (K := K) rfl (pv 0) (by rfl)) (pe_ix (ix_tupK (K := K) rfl) (pe_ix (ix_tupK (K := K) rfl) (pe_ix (ix_tupK (K := K) rfl) (pe_fldK (K := K) rfl (pv 0) (by rfl)) pe_int (fun _ _ => rfl)) (pv 3) (fun _ _ => rfl)) pe_int (fun _ _ => rfl)) (fun _ _ => rfl)) (pv 2) (fun _ _ => rfl)) pa_nil)) (by rfl))
      (pss_one (ps_ret (pe_and (pe_cmpR op_notN (pv 4) pe_non (nomark _)) (pe_and (pe_cmpR op_notN (pv 5) pe_non (nomark _)) (pe_one (pe_cmpR (op_eqDK (K := K) rfl hr.units) (pv 5) (pe_op op_sub (pv 4) pe_int) (nomark _)))))))), ?_⟩
  rintro ⟨self, u, d, c, _⟩
  show SimB _ _ _ _ _ _ [.rb (sl_Nearer T self), .sl (fz K (eI u)), .sl (fz K (eI d)), .sl (fz K (eI c)), .un, .un] (p_Nearer_is_nearer self u d c)
  unfold p_Nearer_is_nearer
  exact (sb_seq (sb_par (i := 4) (j := 5) (e := (eO eI)) (e' := (eO eI)) (fun x => (x.1, x.2.1)) (es_f (ev_opF (ev_opF (EvG.as (fun r : ((Int × (List (Int × Int × Int))) × (List (List (Option Int)))) => r.2) (R' := fun r => RF _ ((eT (eT (eO eI))) r)) (EvG.bF (ev_fld (S := fun r : ((Int × (List (Int × Int × Int))) × (List (List (Option Int)))) => fz K ((eT (eT (eO eI))) r.2)) (ev_B (S := fun r => sl_Nearer T r) self (.inr rfl)) T.cl_Nearer T.na_Nearer_far (fun _ => (List.Mem.tail _ (List.Mem.head _))))) (fun _ => rfl)) (ev_f (e := eI) u rfl) (fun _ _ => o_ixT _ _)) (ev_f (e := eI) d rfl) (fun _ _ => o_ixT _ _)) (es_f (ev_opF (ev_opF (EvG.as (fun r : ((Int × (List (Int × Int × Int))) × (List (List (Option Int)))) => r.2) (R' := fun r => RF _ ((eT (eT (eO eI))) r)) (EvG.bF (ev_fld (S := fun r : ((Int × (List (Int × Int × Int))) × (List (List (Option Int)))) => fz K ((eT (eT (eO eI))) r.2)) (ev_B (S := fun r => sl_Nearer T r) self (.inr rfl)) T.cl_Nearer T.na_Nearer_far (fun _ => (List.Mem.tail _ (List.Mem.head _))))) (fun _ => rfl)) (ev_ixW (e' := eI) (fun a => a.2.1) 1 (ev_opF (ev_ixW (e' := (eT (e3 eI eI eI))) (fun a => a.2) 1 (EvG.as (fun r : ((Int × (List (Int × Int × Int))) × (List (List (Option Int)))) => r.1) (R' := fun r => RF _ ((e2 eI (eT (e3 eI eI eI))) r)) (EvG.bF (ev_fld (S := fun r : ((Int × (List (Int × Int × Int))) × (List (List (Option Int)))) => fz K ((e2 eI (eT (e3 eI eI eI))) r.1)) (ev_B (S := fun r => sl_Nearer T r) self (.inr rfl)) T.cl_Nearer T.na_Nearer_network (fun _ => (List.Mem.head _)))) (fun _ => rfl)) rfl (fun _ => ⟨_, rfl, rfl⟩)) (ev_f (e := eI) c rfl) (fun _ _ => o_ixT _ _)) rfl (fun _ => ⟨_, rfl, rfl⟩)) (fun _ _ => o_ixT _ _)) (ev_f (e := eI) d rfl) (fun _ _ => o_ixT _ _)) es_nil)) (fun _ => rfl) (by first | rfl | (simp only [ret_bnd, bnd_bnd, mapW_bnd, mapW_ret] <;> rfl)) (ltb rfl) (ltb rfl) (fun u5 => (la_in (sb_retF (EvG.is (w' := (sel (Option.isSome u5.1) (sel (Option.isSome u5.2) (bnd (bnd (bnd (opt u5.1) fun x8 => ret (x8 - (1 : Int))) fun y => ret (some y)) fun x9 => eqW ((eO eI) u5.2) ((eO eI) x9)) (ret false)) (ret false))) (ev_andV (ev_opF (ev_f (e := (eO eI)) u5.1 rfl) ev_non (fun _ _ => o_notNO (fun _ => rfl) _ _)) (ev_andV (ev_opF (ev_f (e := (eO eI)) u5.2 rfl) ev_non (fun _ _ => o_notNO (fun _ => rfl) _ _)) (ev_opF (ev_f (e := (eO eI)) u5.2 rfl) (ev_some (ev_opF (ev_unO (ev_f (e := (eO eI)) u5.1 rfl)) ev_int (fun _ _ => o_sub _ _))) (fun _ _ => o_eqDW _ _)))) (by simp only [ret_bnd, bnd_bnd, mapW_bnd, mapW_ret] <;> rfl)) (fun _ => rfl))))))
end
end Cf
namespace Cf
open PySem PySem.Spec PyProof.Rows L2 WL GxR
section
variable {P : Program} {w : World} {K : PySem.W.Frag} [Tbs K] {mg : Str → Option Value} {base : Heap}
set_option maxHeartbeats 4000000
theorem ok_p_channels_from (T : Tx K mg base) : FnOk P w K mg base CX0 1 T.f_p_channels_from T.d_p_channels_from ["network", "u"] (spN K (fun x : (Int × (List (Int × Int × Int))) × Int × Unit => [.d ((e2 eI (eT (e3 eI eI eI))) x.1), .d (eI x.2.1)]) (fun x => p_channels_from x.1 x.2.1) (fun r : (List Int) => .nw (ls K (List.map eI r)))) := by
  have S := sc_p_channels_from
  refine fn_n (N := nn_p_channels_from) T.F_p_channels_from S (fun _ => rfl) (fun cdv A outer s H E hr => ?_)
  refine ⟨_, (pss_one (ps_ret (pe_lc (own := [("c", 2)]) rfl S.nd (pi_range1 (by rfl) T.z_range (pa_cons (pe_callB (call_lenK (K := K) rfl) (by rfl) T.z_len (by decide +kernel) (pa_cons (pe_ix (ix_tupK (K := K) rfl) (pv 0) pe_int (fun _ _ => rfl)) pa_nil)) pa_nil)) (blkOk_by (N := nn_p_channels_from) (sc := (defScope s_p_channels_from)) (own := [("c", 2)]) (by decide +kernel)) (fun _ _ _ _ _ => (pg_name (i := 2) S.nd rfl (by first | exact .inl rfl | exact .inr rfl))) (fun _ _ _ _ _ => (pts_one (pt_cmpR op_eq (pe_ix (ix_tupK (K := K) rfl) (pe_ix (ix_tupK (K := K) rfl) (pe_ix (ix_tupK (K := K) rfl) (pv 0) pe_int (fun _ _ => rfl)) (pv 2) (fun _ _ => rfl)) pe_int (fun _ _ => rfl)) (pv 1) (nomark _)))) (fun _ _ _ _ _ => (pv 2))))), ?_⟩
  rintro ⟨network, u, _⟩
  show SimB _ _ _ _ _ _ [.sl (fz K ((e2 eI (eT (e3 eI eI eI))) network)), .sl (fz K (eI u)), .un] (p_channels_from network u)
  unfold p_channels_from
  exact (sb_retSS (S := fun r => ls K (List.map eI r)) (ev_lc (e := eI) (c := fun c1 => (bnd (bnd (opt (atI network.2 c1)) fun x2 => ret x2.1) fun x3 => ret (decide (x3 = u)))) (f := fun c1 => (ret c1)) (ItG.is (w' := (grd (Rng (network.2.length : Int)) (ret (span 0 ((network.2.length : Int)).toNat)))) (it_range1 (ev_b1F (ev_ixW (e' := (eT (e3 eI eI eI))) (fun a => a.2) 1 (ev_f (e := (e2 eI (eT (e3 eI eI eI)))) network rfl) rfl (fun _ => ⟨_, rfl, rfl⟩)) (fun _ => c_lenT _))) rfl) (fun c1 => (tg_name (ltb rfl))) (fun c1 => (EvT.is (w' := (bnd (bnd (opt (atI network.2 c1)) fun x2 => ret x2.1) fun x3 => ret (decide (x3 = u)))) (et_test (ev_opF (ev_ixW (e' := eI) (fun a => a.1) 0 (ev_opF (ev_ixW (e' := (eT (e3 eI eI eI))) (fun a => a.2) 1 (ev_f (e := (e2 eI (eT (e3 eI eI eI)))) network rfl) rfl (fun _ => ⟨_, rfl, rfl⟩)) (ev_f (e := eI) c1 rfl) (fun _ _ => o_ixT _ _)) rfl (fun _ => ⟨_, rfl, rfl⟩)) (ev_f (e := eI) u rfl) (fun _ _ => o_eqI _ _))) rfl)) (fun c1 => (EvG.is (w' := (ret c1)) (ev_f (e := eI) c1 rfl) rfl))) (fun _ => rfl))
end
end Cf
namespace Cf
open PySem PySem.Spec PyProof.Rows L2 WL GxR
section
variable {P : Program} {w : World} {K : PySem.W.Frag} [Tbs K] {mg : Str → Option Value} {base : Heap}
set_option maxHeartbeats 4000000
theorem ok_p_Nearer_options (T : Tx K mg base) : FnOk P w K mg base CX0 2 T.f_p_Nearer_options T.d_p_Nearer_options ["self", "u", "d"] (spN K (fun x : ((Int × (List (Int × Int × Int))) × (List (List (Option Int)))) × Int × Int × Unit => [.b (sl_Nearer T (x.1)), .d (eI x.2.1), .d (eI x.2.2.1)]) (fun x => p_Nearer_options x.1 x.2.1 x.2.2.1) (fun r : (List Int) => .fz ((eT eI) r))) := by
  have S := sc_p_Nearer_options
  refine fn_n (N := nn_p_Nearer_options) T.F_p_Nearer_options S (fun _ => rfl) (fun cdv A outer s H E hr => ?_)
  refine ⟨_, (pss_one (ps_ret (pe_callTy (call_tupK (K := K) rfl) (by rfl) T.z_tuple (by decide +kernel) (pa_cons (pe_lc (own := [("c", 3)]) rfl S.nd (pi_listK (K := K) rfl (pe_call (ok_p_channels_from T) (hr.mono (by decide)) (by rfl) T.g_p_channels_from T.F_p_channels_from.kp T.b_p_channels_from .nil pass0 (pa_cons (pe_fldK (K := K) rfl (pv 0) (by rfl)) (pa_cons (pv 1) pa_nil)))) (blkOk_by (N := nn_p_Nearer_options) (sc := (defScope s_p_Nearer_options)) (own := [("c", 3)]) (by decide +kernel)) (fun _ _ _ _ _ => (pg_name (i := 3) S.nd rfl (by first | exact .inl rfl | exact .inr rfl))) (fun _ _ _ _ _ => (pts_one (pt_val (pe_meth (pv 0) T.cl_Nearer T.me_p_Nearer_is_nearer (ok_p_Nearer_is_nearer T) (hr.mono (by decide)) T.b_p_Nearer_is_nearer .nil pass0 (pa_cons (pv 1) (pa_cons (pv 2) (pa_cons (pv 3) pa_nil))))))) (fun _ _ _ _ _ => (pv 3))) pa_nil)))), ?_⟩
  rintro ⟨self, u, d, _⟩
  show SimB _ _ _ _ _ _ [.rb (sl_Nearer T self), .sl (fz K (eI u)), .sl (fz K (eI d)), .un] (p_Nearer_options self u d)
  unfold p_Nearer_options
  exact (sb_retF (EvG.is (w' := (bnd (noX (p_channels_from self.1 u)) fun l2 => lcG (fun c1 => (noX (p_Nearer_is_nearer self u d c1))) (fun c1 => (ret c1)) l2)) (ev_b1L (EvG.rl (ev_lc (e := eI) (c := fun c1 => (noX (p_Nearer_is_nearer self u d c1))) (f := fun c1 => (ret c1)) (ItG.is (w' := (noX (p_channels_from self.1 u))) (it_list (ev_callNS (fun r => ls K (List.map eI r)) (es_f (EvG.as (fun r : ((Int × (List (Int × Int × Int))) × (List (List (Option Int)))) => r.1) (R' := fun r => RF _ ((e2 eI (eT (e3 eI eI eI))) r)) (EvG.bF (ev_fld (S := fun r : ((Int × (List (Int × Int × Int))) × (List (List (Option Int)))) => fz K ((e2 eI (eT (e3 eI eI eI))) r.1)) (ev_B (S := fun r => sl_Nearer T r) self (.inr rfl)) T.cl_Nearer T.na_Nearer_network (fun _ => (List.Mem.head _)))) (fun _ => rfl)) (es_f (ev_f (e := eI) u rfl) es_nil)) (fun _ => rfl))) rfl) (fun c1 => (tg_name (ltb rfl))) (fun c1 => (EvT.is (w' := (noX (p_Nearer_is_nearer self u d c1))) (et_B (ev_methS (m := "is_nearer") (ag := fun y : Int × Int × Int × Unit => [Ag.d (eI y.1), Ag.d (eI y.2.1), Ag.d (eI y.2.2.1)]) eB (ev_B (S := fun r => sl_Nearer T r) self (.inr rfl)) (fun _ _ => nm_by ["network", "far"] rfl (by decide +kernel)) (es_f (ev_f (e := eI) u rfl) (es_f (ev_f (e := eI) d rfl) (es_f (ev_f (e := eI) c1 rfl) es_nil))) (fun _ => rfl))) rfl)) (fun c1 => (EvG.is (w' := (ret c1)) (ev_f (e := eI) c1 rfl) rfl)))) (fun _ => c_tupL _)) rfl) (fun _ => rfl))
end
end Cf
namespace Cf
open PySem PySem.Spec PyProof.Rows L2 WL GxR
section
variable {P : Program} {w : World} {K : PySem.W.Frag} [Tbs K] {mg : Str → Option Value} {base : Heap}
set_option maxHeartbeats 4000000
theorem ok_p_table_of (T : Tx K mg base) : FnOk P w K mg base CX0 3 T.f_p_table_of T.d_p_table_of ["network", "chooser"] (spN K (fun x : (Int × (List (Int × Int × Int))) × ((Int × (List (Int × Int × Int))) × (List (List (Option Int)))) × Unit => [.d ((e2 eI (eT (e3 eI eI eI))) x.1), .b (sl_Nearer T (x.2.1))]) (fun x => p_table_of x.1 x.2.1) (fun r : (List (List (List Int))) => .fz ((eT (eT (eT eI))) r))) := by
  have S := sc_p_table_of
  refine fn_n (N := nn_p_table_of) T.F_p_table_of S (fun _ => rfl) (fun cdv A outer s H E hr => ?_)
  refine ⟨_, (pss_cons (ps_set (i := 2) S.nd rfl (by first | exact .inl rfl | exact .inr rfl) (pe_lst pa_nil))
      (pss_cons (ps_for PassesOwn.never rfl (pi_range1 (by rfl) T.z_range (pa_cons (pe_ix (ix_tupK (K := K) rfl) (pv 0) pe_int (fun _ _ => rfl)) pa_nil)) (pg_name (i := 3) S.nd rfl (by first | exact .inl rfl | exact .inr rfl)) (pss_one (ps_expr (pe_bm PySem.F.plainAttrs_list PySem.F.slot_list_append PySem.F.type_list_append mt_append (pv 2) (pa_cons (pe_callTy (call_tupK (K := K) rfl) (by rfl) T.z_tuple (by decide +kernel) (pa_cons (pe_lc (own := [("d", 4)]) rfl S.nd (pi_range1 (by rfl) T.z_range (pa_cons (pe_ix (ix_tupK (K := K) rfl) (pv 0) pe_int (fun _ _ => rfl)) pa_nil)) (blkOk_by (N := nn_p_table_of) (sc := (defScope s_p_table_of)) (own := [("d", 4)]) (by decide +kernel)) (fun _ _ _ _ _ => (pg_name (i := 4) S.nd rfl (by first | exact .inl rfl | exact .inr rfl))) (fun _ _ _ _ _ => pts_nil) (fun _ _ _ _ _ => (pe_ifExp (pt_cmpR op_eq (pv 3) (pv 4) (nomark _)) (pe_tup pa_nil) (pe_meth (pv 1) T.cl_Nearer T.me_p_Nearer_options (ok_p_Nearer_options T) (hr.mono (by decide)) T.b_p_Nearer_options .nil pass0 (pa_cons (pv 3) (pa_cons (pv 4) pa_nil)))))) pa_nil)) pa_nil)))))
      (pss_one (ps_ret (pe_callTy (call_tupK (K := K) rfl) (by rfl) T.z_tuple (by decide +kernel) (pa_cons (pv 2) pa_nil)))))), ?_⟩
  rintro ⟨network, chooser, _⟩
  show SimB _ _ _ _ _ _ [.sl (fz K ((e2 eI (eT (e3 eI eI eI))) network)), .rb (sl_Nearer T chooser), .un, .un, .un] (p_table_of network chooser)
  unfold p_table_of
  exact (sb_seq (sb_setN (S := fun r => ls K (List.map (eT (eT eI)) r)) (EvG.is (w' := (ret ([] : List (List (List Int))))) (ev_lstS (fun _ => ([] : List (List (List Int)))) (eT (eT eI)) es_nil (fun _ => AllF.nil) (fun _ => rfl) (fun _ => rfl)) rfl) (ltb rfl) (fun rows_1 => (la_in (sb_seq (sb_for (S := ((List (List (List Int))))) (e := eI) (Γh := fun s3 => [.sl (fz K ((e2 eI (eT (e3 eI eI eI))) network)), .rb (sl_Nearer T chooser), .sl (ls K (List.map (eT (eT eI)) s3)), .un, .un]) rows_1 (ItG.is (w' := (grd (Rng network.1) (ret (span 0 (network.1).toNat)))) (it_range1 (ev_ixW (e' := eI) (fun a => a.1) 0 (ev_f (e := (e2 eI (eT (e3 eI eI eI)))) network rfl) rfl (fun _ => ⟨_, rfl, rfl⟩))) rfl) (fun _ h => nomatch h) (wk_mask [true, true, true, true, true] _) (fun x2 s3 => (tg_name (ltb rfl))) (fun x2 s3 kc4 => (sb_appendK (e := (eT (eT eI))) (xs := s3) rfl (EvG.is (w' := (bnd (grd (Rng network.1) (ret (span 0 (network.1).toNat))) fun l8 => lcG (fun c7 => (ret true)) (fun c7 => (sel (decide (x2 = c7)) (ret ([] : (List Int))) (noX (p_Nearer_options chooser x2 c7)))) l8)) (ev_b1L (EvG.rl (ev_lc (e := eI) (c := fun c7 => (ret true)) (f := fun c7 => (sel (decide (x2 = c7)) (ret ([] : (List Int))) (noX (p_Nearer_options chooser x2 c7)))) (ItG.is (w' := (grd (Rng network.1) (ret (span 0 (network.1).toNat)))) (it_range1 (ev_ixW (e' := eI) (fun a => a.1) 0 (ev_f (e := (e2 eI (eT (e3 eI eI eI)))) network rfl) rfl (fun _ => ⟨_, rfl, rfl⟩))) rfl) (fun c7 => (tg_name (ltb rfl))) (fun c7 => (EvT.is (w' := (ret true)) et_yes rfl)) (fun c7 => (EvG.is (w' := (sel (decide (x2 = c7)) (ret ([] : (List Int))) (noX (p_Nearer_options chooser x2 c7)))) (ev_ifF (et_test (ev_opF (ev_f (e := eI) x2 rfl) (ev_f (e := eI) c7 rfl) (fun _ _ => o_eqI _ _))) (ev_tupS (fun x => []) (eT eI) es_nil (fun _ => AllF.nil) (fun _ => rfl) (fun _ => rfl)) (ev_methS (m := "options") (ag := fun y : Int × Int × Unit => [Ag.d (eI y.1), Ag.d (eI y.2.1)]) (eT eI) (ev_B (S := fun r => sl_Nearer T r) chooser (.inr rfl)) (fun _ _ => nm_by ["network", "far"] rfl (by decide +kernel)) (es_f (ev_f (e := eI) x2 rfl) (es_f (ev_f (e := eI) c7 rfl) es_nil)) (fun _ => rfl))) rfl)))) (fun _ => c_tupL _)) rfl) (fun s6 => (Lands.wk (la_at s6) (wk_mask [true, true, true, false, true] _))))) (fun s3 => (la_in (sb_retF (EvG.is (w' := (ret s3)) (ev_b1L (ev_l (e := (eT (eT eI))) s3 rfl) (fun _ => c_tupL _)) rfl) (fun _ => rfl))))))))))
end
end Cf
namespace Cf
open PySem PySem.Spec PyProof.Rows L2 WL GxR
section
variable {P : Program} {w : World} {K : PySem.W.Frag} [Tbs K] {mg : Str → Option Value} {base : Heap}
set_option maxHeartbeats 4000000
theorem ok_p_shortest (T : Tx K mg base) : FnOk P w K mg base CX0 5 T.f_p_shortest T.d_p_shortest ["network"] (spN K (fun x : (Int × (List (Int × Int × Int))) × Unit => [.d ((e2 eI (eT (e3 eI eI eI))) x.1)]) (fun x => p_shortest x.1) (fun r : (List (List (List Int))) => .fz ((eT (eT (eT eI))) r))) := by
  have S := sc_p_shortest
  refine fn_n (N := nn_p_shortest) T.F_p_shortest S (fun _ => rfl) (fun cdv A outer s H E hr => ?_)
  refine ⟨_, (pss_one (ps_ret (pe_call (ok_p_table_of T) (hr.mono (by decide)) (by rfl) T.g_p_table_of T.F_p_table_of.kp T.b_p_table_of .nil pass0 (pa_cons (pv 0) (pa_cons (pe_make T.mk_Nearer (ok_p_Nearer_init T) (hr.mono (by decide)) (by rfl) T.xg_Nearer T.b_p_Nearer_init .nil pass0 (pa_cons (pv 0) pa_nil)) pa_nil))))), ?_⟩
  rintro ⟨network, _⟩
  show SimB _ _ _ _ _ _ [.sl (fz K ((e2 eI (eT (e3 eI eI eI))) network))] (p_shortest network)
  unfold p_shortest
  exact (sb_retF (EvG.is (w' := (bnd (noX (p_Nearer_init network)) fun x1 => noX (p_table_of network x1))) (ev_callS (eT (eT (eT eI))) (es_f (ev_f (e := (e2 eI (eT (e3 eI eI eI)))) network rfl) (es_b (S := fun r => sl_Nearer T r) (EvG.lend (ev_makeS (fs := fun r : ((Int × (List (Int × Int × Int))) × (List (List (Option Int)))) => [("network", fz K ((e2 eI (eT (e3 eI eI eI))) r.1)), ("far", fz K ((eT (eT (eO eI))) r.2))]) (es_f (ev_f (e := (e2 eI (eT (e3 eI eI eI)))) network rfl) es_nil))) es_nil)) (fun _ => rfl)) rfl) (fun _ => rfl))
end
end Cf
namespace Cf
open PySem PySem.Spec PyProof.Rows L2 WL GxR
section
variable {P : Program} {w : World} {K : PySem.W.Frag} [Tbs K] {mg : Str → Option Value} {base : Heap}
set_option maxHeartbeats 4000000
theorem ok_l_shortest_fine (T : Tx K mg base) : FnOk P w K mg base CX0 6 T.f_l_shortest_fine T.d_l_shortest_fine ["_law_network_here"] (spN K (fun x : (Int × (List (Int × Int × Int))) × Unit => [.d ((e2 eI (eT (e3 eI eI eI))) x.1)]) (fun x => l_shortest_fine x.1) (fun r : Bool => .fz (eB r))) := by
  have S := sc_l_shortest_fine
  refine fn_n (N := nn_l_shortest_fine) T.F_l_shortest_fine S (fun _ => rfl) (fun cdv A outer s H E hr => ?_)
  refine ⟨_, (pss_cons (ps_set (i := 1) S.nd rfl (by first | exact .inl rfl | exact .inr rfl) (pe_call (ok_l_far T) (hr.mono (by decide)) (by rfl) T.g_l_far T.F_l_far.kp T.b_l_far .nil pass0 (pa_cons (pv 0) pa_nil)))
      (pss_cons (ps_set (i := 2) S.nd rfl (by first | exact .inl rfl | exact .inr rfl) (pe_call (ok_p_shortest T) (hr.mono (by decide)) (by rfl) T.g_p_shortest T.F_p_shortest.kp T.b_p_shortest .nil pass0 (pa_cons (pv 0) pa_nil)))
      (pss_cons (ps_set (i := 3) S.nd rfl (by first | exact .inl rfl | exact .inr rfl) (pe_ix (ix_tupK (K := K) rfl) (pv 0) pe_int (fun _ _ => rfl)))
      (pss_cons (ps_for PassesOwn.never rfl (pi_range1 (by rfl) T.z_range (pa_cons (pv 3) pa_nil)) (pg_name (i := 4) S.nd rfl (by first | exact .inl rfl | exact .inr rfl)) (pss_one (ps_for PassesOwn.never rfl (pi_range1 (by rfl) T.z_range (pa_cons (pv 3) pa_nil)) (pg_name (i := 5) S.nd rfl (by first | exact .inl rfl | exact .inr rfl)) (pss_cons (ps_setLc (i := 6) (own := [("_law_c", 8)]) rfl S.nd rfl rfl (sw_true rfl rfl rfl (by decide +kernel)) (pi_range1 (by rfl) T.z_range (pa_cons (pe_callB (call_lenK (K := K) rfl) (by rfl) T.z_len (by decide +kernel) (pa_cons (pe_ix (ix_tupK (K := K) rfl) (pv 0) pe_int (fun _ _ => rfl)) pa_nil)) pa_nil)) (blkOk_by (N := nn_l_shortest_fine) (sc := (defScope s_l_shortest_fine)) (own := [("_law_c", 8)]) (by decide +kernel)) (fun _ _ _ _ _ => (pg_name (i := 8) S.nd rfl (by first | exact .inl rfl | exact .inr rfl))) (fun _ _ _ _ _ => (pts_one (PW.pt (pw_and (pt_cmpR op_eq (pe_ix (ix_tupK (K := K) rfl) (pe_ix (ix_tupK (K := K) rfl) (pe_ix (ix_tupK (K := K) rfl) (pv 0) pe_int (fun _ _ => rfl)) (pv 8) (fun _ _ => rfl)) pe_int (fun _ _ => rfl)) (pv 4) (nomark _)) (pw_and1 (pt_cmpR op_ne (pv 4) (pv 5) (nomark _))))))) (fun _ _ _ _ _ => (pv 8)))
      (pss_cons (ps_set (i := 7) S.nd rfl (by first | exact .inl rfl | exact .inr rfl) (pe_callTy (call_tupK (K := K) rfl) (by rfl) T.z_tuple (by decide +kernel) (pa_cons (pe_lc (own := [("_law_c", 8)]) rfl S.nd (pi_listK (K := K) rfl (pv 6)) (blkOk_by (N := nn_l_shortest_fine) (sc := (defScope s_l_shortest_fine)) (own := [("_law_c", 8)]) (by decide +kernel)) (fun _ _ _ _ _ => (pg_name (i := 8) S.nd rfl (by first | exact .inl rfl | exact .inr rfl))) (fun _ _ _ _ _ => (pts_one (PW.pt (pw_and (pt_cmpR op_lt (pe_ix (ix_listK (K := K) rfl) (pe_ix (ix_listK (K := K) rfl) (pv 1) (pv 4) (fun _ _ => rfl)) (pv 5) (fun _ _ => rfl)) pe_int (nomark _)) (pw_and1 (pt_cmpR op_eq (pe_ix (ix_listK (K := K) rfl) (pe_ix (ix_listK (K := K) rfl) (pv 1) (pe_ix (ix_tupK (K := K) rfl) (pe_ix (ix_tupK (K := K) rfl) (pe_ix (ix_tupK (K := K) rfl) (pv 0) pe_int (fun _ _ => rfl)) (pv 8) (fun _ _ => rfl)) pe_int (fun _ _ => rfl)) (fun _ _ => rfl)) (pv 5) (fun _ _ => rfl)) (pe_op op_sub (pe_ix (ix_listK (K := K) rfl) (pe_ix (ix_listK (K := K) rfl) (pv 1) (pv 4) (fun _ _ => rfl)) (pv 5) (fun _ _ => rfl)) pe_int) (nomark _))))))) (fun _ _ _ _ _ => (pv 8))) pa_nil)))
      (pss_one (ps_if (pt_cmpR (op_neDK (K := K) rfl hr.units) (pe_ix (ix_tupK (K := K) rfl) (pe_ix (ix_tupK (K := K) rfl) (pv 2) (pv 4) (fun _ _ => rfl)) (pv 5) (fun _ _ => rfl)) (pv 7) (nomark _)) (pss_one (ps_ret pe_bl)) pss_nil)))))))
      (pss_one (ps_ret (pe_and (pe_callB (cr_isaTuple (K := K) rfl) (by rfl) T.z_isinstance (by decide +kernel) (pa_cons (pv 2) (pa_cons (pe_bltn (v := .ty "tuple") (by rfl) T.z_tuple (by decide +kernel) rfl) pa_nil))) (pe_one (pe_cmpR op_eq (pe_callB (call_lenK (K := K) rfl) (by rfl) T.z_len (by decide +kernel) (pa_cons (pv 2) pa_nil)) (pv 3) (nomark _)))))))))), ?_⟩
  rintro ⟨network_here, _⟩
  show SimB _ _ _ _ _ _ [.sl (fz K ((e2 eI (eT (e3 eI eI eI))) network_here)), .un, .un, .un, .un, .un, .un, .un, .un] (l_shortest_fine network_here)
  unfold l_shortest_fine
  exact (sb_seq (sb_setN (S := fun r => ls2 K (e2L eI r)) (EvG.is (w' := (noX (l_far network_here))) (ev_callNS (fun r => ls2 K (e2L eI r)) (es_f (ev_f (e := (e2 eI (eT (e3 eI eI eI)))) network_here rfl) es_nil) (fun _ => rfl)) rfl) (ltb rfl) (fun far_here_1 => (la_in (sb_seq (sb_set (e := (eT (eT (eT eI)))) (EvG.is (w' := (noX (p_shortest network_here))) (ev_callS (eT (eT (eT eI))) (es_f (ev_f (e := (e2 eI (eT (e3 eI eI eI)))) network_here rfl) es_nil) (fun _ => rfl)) rfl) (ltb rfl) (fun told_here_2 => (la_in (sb_seq (sb_set (e := eI) (EvG.is (w' := (ret network_here.1)) (ev_ixW (e' := eI) (fun a => a.1) 0 (ev_f (e := (e2 eI (eT (e3 eI eI eI)))) network_here rfl) rfl (fun _ => ⟨_, rfl, rfl⟩)) rfl) (ltb rfl) (fun n_3 => (la_in (sb_seq (sb_for (S := Unit) (e := eI) (Γh := fun s5 => [.sl (fz K ((e2 eI (eT (e3 eI eI eI))) network_here)), .sl (ls2 K (e2L eI far_here_1)), .sl (fz K ((eT (eT (eT eI))) told_here_2)), .sl (fz K (eI n_3)), .un, .un, .un, .un, .un]) () (ItG.is (w' := (grd (Rng n_3) (ret (span 0 (n_3).toNat)))) (it_range1 (ev_f (e := eI) n_3 rfl)) rfl) (fun _ h => nomatch h) (wk_mask [true, true, true, true, true, true, true, true, true] _) (fun x4 s5 => (tg_name (ltb rfl))) (fun x4 s5 kc6 => (sb_for (S := Unit) (e := eI) (Γh := fun s9 => [.sl (fz K ((e2 eI (eT (e3 eI eI eI))) network_here)), .sl (ls2 K (e2L eI far_here_1)), .sl (fz K ((eT (eT (eT eI))) told_here_2)), .sl (fz K (eI n_3)), .sl (fz K (eI x4)), .un, .un, .un, .un]) () (ItG.is (w' := (grd (Rng n_3) (ret (span 0 (n_3).toNat)))) (it_range1 (ev_f (e := eI) n_3 rfl)) rfl) (fun _ h => nomatch h) (wk_mask [true, true, true, true, true, true, true, true, true] _) (fun x8 s9 => (tg_name (ltb rfl))) (fun x8 s9 kc10 => (sb_seq (sb_setN (S := fun r => ls K (List.map eI r)) (ev_lc (e := eI) (c := fun c12 => (bnd (bnd (bnd (opt (atI network_here.2 c12)) fun x13 => ret x13.1) fun x14 => ret (decide (x14 = x4))) fun x15 => sel x15 (ret (!decide (x4 = x8))) (ret false))) (f := fun c12 => (ret c12)) (ItG.is (w' := (grd (Rng (network_here.2.length : Int)) (ret (span 0 ((network_here.2.length : Int)).toNat)))) (it_range1 (ev_b1F (ev_ixW (e' := (eT (e3 eI eI eI))) (fun a => a.2) 1 (ev_f (e := (e2 eI (eT (e3 eI eI eI)))) network_here rfl) rfl (fun _ => ⟨_, rfl, rfl⟩)) (fun _ => c_lenT _))) rfl) (fun c12 => (tg_name (ltb rfl))) (fun c12 => (EvT.is (w' := (bnd (bnd (bnd (opt (atI network_here.2 c12)) fun x13 => ret x13.1) fun x14 => ret (decide (x14 = x4))) fun x15 => sel x15 (ret (!decide (x4 = x8))) (ret false))) (et_and (et_test (ev_opF (ev_ixW (e' := eI) (fun a => a.1) 0 (ev_opF (ev_ixW (e' := (eT (e3 eI eI eI))) (fun a => a.2) 1 (ev_f (e := (e2 eI (eT (e3 eI eI eI)))) network_here rfl) rfl (fun _ => ⟨_, rfl, rfl⟩)) (ev_f (e := eI) c12 rfl) (fun _ _ => o_ixT _ _)) rfl (fun _ => ⟨_, rfl, rfl⟩)) (ev_f (e := eI) x4 rfl) (fun _ _ => o_eqI _ _))) (et_test (ev_opF (ev_f (e := eI) x4 rfl) (ev_f (e := eI) x8 rfl) (fun _ _ => o_neI _ _)))) (by simp only [ret_bnd, bnd_bnd, mapW_bnd, mapW_ret] <;> rfl))) (fun c12 => (EvG.is (w' := (ret c12)) (ev_f (e := eI) c12 rfl) rfl))) (ltb rfl) (fun own_17 => (la_in (sb_seq (sb_set (e := (eT eI)) (EvG.is (w' := (bnd (ret own_17) fun l29 => lcG (fun c18 => (bnd (bnd (bnd (opt (atI far_here_1 x4)) fun x19 => opt (atI x19 x8)) fun x20 => ret (decide (x20 < (900 : Int)))) fun x28 => sel x28 (bnd (bnd (bnd (bnd (opt (atI network_here.2 c18)) fun x21 => ret x21.2.1) fun x22 => opt (atI far_here_1 x22)) fun x23 => opt (atI x23 x8)) fun x26 => bnd (bnd (bnd (opt (atI far_here_1 x4)) fun x24 => opt (atI x24 x8)) fun x25 => ret (x25 - (1 : Int))) fun x27 => ret (decide (x26 = x27))) (ret false))) (fun c18 => (ret c18)) l29)) (ev_b1L (EvG.rl (ev_lc (e := eI) (c := fun c18 => (bnd (bnd (bnd (opt (atI far_here_1 x4)) fun x19 => opt (atI x19 x8)) fun x20 => ret (decide (x20 < (900 : Int)))) fun x28 => sel x28 (bnd (bnd (bnd (bnd (opt (atI network_here.2 c18)) fun x21 => ret x21.2.1) fun x22 => opt (atI far_here_1 x22)) fun x23 => opt (atI x23 x8)) fun x26 => bnd (bnd (bnd (opt (atI far_here_1 x4)) fun x24 => opt (atI x24 x8)) fun x25 => ret (x25 - (1 : Int))) fun x27 => ret (decide (x26 = x27))) (ret false))) (f := fun c18 => (ret c18)) (ItG.is (w' := (ret own_17)) (it_var (e := eI) own_17 rfl) rfl) (fun c18 => (tg_name (ltb rfl))) (fun c18 => (EvT.is (w' := (bnd (bnd (bnd (opt (atI far_here_1 x4)) fun x19 => opt (atI x19 x8)) fun x20 => ret (decide (x20 < (900 : Int)))) fun x28 => sel x28 (bnd (bnd (bnd (bnd (opt (atI network_here.2 c18)) fun x21 => ret x21.2.1) fun x22 => opt (atI far_here_1 x22)) fun x23 => opt (atI x23 x8)) fun x26 => bnd (bnd (bnd (opt (atI far_here_1 x4)) fun x24 => opt (atI x24 x8)) fun x25 => ret (x25 - (1 : Int))) fun x27 => ret (decide (x26 = x27))) (ret false))) (et_and (et_test (ev_opF (ev_opLF (ev_ix2 (e := eI) far_here_1 (.inl rfl) (ev_f (e := eI) x4 rfl)) (ev_f (e := eI) x8 rfl) (fun _ _ => o_ixL _ _)) ev_int (fun _ _ => o_lt _ _))) (et_test (ev_opF (ev_opLF (ev_ix2 (e := eI) far_here_1 (.inl rfl) (ev_ixW (e' := eI) (fun a => a.2.1) 1 (ev_opF (ev_ixW (e' := (eT (e3 eI eI eI))) (fun a => a.2) 1 (ev_f (e := (e2 eI (eT (e3 eI eI eI)))) network_here rfl) rfl (fun _ => ⟨_, rfl, rfl⟩)) (ev_f (e := eI) c18 rfl) (fun _ _ => o_ixT _ _)) rfl (fun _ => ⟨_, rfl, rfl⟩))) (ev_f (e := eI) x8 rfl) (fun _ _ => o_ixL _ _)) (ev_opF (ev_opLF (ev_ix2 (e := eI) far_here_1 (.inl rfl) (ev_f (e := eI) x4 rfl)) (ev_f (e := eI) x8 rfl) (fun _ _ => o_ixL _ _)) ev_int (fun _ _ => o_sub _ _)) (fun _ _ => o_eqI _ _)))) (by simp only [ret_bnd, bnd_bnd, mapW_bnd, mapW_ret] <;> rfl))) (fun c18 => (EvG.is (w' := (ret c18)) (ev_f (e := eI) c18 rfl) rfl)))) (fun _ => c_tupL _)) (by simp only [ret_bnd, bnd_bnd, mapW_bnd, mapW_ret] <;> rfl)) (ltb rfl) (fun due_30 => (la_in (sb_if (EvT.is (w' := (bnd (bnd (opt (atI told_here_2 x4)) fun x31 => opt (atI x31 x8)) fun x32 => eqWN ((eT eI) x32) ((eT eI) due_30))) (et_test (ev_opF (ev_opF (ev_opF (ev_f (e := (eT (eT (eT eI)))) told_here_2 rfl) (ev_f (e := eI) x4 rfl) (fun _ _ => o_ixT _ _)) (ev_f (e := eI) x8 rfl) (fun _ _ => o_ixT _ _)) (ev_f (e := (eT eI)) due_30 rfl) (fun _ _ => o_neDW _ _))) rfl) (sb_retF (EvG.is (w' := (ret false)) ev_bl rfl) (fun _ => rfl)) (sb_next (Lands.wk (la_at ()) (wk_mask [true, true, true, true, true, false, false, false, true] _))))))))))))) (fun s9 => (Lands.wk (la_at ()) (wk_mask [true, true, true, true, false, true, true, true, true] _))))) (fun s5 => (la_in (sb_retF (EvG.is (w' := (sel true (ret (decide ((told_here_2.length : Int) = n_3))) (ret false))) (ev_andV (ev_isa (f := PyData.isTuple) (ev_f (e := (eT (eT (eT eI)))) told_here_2 rfl)) (ev_opF (ev_b1F (ev_f (e := (eT (eT (eT eI)))) told_here_2 rfl) (fun _ => c_lenT _)) (ev_f (e := eI) n_3 rfl) (fun _ _ => o_eqI _ _))) rfl) (fun _ => rfl))))))))))))))))))
end
end Cf
namespace Cf
open PySem PySem.Spec PyProof.Rows L2 WL GxR
section
variable {P : Program} {w : World} {K : PySem.W.Frag} [Tbs K] {mg : Str → Option Value} {base : Heap}
set_option maxHeartbeats 4000000
theorem ok_l_sizes25 (T : Tx K mg base) : FnOk P w K mg base CX0 3 T.f_l_sizes25 T.d_l_sizes25 ["_law_tape_here", "_law_many"] (spN K (fun x : Unit × Int × Unit => [.t (tpG tape1 T.Ps), .d (eI x.2.1)]) (fun x => l_sizes25 x.2.1) (fun r : (List Int) => .fz ((eT eI) r))) := by
  have S := sc_l_sizes25
  refine fn_n (N := nn_l_sizes25) T.F_l_sizes25 S (fun _ => rfl) (fun cdv A outer s H E hr => ?_)
  refine ⟨_, (pss_cons (ps_set (i := 2) S.nd rfl (by first | exact .inl rfl | exact .inr rfl) (pe_ix (ix_listK (K := K) rfl) (pe_lst (pa_cons pe_int (pa_cons pe_int (pa_cons pe_int pa_nil)))) (pe_op op_sub (pv 1) pe_int) (fun _ _ => rfl)))
      (pss_cons (ps_if (PW.pt (pw_and (pt_cmpR op_eq (pv 1) pe_int (nomark _)) (pw_and1 (pt_cmpR op_eq (pe_call (ok_l_take T) (hr.mono (by decide)) (by rfl) T.g_l_take T.F_l_take.kp T.b_l_take .nil pass0 (pa_cons (pv 0) (pa_cons pe_int pa_nil))) pe_int (nomark _))))) (pss_one (ps_set (i := 2) S.nd rfl (by first | exact .inl rfl | exact .inr rfl) pe_int)) pss_nil)
      (pss_cons (ps_set (i := 3) S.nd rfl (by first | exact .inl rfl | exact .inr rfl) (pe_callTy (call_tupK (K := K) rfl) (by rfl) T.z_tuple (by decide +kernel) (pa_cons (pe_lc (own := [("_law_k", 4)]) rfl S.nd (pi_range1 (by rfl) T.z_range (pa_cons (pv 1) pa_nil)) (blkOk_by (N := nn_l_sizes25) (sc := (defScope s_l_sizes25)) (own := [("_law_k", 4)]) (by decide +kernel)) (fun _ _ _ _ _ => (pg_name (i := 4) S.nd rfl (by first | exact .inl rfl | exact .inr rfl))) (fun _ _ _ _ _ => pts_nil) (fun _ _ _ _ _ => (pe_op op_add pe_int (pe_call (ok_l_take T) (hr.mono (by decide)) (by rfl) T.g_l_take T.F_l_take.kp T.b_l_take .nil pass0 (pa_cons (pv 0) (pa_cons (pv 2) pa_nil)))))) pa_nil)))
      (pss_one (ps_ret (pe_ifExp (pt_cmpR op_gt (pe_callB (cr_sumTK (K := K) rfl rfl) (by rfl) T.z_sum (by decide +kernel) (pa_cons (pv 3) pa_nil)) (pv 1) (nomark _)) (pv 3) (pe_op (op_catK (K := K) rfl) (pe_tup (pa_cons pe_int pa_nil)) (pe_slice (sl_tupK (K := K) rfl) (pv 3) (po_some pe_int) po_none)))))))), ?_⟩
  rintro ⟨_, many, _⟩
  show SimB _ _ _ _ _ _ [.tp (tpG tape1 T.Ps), .sl (fz K (eI many)), .un, .un, .un] (l_sizes25 many)
  unfold l_sizes25
  exact (sb_seq (sb_set (e := eI) (EvG.is (w' := (opt (atI [(4 : Int), (3 : Int), (2 : Int)] (many - (1 : Int))))) (ev_opLF (EvG.rl (ev_lstS (fun x => [x.1, x.2.1, x.2.2.1]) eI (es_f ev_int (es_f ev_int (es_f ev_int es_nil))) (fun _ => (AllF.cons (AllF.cons (AllF.cons AllF.nil)))) (fun _ => rfl) (fun _ => rfl))) (ev_opF (ev_f (e := eI) many rfl) ev_int (fun _ _ => o_sub _ _)) (fun _ _ => o_ixL _ _)) rfl) (ltb rfl) (fun most_1 => (la_in (sb_join (S := (Int)) (Γf := fun s4 => [.tp (tpG tape1 T.Ps), .sl (fz K (eI many)), .sl (fz K (eI s4)), .un, .un]) (k := fun s4 => _) (sb_if (EvT.is (w' := (sel (decide (many = (2 : Int))) (bnd (noX (l_take (8 : Int))) fun x2 => ret (decide (x2 = (0 : Int)))) (ret false))) (et_and (et_test (ev_opF (ev_f (e := eI) many rfl) ev_int (fun _ _ => o_eqI _ _))) (et_test (ev_opF (ev_callS eI (es_t (ev_t (S := (tpG tape1 T.Ps)) rfl) (es_f ev_int es_nil)) (fun _ => rfl)) ev_int (fun _ _ => o_eqI _ _)))) rfl) (sb_set (e := eI) (EvG.is (w' := (ret (4 : Int))) ev_int rfl) (ltb rfl) (fun most_6 => (Lands.wk (la_at most_6) (wk_mask [true, true, true, true, true] _)))) (sb_next (Lands.wk (la_at most_1) (wk_mask [true, true, true, true, true] _)))) (fun s4 => (sb_seq (sb_set (e := (eT eI)) (EvG.is (w' := (bnd (grd (Rng many) (ret (span 0 (many).toNat))) fun l9 => lcG (fun c7 => (ret true)) (fun c7 => (bnd (noX (l_take s4)) fun x8 => ret ((1 : Int) + x8))) l9)) (ev_b1L (EvG.rl (ev_lc (e := eI) (c := fun c7 => (ret true)) (f := fun c7 => (bnd (noX (l_take s4)) fun x8 => ret ((1 : Int) + x8))) (ItG.is (w' := (grd (Rng many) (ret (span 0 (many).toNat)))) (it_range1 (ev_f (e := eI) many rfl)) rfl) (fun c7 => (tg_name (ltb rfl))) (fun c7 => (EvT.is (w' := (ret true)) et_yes rfl)) (fun c7 => (EvG.is (w' := (bnd (noX (l_take s4)) fun x8 => ret ((1 : Int) + x8))) (ev_opF ev_int (ev_callS eI (es_t (ev_t (S := (tpG tape1 T.Ps)) rfl) (es_f (ev_f (e := eI) s4 rfl) es_nil)) (fun _ => rfl)) (fun _ _ => o_add _ _)) rfl)))) (fun _ => c_tupL _)) rfl) (ltb rfl) (fun sizes_here_10 => (la_in (sb_retF (EvG.is (w' := (sel (decide (many < (List.sum sizes_here_10))) (ret sizes_here_10) (grd ([(2 : Int)].length + (cutA sizes_here_10 (some (1 : Int)) none).length ≤ 16777216) (ret ([(2 : Int)] ++ (cutA sizes_here_10 (some (1 : Int)) none)))))) (ev_ifF (et_test (ev_opF (ev_b1F (ev_f (e := (eT eI)) sizes_here_10 rfl) (fun _ => c_sumT _)) (ev_f (e := eI) many rfl) (fun _ _ => o_gt _ _))) (ev_f (e := (eT eI)) sizes_here_10 rfl) (ev_opF (ev_tupS (fun x => [x.1]) (eT eI) (es_f ev_int es_nil) (fun _ => (AllF.cons AllF.nil)) (fun _ => rfl) (fun _ => rfl)) (ev_slT (ev_f (e := (eT eI)) sizes_here_10 rfl) (eo_some ev_int) eo_none) (fun _ _ => o_catT _ _))) rfl) (fun _ => rfl))))))))))))
end
end Cf
namespace Cf
open PySem PySem.Spec PyProof.Rows L2 WL GxR
section
variable {P : Program} {w : World} {K : PySem.W.Frag} [Tbs K] {mg : Str → Option Value} {base : Heap}
set_option maxHeartbeats 4000000
theorem ok_l_dateline_fits (T : Tx K mg base) : FnOk P w K mg base CX0 1 T.f_l_dateline_fits T.d_l_dateline_fits ["_law_sizes_here", "_law_here", "_law_there", "_law_row"] (spN K (fun x : (List Int) × (List Int) × (List Int) × (Int × Int × Int × Int × Int) × Unit => [.d ((eT eI) x.1), .d ((eT eI) x.2.1), .d ((eT eI) x.2.2.1), .d ((e5 eI eI eI eI eI) x.2.2.2.1)]) (fun x => l_dateline_fits x.1 x.2.1 x.2.2.1 x.2.2.2.1) (fun r : Bool => .fz (eB r))) := by
  have S := sc_l_dateline_fits
  refine fn_n (N := nn_l_dateline_fits) T.F_l_dateline_fits S (fun _ => rfl) (fun cdv A outer s H E hr => ?_)
  refine ⟨_, (pss_cons (ps_set (i := 4) S.nd rfl (by first | exact .inl rfl | exact .inr rfl) (pe_ix (ix_listK (K := K) rfl) (pe_lc (own := [("_law_k", 8)]) rfl S.nd (pi_range1 (by rfl) T.z_range (pa_cons (pe_callB (call_lenK (K := K) rfl) (by rfl) T.z_len (by decide +kernel) (pa_cons (pv 0) pa_nil)) pa_nil)) (blkOk_by (N := nn_l_dateline_fits) (sc := (defScope s_l_dateline_fits)) (own := [("_law_k", 8)]) (by decide +kernel)) (fun _ _ _ _ _ => (pg_name (i := 8) S.nd rfl (by first | exact .inl rfl | exact .inr rfl))) (fun _ _ _ _ _ => (pts_one (pt_cmpR op_ne (pe_ix (ix_tupK (K := K) rfl) (pv 1) (pv 8) (fun _ _ => rfl)) (pe_ix (ix_tupK (K := K) rfl) (pv 2) (pv 8) (fun _ _ => rfl)) (nomark _)))) (fun _ _ _ _ _ => (pv 8))) pe_int (fun _ _ => rfl)))
      (pss_cons (ps_set (i := 5) S.nd rfl (by first | exact .inl rfl | exact .inr rfl) (pe_ix (ix_tupK (K := K) rfl) (pv 1) (pv 4) (fun _ _ => rfl)))
      (pss_cons (ps_set (i := 6) S.nd rfl (by first | exact .inl rfl | exact .inr rfl) (pe_ix (ix_tupK (K := K) rfl) (pv 2) (pv 4) (fun _ _ => rfl)))
      (pss_cons (ps_set (i := 7) S.nd rfl (by first | exact .inl rfl | exact .inr rfl) (pe_ix (ix_tupK (K := K) rfl) (pv 0) (pv 4) (fun _ _ => rfl)))
      (pss_cons (ps_if (pt_cmpR op_ne (pe_ix (ix_tupK (K := K) rfl) (pv 3) pe_int (fun _ _ => rfl)) (pv 4) (nomark _)) (pss_one (ps_ret pe_bl)) pss_nil)
      (pss_cons (ps_if (pt_cmpR op_le (pv 7) pe_int (nomark _)) (pss_one (ps_ret (pe_and (pe_cmpR op_eq (pe_ix (ix_tupK (K := K) rfl) (pv 3) pe_int (fun _ _ => rfl)) (pe_op op_sub (pv 6) (pv 5)) (nomark _)) (pe_one (pe_cmpR op_eq (pe_ix (ix_tupK (K := K) rfl) (pv 3) pe_int (fun _ _ => rfl)) pe_int (nomark _)))))) pss_nil)
      (pss_cons (ps_if (pt_cmpR op_le (pe_op op_mul pe_int (pe_op op_modN (pe_callTy call_int1 (by rfl) T.z_int (by decide +kernel) (pa_cons (pe_op op_sub (pv 6) (pv 5)) pa_nil)) (pv 7))) (pv 7) (nomark _)) (pss_one (ps_ret (pe_and (pe_cmpR op_eq (pe_op op_modN (pe_op op_add (pv 5) (pe_ix (ix_tupK (K := K) rfl) (pv 3) pe_int (fun _ _ => rfl))) (pv 7)) (pe_op op_modN (pe_op op_add (pv 5) pe_int) (pv 7)) (nomark _)) (pe_one (pe_cmpR op_eq (pe_ix (ix_tupK (K := K) rfl) (pv 3) pe_int (fun _ _ => rfl)) (pe_callTy call_int1 (by rfl) T.z_int (by decide +kernel) (pa_cons (pe_cmpR op_lt (pv 6) (pv 5) (nomark _)) pa_nil)) (nomark _)))))) pss_nil)
      (pss_one (ps_ret (pe_and (pe_cmpR op_eq (pe_op op_modN (pe_op op_add (pe_op op_add (pv 5) (pe_ix (ix_tupK (K := K) rfl) (pv 3) pe_int (fun _ _ => rfl))) (pv 7)) (pv 7)) (pe_op op_modN (pe_op op_add (pe_op op_sub (pv 5) pe_int) (pv 7)) (pv 7)) (nomark _)) (pe_one (pe_cmpR op_eq (pe_ix (ix_tupK (K := K) rfl) (pv 3) pe_int (fun _ _ => rfl)) (pe_callTy call_int1 (by rfl) T.z_int (by decide +kernel) (pa_cons (pe_cmpR op_gt (pv 6) (pv 5) (nomark _)) pa_nil)) (nomark _))))))))))))), ?_⟩
  rintro ⟨sizes_here, here, there, row, _⟩
  show SimB _ _ _ _ _ _ [.sl (fz K ((eT eI) sizes_here)), .sl (fz K ((eT eI) here)), .sl (fz K ((eT eI) there)), .sl (fz K ((e5 eI eI eI eI eI) row)), .un, .un, .un, .un, .un] (l_dateline_fits sizes_here here there row)
  unfold l_dateline_fits
  exact (sb_seq (sb_set (e := eI) (EvG.is (w' := (bnd (bnd (grd (Rng (sizes_here.length : Int)) (ret (span 0 ((sizes_here.length : Int)).toNat))) fun l4 => lcG (fun c1 => (bnd (opt (atI here c1)) fun x2 => bnd (opt (atI there c1)) fun x3 => ret (!decide (x2 = x3)))) (fun c1 => (ret c1)) l4) fun x5 => opt (atI x5 (0 : Int)))) (ev_opLF (EvG.rl (ev_lc (e := eI) (c := fun c1 => (bnd (opt (atI here c1)) fun x2 => bnd (opt (atI there c1)) fun x3 => ret (!decide (x2 = x3)))) (f := fun c1 => (ret c1)) (ItG.is (w' := (grd (Rng (sizes_here.length : Int)) (ret (span 0 ((sizes_here.length : Int)).toNat)))) (it_range1 (ev_b1F (ev_f (e := (eT eI)) sizes_here rfl) (fun _ => c_lenT _))) rfl) (fun c1 => (tg_name (ltb rfl))) (fun c1 => (EvT.is (w' := (bnd (opt (atI here c1)) fun x2 => bnd (opt (atI there c1)) fun x3 => ret (!decide (x2 = x3)))) (et_test (ev_opF (ev_opF (ev_f (e := (eT eI)) here rfl) (ev_f (e := eI) c1 rfl) (fun _ _ => o_ixT _ _)) (ev_opF (ev_f (e := (eT eI)) there rfl) (ev_f (e := eI) c1 rfl) (fun _ _ => o_ixT _ _)) (fun _ _ => o_neI _ _))) rfl)) (fun c1 => (EvG.is (w' := (ret c1)) (ev_f (e := eI) c1 rfl) rfl)))) ev_int (fun _ _ => o_ixL _ _)) (by simp only [ret_bnd, bnd_bnd, mapW_bnd, mapW_ret] <;> rfl)) (ltb rfl) (fun at_6 => (la_in (sb_seq (sb_set (e := eI) (EvG.is (w' := (opt (atI here at_6))) (ev_opF (ev_f (e := (eT eI)) here rfl) (ev_f (e := eI) at_6 rfl) (fun _ _ => o_ixT _ _)) rfl) (ltb rfl) (fun x_7 => (la_in (sb_seq (sb_set (e := eI) (EvG.is (w' := (opt (atI there at_6))) (ev_opF (ev_f (e := (eT eI)) there rfl) (ev_f (e := eI) at_6 rfl) (fun _ _ => o_ixT _ _)) rfl) (ltb rfl) (fun t_8 => (la_in (sb_seq (sb_set (e := eI) (EvG.is (w' := (opt (atI sizes_here at_6))) (ev_opF (ev_f (e := (eT eI)) sizes_here rfl) (ev_f (e := eI) at_6 rfl) (fun _ _ => o_ixT _ _)) rfl) (ltb rfl) (fun size_9 => (la_in (sb_seq (sb_if (EvT.is (w' := (ret (!decide (row.2.2.1 = at_6)))) (et_test (ev_opF (ev_ixW (e' := eI) (fun a => a.2.2.1) 2 (ev_f (e := (e5 eI eI eI eI eI)) row rfl) rfl (fun _ => ⟨_, rfl, rfl⟩)) (ev_f (e := eI) at_6 rfl) (fun _ _ => o_neI _ _))) rfl) (sb_retF (EvG.is (w' := (ret false)) ev_bl rfl) (fun _ => rfl)) (sb_next (la_in (sb_seq (sb_if (EvT.is (w' := (ret (decide (size_9 ≤ (2 : Int))))) (et_test (ev_opF (ev_f (e := eI) size_9 rfl) ev_int (fun _ _ => o_le _ _))) rfl) (sb_retF (EvG.is (w' := (sel (decide (row.2.2.2.1 = (t_8 - x_7))) (ret (decide (row.2.2.2.2 = (0 : Int)))) (ret false))) (ev_andV (ev_opF (ev_ixW (e' := eI) (fun a => a.2.2.2.1) 3 (ev_f (e := (e5 eI eI eI eI eI)) row rfl) rfl (fun _ => ⟨_, rfl, rfl⟩)) (ev_opF (ev_f (e := eI) t_8 rfl) (ev_f (e := eI) x_7 rfl) (fun _ _ => o_sub _ _)) (fun _ _ => o_eqI _ _)) (ev_opF (ev_ixW (e' := eI) (fun a => a.2.2.2.2) 4 (ev_f (e := (e5 eI eI eI eI eI)) row rfl) rfl (fun _ => ⟨_, rfl, rfl⟩)) ev_int (fun _ _ => o_eqI _ _))) rfl) (fun _ => rfl)) (sb_next (la_in (sb_seq (sb_if (EvT.is (w' := (bnd (bnd (grd (size_9 ≠ 0) (ret (Int.fmod (t_8 - x_7) size_9))) fun x12 => ret ((2 : Int) * x12)) fun x13 => ret (decide (x13 ≤ size_9)))) (et_test (ev_opF (ev_mulL (by decide) (ev_opF (ev_b1F (ev_opF (ev_f (e := eI) t_8 rfl) (ev_f (e := eI) x_7 rfl) (fun _ _ => o_sub _ _)) (fun _ => c_int _)) (ev_f (e := eI) size_9 rfl) (fun _ _ => o_mod _ _))) (ev_f (e := eI) size_9 rfl) (fun _ _ => o_le _ _))) rfl) (sb_retF (EvG.is (w' := (bnd (bnd (grd (size_9 ≠ 0) (ret (Int.fmod (x_7 + row.2.2.2.1) size_9))) fun x15 => bnd (grd (size_9 ≠ 0) (ret (Int.fmod (x_7 + (1 : Int)) size_9))) fun x16 => ret (decide (x15 = x16))) fun x17 => sel x17 (ret (decide (row.2.2.2.2 = (if (decide (t_8 < x_7)) then 1 else 0 : Int)))) (ret false))) (ev_andV (ev_opF (ev_opF (ev_opF (ev_f (e := eI) x_7 rfl) (ev_ixW (e' := eI) (fun a => a.2.2.2.1) 3 (ev_f (e := (e5 eI eI eI eI eI)) row rfl) rfl (fun _ => ⟨_, rfl, rfl⟩)) (fun _ _ => o_add _ _)) (ev_f (e := eI) size_9 rfl) (fun _ _ => o_mod _ _)) (ev_opF (ev_opF (ev_f (e := eI) x_7 rfl) ev_int (fun _ _ => o_add _ _)) (ev_f (e := eI) size_9 rfl) (fun _ _ => o_mod _ _)) (fun _ _ => o_eqI _ _)) (ev_opF (ev_ixW (e' := eI) (fun a => a.2.2.2.2) 4 (ev_f (e := (e5 eI eI eI eI eI)) row rfl) rfl (fun _ => ⟨_, rfl, rfl⟩)) (ev_b1F (ev_opF (ev_f (e := eI) t_8 rfl) (ev_f (e := eI) x_7 rfl) (fun _ _ => o_lt _ _)) (fun _ => c_intB _)) (fun _ _ => o_eqI _ _))) (by simp only [ret_bnd, bnd_bnd, mapW_bnd, mapW_ret] <;> rfl)) (fun _ => rfl)) (sb_next (la_in (sb_retF (EvG.is (w' := (bnd (bnd (grd (size_9 ≠ 0) (ret (Int.fmod ((x_7 + row.2.2.2.1) + size_9) size_9))) fun x18 => bnd (grd (size_9 ≠ 0) (ret (Int.fmod ((x_7 - (1 : Int)) + size_9) size_9))) fun x19 => ret (decide (x18 = x19))) fun x20 => sel x20 (ret (decide (row.2.2.2.2 = (if (decide (x_7 < t_8)) then 1 else 0 : Int)))) (ret false))) (ev_andV (ev_opF (ev_opF (ev_opF (ev_opF (ev_f (e := eI) x_7 rfl) (ev_ixW (e' := eI) (fun a => a.2.2.2.1) 3 (ev_f (e := (e5 eI eI eI eI eI)) row rfl) rfl (fun _ => ⟨_, rfl, rfl⟩)) (fun _ _ => o_add _ _)) (ev_f (e := eI) size_9 rfl) (fun _ _ => o_add _ _)) (ev_f (e := eI) size_9 rfl) (fun _ _ => o_mod _ _)) (ev_opF (ev_opF (ev_opF (ev_f (e := eI) x_7 rfl) ev_int (fun _ _ => o_sub _ _)) (ev_f (e := eI) size_9 rfl) (fun _ _ => o_add _ _)) (ev_f (e := eI) size_9 rfl) (fun _ _ => o_mod _ _)) (fun _ _ => o_eqI _ _)) (ev_opF (ev_ixW (e' := eI) (fun a => a.2.2.2.2) 4 (ev_f (e := (e5 eI eI eI eI eI)) row rfl) rfl (fun _ => ⟨_, rfl, rfl⟩)) (ev_b1F (ev_opF (ev_f (e := eI) t_8 rfl) (ev_f (e := eI) x_7 rfl) (fun _ _ => o_gt _ _)) (fun _ => c_intB _)) (fun _ _ => o_eqI _ _))) (by simp only [ret_bnd, bnd_bnd, mapW_bnd, mapW_ret] <;> rfl)) (fun _ => rfl))))))))))))))))))))))))))))))
end
end Cf
namespace Cf
open PySem PySem.Spec PyProof.Rows L2 WL GxR
section
variable {P : Program} {w : World} {K : PySem.W.Frag} [Tbs K] {mg : Str → Option Value} {base : Heap}
set_option maxHeartbeats 4000000
theorem ok_l_options25 (T : Tx K mg base) : FnOk P w K mg base CX0 2 T.f_l_options25 T.d_l_options25 ["_law_word", "_law_sizes_here", "_law_rows", "_law_places_here", "_law_u", "_law_d"] (spN K (fun x : Str × (List Int) × (List (Int × Int × Int × Int × Int)) × (List (List Int)) × Int × Int × Unit => [.d (eS x.1), .d ((eT eI) x.2.1), .l (List.map (e5 eI eI eI eI eI) x.2.2.1), .l (List.map (eT eI) x.2.2.2.1), .d (eI x.2.2.2.2.1), .d (eI x.2.2.2.2.2.1)]) (fun x => l_options25 x.1 x.2.1 x.2.2.1 x.2.2.2.1 x.2.2.2.2.1 x.2.2.2.2.2.1) (fun r : (List Int) => .fz ((eT eI) r))) := by
  have S := sc_l_options25
  refine fn_n (N := nn_l_options25) T.F_l_options25 S (fun _ => rfl) (fun cdv A outer s H E hr => ?_)
  refine ⟨_, (pss_cons (ps_set (i := 6) S.nd rfl (by first | exact .inl rfl | exact .inr rfl) (pe_ix (ix_listK (K := K) rfl) (pv 3) (pv 4) (fun _ _ => rfl)))
      (pss_cons (ps_set (i := 7) S.nd rfl (by first | exact .inl rfl | exact .inr rfl) (pe_ix (ix_listK (K := K) rfl) (pv 3) (pv 5) (fun _ _ => rfl)))
      (pss_cons (ps_setLc (i := 8) (own := [("_law_c", 12)]) rfl S.nd rfl rfl (sw_true rfl rfl rfl (by decide +kernel)) (pi_range1 (by rfl) T.z_range (pa_cons (pe_callB (call_lenK (K := K) rfl) (by rfl) T.z_len (by decide +kernel) (pa_cons (pv 2) pa_nil)) pa_nil)) (blkOk_by (N := nn_l_options25) (sc := (defScope s_l_options25)) (own := [("_law_c", 12)]) (by decide +kernel)) (fun _ _ _ _ _ => (pg_name (i := 12) S.nd rfl (by first | exact .inl rfl | exact .inr rfl))) (fun _ _ _ _ _ => (pts_one (pt_cmpR op_eq (pe_ix (ix_tupK (K := K) rfl) (pe_ix (ix_listK (K := K) rfl) (pv 2) (pv 12) (fun _ _ => rfl)) pe_int (fun _ _ => rfl)) (pv 4) (nomark _)))) (fun _ _ _ _ _ => (pv 12)))
      (pss_cons (ps_if (pt_cmpR op_eq (pv 0) pe_str (nomark _)) (pss_one (ps_ret (pe_callTy (call_tupK (K := K) rfl) (by rfl) T.z_tuple (by decide +kernel) (pa_cons (pe_lc (own := [("_law_c", 12)]) rfl S.nd (pi_listK (K := K) rfl (pv 8)) (blkOk_by (N := nn_l_options25) (sc := (defScope s_l_options25)) (own := [("_law_c", 12)]) (by decide +kernel)) (fun _ _ _ _ _ => (pg_name (i := 12) S.nd rfl (by first | exact .inl rfl | exact .inr rfl))) (fun _ _ _ _ _ => (pts_one (pt_val (pe_call (ok_l_dateline_fits T) (hr.mono (by decide)) (by rfl) T.g_l_dateline_fits T.F_l_dateline_fits.kp T.b_l_dateline_fits .nil pass0 (pa_cons (pv 1) (pa_cons (pv 6) (pa_cons (pv 7) (pa_cons (pe_ix (ix_listK (K := K) rfl) (pv 2) (pv 12) (fun _ _ => rfl)) pa_nil)))))))) (fun _ _ _ _ _ => (pv 12))) pa_nil)))) pss_nil)
      (pss_cons (ps_setLc (i := 9) (own := [("_law_c", 12)]) rfl S.nd rfl rfl (sw_true rfl rfl rfl (by decide +kernel)) (pi_listK (K := K) rfl (pv 8)) (blkOk_by (N := nn_l_options25) (sc := (defScope s_l_options25)) (own := [("_law_c", 12)]) (by decide +kernel)) (fun _ _ _ _ _ => (pg_name (i := 12) S.nd rfl (by first | exact .inl rfl | exact .inr rfl))) (fun _ _ _ _ _ => (pts_one (pt_cmpR op_gt (pe_op op_mul (pe_op op_sub (pe_ix (ix_tupK (K := K) rfl) (pv 7) (pe_ix (ix_tupK (K := K) rfl) (pe_ix (ix_listK (K := K) rfl) (pv 2) (pv 12) (fun _ _ => rfl)) pe_int (fun _ _ => rfl)) (fun _ _ => rfl)) (pe_ix (ix_tupK (K := K) rfl) (pv 6) (pe_ix (ix_tupK (K := K) rfl) (pe_ix (ix_listK (K := K) rfl) (pv 2) (pv 12) (fun _ _ => rfl)) pe_int (fun _ _ => rfl)) (fun _ _ => rfl))) (pe_ix (ix_tupK (K := K) rfl) (pe_ix (ix_listK (K := K) rfl) (pv 2) (pv 12) (fun _ _ => rfl)) pe_int (fun _ _ => rfl))) pe_int (nomark _)))) (fun _ _ _ _ _ => (pv 12)))
      (pss_cons (ps_if (pt_cmpR op_eq (pv 0) pe_str (nomark _)) (pss_cons (ps_set (i := 10) S.nd rfl (by first | exact .inl rfl | exact .inr rfl) (pe_ix (ix_listK (K := K) rfl) (pe_lc (own := [("_law_k", 13)]) rfl S.nd (pi_range1 (by rfl) T.z_range (pa_cons (pe_callB (call_lenK (K := K) rfl) (by rfl) T.z_len (by decide +kernel) (pa_cons (pv 1) pa_nil)) pa_nil)) (blkOk_by (N := nn_l_options25) (sc := (defScope s_l_options25)) (own := [("_law_k", 13)]) (by decide +kernel)) (fun _ _ _ _ _ => (pg_name (i := 13) S.nd rfl (by first | exact .inl rfl | exact .inr rfl))) (fun _ _ _ _ _ => (pts_one (pt_cmpR op_ne (pe_ix (ix_tupK (K := K) rfl) (pv 6) (pv 13) (fun _ _ => rfl)) (pe_ix (ix_tupK (K := K) rfl) (pv 7) (pv 13) (fun _ _ => rfl)) (nomark _)))) (fun _ _ _ _ _ => (pv 13))) pe_int (fun _ _ => rfl)))
      (pss_one (ps_ret (pe_callTy (call_tupK (K := K) rfl) (by rfl) T.z_tuple (by decide +kernel) (pa_cons (pe_lc (own := [("_law_c", 12)]) rfl S.nd (pi_listK (K := K) rfl (pv 9)) (blkOk_by (N := nn_l_options25) (sc := (defScope s_l_options25)) (own := [("_law_c", 12)]) (by decide +kernel)) (fun _ _ _ _ _ => (pg_name (i := 12) S.nd rfl (by first | exact .inl rfl | exact .inr rfl))) (fun _ _ _ _ _ => (pts_one (pt_cmpR op_eq (pe_ix (ix_tupK (K := K) rfl) (pe_ix (ix_listK (K := K) rfl) (pv 2) (pv 12) (fun _ _ => rfl)) pe_int (fun _ _ => rfl)) (pv 10) (nomark _)))) (fun _ _ _ _ _ => (pv 12))) pa_nil))))) pss_nil)
      (pss_cons (ps_setLc (i := 11) (own := [("_law_c", 12)]) rfl S.nd rfl rfl (sw_true rfl rfl rfl (by decide +kernel)) (pi_listK (K := K) rfl (pv 9)) (blkOk_by (N := nn_l_options25) (sc := (defScope s_l_options25)) (own := [("_law_c", 12)]) (by decide +kernel)) (fun _ _ _ _ _ => (pg_name (i := 12) S.nd rfl (by first | exact .inl rfl | exact .inr rfl))) (fun _ _ _ _ _ => (pts_one (pt_cmpR op_lt (pe_ix (ix_tupK (K := K) rfl) (pe_ix (ix_listK (K := K) rfl) (pv 2) (pv 12) (fun _ _ => rfl)) pe_int (fun _ _ => rfl)) pe_int (nomark _)))) (fun _ _ _ _ _ => (pv 12)))
      (pss_cons (ps_if (pt_cmpR op_eq (pv 0) pe_str (nomark _)) (pss_one (ps_setLc (i := 11) (own := [("_law_c", 12)]) rfl S.nd rfl rfl (sw_true rfl rfl rfl (by decide +kernel)) (pi_listK (K := K) rfl (pv 11)) (blkOk_by (N := nn_l_options25) (sc := (defScope s_l_options25)) (own := [("_law_c", 12)]) (by decide +kernel)) (fun _ _ _ _ _ => (pg_name (i := 12) S.nd rfl (by first | exact .inl rfl | exact .inr rfl))) (fun _ _ _ _ _ => (pts_one (pt_cmpR op_eq (pe_ix (ix_tupK (K := K) rfl) (pe_ix (ix_listK (K := K) rfl) (pv 2) (pv 12) (fun _ _ => rfl)) pe_int (fun _ _ => rfl)) pe_int (nomark _)))) (fun _ _ _ _ _ => (pv 12)))) pss_nil)
      (pss_cons (ps_if (pt_cmpR op_eq (pv 0) pe_str (nomark _)) (pss_one (ps_setLc (i := 11) (own := [("_law_c", 12)]) rfl S.nd rfl rfl (sw_true rfl rfl rfl (by decide +kernel)) (pi_listK (K := K) rfl (pv 9)) (blkOk_by (N := nn_l_options25) (sc := (defScope s_l_options25)) (own := [("_law_c", 12)]) (by decide +kernel)) (fun _ _ _ _ _ => (pg_name (i := 12) S.nd rfl (by first | exact .inl rfl | exact .inr rfl))) (fun _ _ _ _ _ => (pts_one (PW.pt (pw_or (pt_cmpR op_ne (pe_ix (ix_tupK (K := K) rfl) (pe_ix (ix_listK (K := K) rfl) (pv 2) (pv 12) (fun _ _ => rfl)) pe_int (fun _ _ => rfl)) pe_int (nomark _)) (pw_or1 (pt_cmpR op_lt (pe_ix (ix_tupK (K := K) rfl) (pe_ix (ix_listK (K := K) rfl) (pv 2) (pv 12) (fun _ _ => rfl)) pe_int (fun _ _ => rfl)) pe_int (nomark _))))))) (fun _ _ _ _ _ => (pv 12)))) pss_nil)
      (pss_one (ps_ret (pe_callTy (call_tupK (K := K) rfl) (by rfl) T.z_tuple (by decide +kernel) (pa_cons (pe_ifExp (pt_cmpR op_gt (pe_callB (call_lenK (K := K) rfl) (by rfl) T.z_len (by decide +kernel) (pa_cons (pv 11) pa_nil)) pe_int (nomark _)) (pv 11) (pv 9)) pa_nil))))))))))))), ?_⟩
  rintro ⟨word, sizes_here, rows, places_here, u, d, _⟩
  show SimB _ _ _ _ _ _ [.sl (fz K (eS word)), .sl (fz K ((eT eI) sizes_here)), .rd K (List.map (e5 eI eI eI eI eI) rows), .rd K (List.map (eT eI) places_here), .sl (fz K (eI u)), .sl (fz K (eI d)), .un, .un, .un, .un, .un, .un, .un, .un] (l_options25 word sizes_here rows places_here u d)
  unfold l_options25
  exact (sb_seq (sb_set (e := (eT eI)) (EvG.is (w' := (opt (atI places_here u))) (ev_opLF (ev_r (e := (eT eI)) places_here rfl) (ev_f (e := eI) u rfl) (fun _ _ => o_ixL _ _)) rfl) (ltb rfl) (fun here_1 => (la_in (sb_seq (sb_set (e := (eT eI)) (EvG.is (w' := (opt (atI places_here d))) (ev_opLF (ev_r (e := (eT eI)) places_here rfl) (ev_f (e := eI) d rfl) (fun _ _ => o_ixL _ _)) rfl) (ltb rfl) (fun there_2 => (la_in (sb_seq (sb_setN (S := fun r => ls K (List.map eI r)) (ev_lc (e := eI) (c := fun c3 => (bnd (bnd (opt (atI rows c3)) fun x4 => ret x4.1) fun x5 => ret (decide (x5 = u)))) (f := fun c3 => (ret c3)) (ItG.is (w' := (grd (Rng (rows.length : Int)) (ret (span 0 ((rows.length : Int)).toNat)))) (it_range1 (ev_b1L (ev_r (e := (e5 eI eI eI eI eI)) rows rfl) (fun _ => c_lenL _))) rfl) (fun c3 => (tg_name (ltb rfl))) (fun c3 => (EvT.is (w' := (bnd (bnd (opt (atI rows c3)) fun x4 => ret x4.1) fun x5 => ret (decide (x5 = u)))) (et_test (ev_opF (ev_ixW (e' := eI) (fun a => a.1) 0 (ev_opLF (ev_r (e := (e5 eI eI eI eI eI)) rows rfl) (ev_f (e := eI) c3 rfl) (fun _ _ => o_ixL _ _)) rfl (fun _ => ⟨_, rfl, rfl⟩)) (ev_f (e := eI) u rfl) (fun _ _ => o_eqI _ _))) rfl)) (fun c3 => (EvG.is (w' := (ret c3)) (ev_f (e := eI) c3 rfl) rfl))) (ltb rfl) (fun own_7 => (la_in (sb_seq (sb_if (EvT.is (w' := (ret (decide (word = ("dateline" : Str))))) (et_test (ev_opF (ev_f (e := eS) word rfl) ev_str (fun _ _ => o_eqS _ _))) rfl) (sb_retF (EvG.is (w' := (bnd (ret own_7) fun l11 => lcG (fun c9 => (bnd (opt (atI rows c9)) fun x10 => noX (l_dateline_fits sizes_here here_1 there_2 x10))) (fun c9 => (ret c9)) l11)) (ev_b1L (EvG.rl (ev_lc (e := eI) (c := fun c9 => (bnd (opt (atI rows c9)) fun x10 => noX (l_dateline_fits sizes_here here_1 there_2 x10))) (f := fun c9 => (ret c9)) (ItG.is (w' := (ret own_7)) (it_var (e := eI) own_7 rfl) rfl) (fun c9 => (tg_name (ltb rfl))) (fun c9 => (EvT.is (w' := (bnd (opt (atI rows c9)) fun x10 => noX (l_dateline_fits sizes_here here_1 there_2 x10))) (et_B (ev_callS eB (es_f (ev_f (e := (eT eI)) sizes_here rfl) (es_f (ev_f (e := (eT eI)) here_1 rfl) (es_f (ev_f (e := (eT eI)) there_2 rfl) (es_f (ev_opLF (ev_r (e := (e5 eI eI eI eI eI)) rows rfl) (ev_f (e := eI) c9 rfl) (fun _ _ => o_ixL _ _)) es_nil)))) (fun _ => rfl))) rfl)) (fun c9 => (EvG.is (w' := (ret c9)) (ev_f (e := eI) c9 rfl) rfl)))) (fun _ => c_tupL _)) rfl) (fun _ => rfl)) (sb_next (la_in (sb_seq (sb_setN (S := fun r => ls K (List.map eI r)) (ev_lc (e := eI) (c := fun c12 => (bnd (bnd (bnd (bnd (bnd (opt (atI rows c12)) fun x13 => ret x13.2.2.1) fun x14 => opt (atI there_2 x14)) fun x17 => bnd (bnd (bnd (opt (atI rows c12)) fun x15 => ret x15.2.2.1) fun x16 => opt (atI here_1 x16)) fun x18 => ret (x17 - x18)) fun x20 => bnd (bnd (opt (atI rows c12)) fun x19 => ret x19.2.2.2.1) fun x21 => grd (CMul x20 x21) (ret (x20 * x21))) fun x22 => ret (decide ((0 : Int) < x22)))) (f := fun c12 => (ret c12)) (ItG.is (w' := (ret own_7)) (it_var (e := eI) own_7 rfl) rfl) (fun c12 => (tg_name (ltb rfl))) (fun c12 => (EvT.is (w' := (bnd (bnd (bnd (bnd (bnd (opt (atI rows c12)) fun x13 => ret x13.2.2.1) fun x14 => opt (atI there_2 x14)) fun x17 => bnd (bnd (bnd (opt (atI rows c12)) fun x15 => ret x15.2.2.1) fun x16 => opt (atI here_1 x16)) fun x18 => ret (x17 - x18)) fun x20 => bnd (bnd (opt (atI rows c12)) fun x19 => ret x19.2.2.2.1) fun x21 => grd (CMul x20 x21) (ret (x20 * x21))) fun x22 => ret (decide ((0 : Int) < x22)))) (et_test (ev_opF (ev_opF (ev_opF (ev_opF (ev_f (e := (eT eI)) there_2 rfl) (ev_ixW (e' := eI) (fun a => a.2.2.1) 2 (ev_opLF (ev_r (e := (e5 eI eI eI eI eI)) rows rfl) (ev_f (e := eI) c12 rfl) (fun _ _ => o_ixL _ _)) rfl (fun _ => ⟨_, rfl, rfl⟩)) (fun _ _ => o_ixT _ _)) (ev_opF (ev_f (e := (eT eI)) here_1 rfl) (ev_ixW (e' := eI) (fun a => a.2.2.1) 2 (ev_opLF (ev_r (e := (e5 eI eI eI eI eI)) rows rfl) (ev_f (e := eI) c12 rfl) (fun _ _ => o_ixL _ _)) rfl (fun _ => ⟨_, rfl, rfl⟩)) (fun _ _ => o_ixT _ _)) (fun _ _ => o_sub _ _)) (ev_ixW (e' := eI) (fun a => a.2.2.2.1) 3 (ev_opLF (ev_r (e := (e5 eI eI eI eI eI)) rows rfl) (ev_f (e := eI) c12 rfl) (fun _ _ => o_ixL _ _)) rfl (fun _ => ⟨_, rfl, rfl⟩)) (fun _ _ => o_mul _ _)) ev_int (fun _ _ => o_gt _ _))) (by simp only [ret_bnd, bnd_bnd, mapW_bnd, mapW_ret] <;> rfl))) (fun c12 => (EvG.is (w' := (ret c12)) (ev_f (e := eI) c12 rfl) rfl))) (ltb rfl) (fun useful_24 => (la_in (sb_seq (sb_if (EvT.is (w' := (ret (decide (word = ("order" : Str))))) (et_test (ev_opF (ev_f (e := eS) word rfl) ev_str (fun _ _ => o_eqS _ _))) rfl) (sb_seq (sb_set (e := eI) (EvG.is (w' := (bnd (bnd (grd (Rng (sizes_here.length : Int)) (ret (span 0 ((sizes_here.length : Int)).toNat))) fun l29 => lcG (fun c26 => (bnd (opt (atI here_1 c26)) fun x27 => bnd (opt (atI there_2 c26)) fun x28 => ret (!decide (x27 = x28)))) (fun c26 => (ret c26)) l29) fun x30 => opt (atI x30 (0 : Int)))) (ev_opLF (EvG.rl (ev_lc (e := eI) (c := fun c26 => (bnd (opt (atI here_1 c26)) fun x27 => bnd (opt (atI there_2 c26)) fun x28 => ret (!decide (x27 = x28)))) (f := fun c26 => (ret c26)) (ItG.is (w' := (grd (Rng (sizes_here.length : Int)) (ret (span 0 ((sizes_here.length : Int)).toNat)))) (it_range1 (ev_b1F (ev_f (e := (eT eI)) sizes_here rfl) (fun _ => c_lenT _))) rfl) (fun c26 => (tg_name (ltb rfl))) (fun c26 => (EvT.is (w' := (bnd (opt (atI here_1 c26)) fun x27 => bnd (opt (atI there_2 c26)) fun x28 => ret (!decide (x27 = x28)))) (et_test (ev_opF (ev_opF (ev_f (e := (eT eI)) here_1 rfl) (ev_f (e := eI) c26 rfl) (fun _ _ => o_ixT _ _)) (ev_opF (ev_f (e := (eT eI)) there_2 rfl) (ev_f (e := eI) c26 rfl) (fun _ _ => o_ixT _ _)) (fun _ _ => o_neI _ _))) rfl)) (fun c26 => (EvG.is (w' := (ret c26)) (ev_f (e := eI) c26 rfl) rfl)))) ev_int (fun _ _ => o_ixL _ _)) (by simp only [ret_bnd, bnd_bnd, mapW_bnd, mapW_ret] <;> rfl)) (ltb rfl) (fun at_31 => (la_in (sb_retF (EvG.is (w' := (bnd (ret useful_24) fun l35 => lcG (fun c32 => (bnd (bnd (opt (atI rows c32)) fun x33 => ret x33.2.2.1) fun x34 => ret (decide (x34 = at_31)))) (fun c32 => (ret c32)) l35)) (ev_b1L (EvG.rl (ev_lc (e := eI) (c := fun c32 => (bnd (bnd (opt (atI rows c32)) fun x33 => ret x33.2.2.1) fun x34 => ret (decide (x34 = at_31)))) (f := fun c32 => (ret c32)) (ItG.is (w' := (ret useful_24)) (it_var (e := eI) useful_24 rfl) rfl) (fun c32 => (tg_name (ltb rfl))) (fun c32 => (EvT.is (w' := (bnd (bnd (opt (atI rows c32)) fun x33 => ret x33.2.2.1) fun x34 => ret (decide (x34 = at_31)))) (et_test (ev_opF (ev_ixW (e' := eI) (fun a => a.2.2.1) 2 (ev_opLF (ev_r (e := (e5 eI eI eI eI eI)) rows rfl) (ev_f (e := eI) c32 rfl) (fun _ _ => o_ixL _ _)) rfl (fun _ => ⟨_, rfl, rfl⟩)) (ev_f (e := eI) at_31 rfl) (fun _ _ => o_eqI _ _))) rfl)) (fun c32 => (EvG.is (w' := (ret c32)) (ev_f (e := eI) c32 rfl) rfl)))) (fun _ => c_tupL _)) (by simp only [ret_bnd, bnd_bnd, mapW_bnd, mapW_ret] <;> rfl)) (fun _ => rfl)))))) (sb_next (la_in (sb_seq (sb_setN (S := fun r => ls K (List.map eI r)) (ev_lc (e := eI) (c := fun c36 => (bnd (bnd (opt (atI rows c36)) fun x37 => ret x37.2.2.2.1) fun x38 => ret (decide (x38 < (0 : Int))))) (f := fun c36 => (ret c36)) (ItG.is (w' := (ret useful_24)) (it_var (e := eI) useful_24 rfl) rfl) (fun c36 => (tg_name (ltb rfl))) (fun c36 => (EvT.is (w' := (bnd (bnd (opt (atI rows c36)) fun x37 => ret x37.2.2.2.1) fun x38 => ret (decide (x38 < (0 : Int))))) (et_test (ev_opF (ev_ixW (e' := eI) (fun a => a.2.2.2.1) 3 (ev_opLF (ev_r (e := (e5 eI eI eI eI eI)) rows rfl) (ev_f (e := eI) c36 rfl) (fun _ _ => o_ixL _ _)) rfl (fun _ => ⟨_, rfl, rfl⟩)) ev_int (fun _ _ => o_lt _ _))) rfl)) (fun c36 => (EvG.is (w' := (ret c36)) (ev_f (e := eI) c36 rfl) rfl))) (ltb rfl) (fun first_40 => (la_in (sb_join (S := ((List Int))) (Γf := fun s42 => [.sl (fz K (eS word)), .sl (fz K ((eT eI) sizes_here)), .rd K (List.map (e5 eI eI eI eI eI) rows), .rd K (List.map (eT eI) places_here), .sl (fz K (eI u)), .sl (fz K (eI d)), .sl (fz K ((eT eI) here_1)), .sl (fz K ((eT eI) there_2)), .sl (ls K (List.map eI own_7)), .sl (ls K (List.map eI useful_24)), .un, .sl (ls K (List.map eI s42)), .un, .un]) (k := fun s42 => _) (sb_if (EvT.is (w' := (ret (decide (word = ("west" : Str))))) (et_test (ev_opF (ev_f (e := eS) word rfl) ev_str (fun _ _ => o_eqS _ _))) rfl) (sb_setN (S := fun r => ls K (List.map eI r)) (ev_lc (e := eI) (c := fun c44 => (bnd (bnd (opt (atI rows c44)) fun x45 => ret x45.2.2.1) fun x46 => ret (decide (x46 = (1 : Int))))) (f := fun c44 => (ret c44)) (ItG.is (w' := (ret first_40)) (it_var (e := eI) first_40 rfl) rfl) (fun c44 => (tg_name (ltb rfl))) (fun c44 => (EvT.is (w' := (bnd (bnd (opt (atI rows c44)) fun x45 => ret x45.2.2.1) fun x46 => ret (decide (x46 = (1 : Int))))) (et_test (ev_opF (ev_ixW (e' := eI) (fun a => a.2.2.1) 2 (ev_opLF (ev_r (e := (e5 eI eI eI eI eI)) rows rfl) (ev_f (e := eI) c44 rfl) (fun _ _ => o_ixL _ _)) rfl (fun _ => ⟨_, rfl, rfl⟩)) ev_int (fun _ _ => o_eqI _ _))) rfl)) (fun c44 => (EvG.is (w' := (ret c44)) (ev_f (e := eI) c44 rfl) rfl))) (ltb rfl) (fun first_48 => (Lands.wk (la_at first_48) (wk_mask [true, true, true, true, true, true, true, true, true, true, true, true, true, true] _)))) (sb_next (Lands.wk (la_at first_40) (wk_mask [true, true, true, true, true, true, true, true, true, true, true, true, true, true] _)))) (fun s42 => (sb_join (S := ((List Int))) (Γf := fun s50 => [.sl (fz K (eS word)), .sl (fz K ((eT eI) sizes_here)), .rd K (List.map (e5 eI eI eI eI eI) rows), .rd K (List.map (eT eI) places_here), .sl (fz K (eI u)), .sl (fz K (eI d)), .sl (fz K ((eT eI) here_1)), .sl (fz K ((eT eI) there_2)), .sl (ls K (List.map eI own_7)), .sl (ls K (List.map eI useful_24)), .un, .sl (ls K (List.map eI s50)), .un, .un]) (k := fun s50 => _) (sb_if (EvT.is (w' := (ret (decide (word = ("north" : Str))))) (et_test (ev_opF (ev_f (e := eS) word rfl) ev_str (fun _ _ => o_eqS _ _))) rfl) (sb_setN (S := fun r => ls K (List.map eI r)) (ev_lc (e := eI) (c := fun c52 => (bnd (bnd (bnd (opt (atI rows c52)) fun x53 => ret x53.2.2.1) fun x54 => ret (!decide (x54 = (0 : Int)))) fun x57 => sel x57 (ret true) (bnd (bnd (opt (atI rows c52)) fun x55 => ret x55.2.2.2.1) fun x56 => ret (decide (x56 < (0 : Int)))))) (f := fun c52 => (ret c52)) (ItG.is (w' := (ret useful_24)) (it_var (e := eI) useful_24 rfl) rfl) (fun c52 => (tg_name (ltb rfl))) (fun c52 => (EvT.is (w' := (bnd (bnd (bnd (opt (atI rows c52)) fun x53 => ret x53.2.2.1) fun x54 => ret (!decide (x54 = (0 : Int)))) fun x57 => sel x57 (ret true) (bnd (bnd (opt (atI rows c52)) fun x55 => ret x55.2.2.2.1) fun x56 => ret (decide (x56 < (0 : Int)))))) (et_or (et_test (ev_opF (ev_ixW (e' := eI) (fun a => a.2.2.1) 2 (ev_opLF (ev_r (e := (e5 eI eI eI eI eI)) rows rfl) (ev_f (e := eI) c52 rfl) (fun _ _ => o_ixL _ _)) rfl (fun _ => ⟨_, rfl, rfl⟩)) ev_int (fun _ _ => o_neI _ _))) (et_test (ev_opF (ev_ixW (e' := eI) (fun a => a.2.2.2.1) 3 (ev_opLF (ev_r (e := (e5 eI eI eI eI eI)) rows rfl) (ev_f (e := eI) c52 rfl) (fun _ _ => o_ixL _ _)) rfl (fun _ => ⟨_, rfl, rfl⟩)) ev_int (fun _ _ => o_lt _ _)))) (by simp only [ret_bnd, bnd_bnd, mapW_bnd, mapW_ret] <;> rfl))) (fun c52 => (EvG.is (w' := (ret c52)) (ev_f (e := eI) c52 rfl) rfl))) (ltb rfl) (fun first_59 => (Lands.wk (la_at first_59) (wk_mask [true, true, true, true, true, true, true, true, true, true, true, true, true, true] _)))) (sb_next (Lands.wk (la_at s42) (wk_mask [true, true, true, true, true, true, true, true, true, true, true, true, true, true] _)))) (fun s50 => (sb_retF (EvG.is (w' := (sel (decide ((0 : Int) < (s50.length : Int))) (ret s50) (ret useful_24))) (ev_b1L (ev_ifR (et_test (ev_opF (ev_b1L (ev_l (e := eI) s50 rfl) (fun _ => c_lenL _)) ev_int (fun _ _ => o_gt _ _))) (ev_l (e := eI) s50 rfl) (ev_l (e := eI) useful_24 rfl)) (fun _ => c_tupL _)) rfl) (fun _ => rfl))))))))))))))))))))))))))))))))))
end
end Cf
namespace Cf
open PySem PySem.Spec PyProof.Rows L2 WL GxR
section
variable {P : Program} {w : World} {K : PySem.W.Frag} [Tbs K] {mg : Str → Option Value} {base : Heap}
set_option maxHeartbeats 4000000
theorem ok_l_table (T : Tx K mg base) : FnOk P w K mg base CX0 3 T.f_l_table T.d_l_table ["_law_word", "_law_sizes_here", "_law_lanes"] (spN K (fun x : Str × (List Int) × Int × Unit => [.d (eS x.1), .d ((eT eI) x.2.1), .d (eI x.2.2.1)]) (fun x => l_table x.1 x.2.1 x.2.2.1) (fun r : (List (List (List Int))) => .fz ((eT (eT (eT eI))) r))) := by
  have S := sc_l_table
  refine fn_n (N := nn_l_table) T.F_l_table S (fun _ => rfl) (fun cdv A outer s H E hr => ?_)
  refine ⟨_, (pss_cons (ps_set (i := 3) S.nd rfl (by first | exact .inl rfl | exact .inr rfl) (pe_call (ok_l_grid T) (hr.mono (by decide)) (by rfl) T.g_l_grid T.F_l_grid.kp T.b_l_grid .nil pass0 (pa_cons (pv 1) (pa_cons (pv 2) (pa_cons (pe_cmpR op_eq (pv 0) pe_str (nomark _)) pa_nil)))))
      (pss_cons (ps_set (i := 4) S.nd rfl (by first | exact .inl rfl | exact .inr rfl) (pe_call (ok_l_places T) (hr.mono (by decide)) (by rfl) T.g_l_places T.F_l_places.kp T.b_l_places .nil pass0 (pa_cons (pv 1) pa_nil)))
      (pss_cons (ps_set (i := 5) S.nd rfl (by first | exact .inl rfl | exact .inr rfl) (pe_callB (call_lenK (K := K) rfl) (by rfl) T.z_len (by decide +kernel) (pa_cons (pv 4) pa_nil)))
      (pss_one (ps_ret (pe_callTy (call_tupK (K := K) rfl) (by rfl) T.z_tuple (by decide +kernel) (pa_cons (pe_lc (own := [("_law_u", 6)]) rfl S.nd (pi_range1 (by rfl) T.z_range (pa_cons (pv 5) pa_nil)) (blkOk_by (N := nn_l_table) (sc := (defScope s_l_table)) (own := [("_law_u", 6)]) (by decide +kernel)) (fun _ _ _ _ _ => (pg_name (i := 6) S.nd rfl (by first | exact .inl rfl | exact .inr rfl))) (fun _ _ _ _ _ => pts_nil) (fun _ _ _ _ _ => (pe_callTy (call_tupK (K := K) rfl) (by rfl) T.z_tuple (by decide +kernel) (pa_cons (pe_lc (own := [("_law_d", 7)]) rfl S.nd (pi_range1 (by rfl) T.z_range (pa_cons (pv 5) pa_nil)) (blkOk_by (N := nn_l_table) (sc := (relS ({ kind := .function, names := [(".0", .«local»), ("_law_u", .cell), ("tuple", .globalImplicit), ("range", .globalImplicit), ("_law_n", .free), ("_law_places_here", .free), ("_law_rows", .free), ("_law_sizes_here", .free), ("_law_word", .free)], isGenerator := false, isCoroutine := false, more := [] } : Scope) (defScope s_l_table))) (own := [("_law_d", 7)]) (by decide +kernel)) (fun _ _ _ _ _ => (pg_name (i := 7) S.nd rfl (by first | exact .inl rfl | exact .inr rfl))) (fun _ _ _ _ _ => pts_nil) (fun _ _ _ _ _ => (pe_ifExp (pt_cmpR op_eq (pv 6) (pv 7) (nomark _)) (pe_tup pa_nil) (pe_call (ok_l_options25 T) (hr.mono (by decide)) (by rfl) T.g_l_options25 T.F_l_options25.kp T.b_l_options25 .nil pass0 (pa_cons (pv 0) (pa_cons (pv 1) (pa_cons (pv 3) (pa_cons (pv 4) (pa_cons (pv 6) (pa_cons (pv 7) pa_nil)))))))))) pa_nil)))) pa_nil))))))), ?_⟩
  rintro ⟨word, sizes_here, lanes, _⟩
  show SimB _ _ _ _ _ _ [.sl (fz K (eS word)), .sl (fz K ((eT eI) sizes_here)), .sl (fz K (eI lanes)), .un, .un, .un, .un, .un] (l_table word sizes_here lanes)
  unfold l_table
  exact (sb_seq (sb_setN (S := fun r => ls K (List.map (e5 eI eI eI eI eI) r)) (EvG.is (w' := (noX (l_grid sizes_here lanes (decide (word = ("dateline" : Str)))))) (ev_callNS (fun r => ls K (List.map (e5 eI eI eI eI eI) r)) (es_f (ev_f (e := (eT eI)) sizes_here rfl) (es_f (ev_f (e := eI) lanes rfl) (es_f (ev_opF (ev_f (e := eS) word rfl) ev_str (fun _ _ => o_eqS _ _)) es_nil))) (fun _ => rfl)) rfl) (ltb rfl) (fun rows_1 => (la_in (sb_seq (sb_setN (S := fun r => ls K (List.map (eT eI) r)) (EvG.is (w' := (noX (l_places sizes_here))) (ev_callNS (fun r => ls K (List.map (eT eI) r)) (es_f (ev_f (e := (eT eI)) sizes_here rfl) es_nil) (fun _ => rfl)) rfl) (ltb rfl) (fun places_here_2 => (la_in (sb_seq (sb_set (e := eI) (EvG.is (w' := (ret (places_here_2.length : Int))) (ev_b1L (ev_l (e := (eT eI)) places_here_2 rfl) (fun _ => c_lenL _)) rfl) (ltb rfl) (fun n_3 => (la_in (sb_retF (EvG.is (w' := (bnd (grd (Rng n_3) (ret (span 0 (n_3).toNat))) fun l7 => lcG (fun c4 => (ret true)) (fun c4 => (bnd (grd (Rng n_3) (ret (span 0 (n_3).toNat))) fun l6 => lcG (fun c5 => (ret true)) (fun c5 => (sel (decide (c4 = c5)) (ret ([] : (List Int))) (noX (l_options25 word sizes_here rows_1 places_here_2 c4 c5)))) l6)) l7)) (ev_b1L (EvG.rl (ev_lc (e := eI) (c := fun c4 => (ret true)) (f := fun c4 => (bnd (grd (Rng n_3) (ret (span 0 (n_3).toNat))) fun l6 => lcG (fun c5 => (ret true)) (fun c5 => (sel (decide (c4 = c5)) (ret ([] : (List Int))) (noX (l_options25 word sizes_here rows_1 places_here_2 c4 c5)))) l6)) (ItG.is (w' := (grd (Rng n_3) (ret (span 0 (n_3).toNat)))) (it_range1 (ev_f (e := eI) n_3 rfl)) rfl) (fun c4 => (tg_name (ltb rfl))) (fun c4 => (EvT.is (w' := (ret true)) et_yes rfl)) (fun c4 => (EvG.is (w' := (bnd (grd (Rng n_3) (ret (span 0 (n_3).toNat))) fun l6 => lcG (fun c5 => (ret true)) (fun c5 => (sel (decide (c4 = c5)) (ret ([] : (List Int))) (noX (l_options25 word sizes_here rows_1 places_here_2 c4 c5)))) l6)) (ev_b1L (EvG.rl (ev_lc (e := eI) (c := fun c5 => (ret true)) (f := fun c5 => (sel (decide (c4 = c5)) (ret ([] : (List Int))) (noX (l_options25 word sizes_here rows_1 places_here_2 c4 c5)))) (ItG.is (w' := (grd (Rng n_3) (ret (span 0 (n_3).toNat)))) (it_range1 (ev_f (e := eI) n_3 rfl)) rfl) (fun c5 => (tg_name (ltb rfl))) (fun c5 => (EvT.is (w' := (ret true)) et_yes rfl)) (fun c5 => (EvG.is (w' := (sel (decide (c4 = c5)) (ret ([] : (List Int))) (noX (l_options25 word sizes_here rows_1 places_here_2 c4 c5)))) (ev_ifF (et_test (ev_opF (ev_f (e := eI) c4 rfl) (ev_f (e := eI) c5 rfl) (fun _ _ => o_eqI _ _))) (ev_tupS (fun x => []) (eT eI) es_nil (fun _ => AllF.nil) (fun _ => rfl) (fun _ => rfl)) (ev_callS (eT eI) (es_f (ev_f (e := eS) word rfl) (es_f (ev_f (e := (eT eI)) sizes_here rfl) (es_l (ev_l (e := (e5 eI eI eI eI eI)) rows_1 rfl) (es_l (ev_l (e := (eT eI)) places_here_2 rfl) (es_f (ev_f (e := eI) c4 rfl) (es_f (ev_f (e := eI) c5 rfl) es_nil)))))) (fun _ => rfl))) rfl)))) (fun _ => c_tupL _)) rfl)))) (fun _ => c_tupL _)) rfl) (fun _ => rfl))))))))))))))
end
end Cf
namespace Cf
open PySem PySem.Spec PyProof.Rows L2 WL GxR
section
variable {P : Program} {w : World} {K : PySem.W.Frag} [Tbs K] {mg : Str → Option Value} {base : Heap}
set_option maxHeartbeats 4000000
theorem ok_l_tape (T : Tx K mg base) : FnOk P w K mg base CX0 1 T.f_l_tape T.d_l_tape ["_law_script", "_law_budget"] (spTape K) := by
  have S := sc_l_tape
  refine T.F_l_tape.ok S (fun vs H Q E h => by obtain ⟨p, ns, z, rfl, _⟩ := h; rfl) (fun cdv A outer s H vs Q E hr h => ?_)
  obtain ⟨p, ns, z, rfl, hs, q⟩ := h
  refine ⟨_, pss_one (ps_ret (pe_lst (pa_cons (pe_callTy (call_lstK (K := K) rfl) (by rfl) T.z_list (by decide +kernel) (pa_cons (pv 0) pa_nil)) (pa_cons pe_int (pa_cons pe_int (pa_cons pe_int (pa_cons (pv 1) pa_nil))))))), ?_⟩
  obtain ⟨p', ys, e, h1, h2⟩ := tape_new hs q
  exact ⟨_, rfl, p', ys, e, h1, fun l hl => ⟨_, rfl, (show (5 : Nat) ≤ 16777216 by decide), h2 l hl⟩⟩
end
end Cf
namespace Cf
open PySem PySem.Spec PyProof.Rows L2 WL GxR
section
variable {P : Program} {w : World} {K : PySem.W.Frag} [Tbs K] {mg : Str → Option Value} {base : Heap}
set_option maxHeartbeats 4000000
theorem ok_p_AcrossLines_init (T : Tx K mg base) : FnOk P w K mg base CX0 1 T.f_p_AcrossLines_init T.d_p_AcrossLines_init ["self", "grid"] (spI K T.o_AcrossLines (fun y : (((List Int) × Int × (Int × (List (Int × Int × Int))) × (List (List Int))) × Unit) × V => [Ag.b (andS (sl_Grid T (y.1.1)) y.2)]) (fun y => ret y) (fun (r : (((List Int) × Int × (Int × (List (Int × Int × Int))) × (List (List Int))) × Unit) × V) _ => [("grid", eqS r.2)])) := by
  have S := sc_p_AcrossLines_init
  refine fn_init (N := nn_p_AcrossLines_init) T.F_p_AcrossLines_init S (fun _ => rfl) (fun cdv A outer s H E hr => ?_)
  refine ⟨_, (pss_one (ps_fldK (K := K) rfl (pv 0) (pv 1) rfl)), ?_⟩
  rintro ⟨⟨grid, _⟩, v⟩ a
  show SimB _ _ _ _ _ _ [.sl (insA T.o_AcrossLines a []), .rb (andS (sl_Grid T grid) v)] (ret ((grid, ()), v))
  exact SimB.is (m' := ret ((grid, ()), v)) (sb_fld (i := 0) (a := a) (fs := []) (S := fun _ : Unit => eqS v) rfl T.cl_AcrossLines T.na_AcrossLines_grid (fun _ => nm_by [] rfl (by decide +kernel)) (show 0 < 1000 by decide) (EvG.bE (ev_B (S := fun _ : Unit => andS (sl_Grid T grid) v) () (.inr rfl))) (fun _ => (la_init (i := 0) (fs := fun r : (((List Int) × Int × (Int × (List (Int × Int × Int))) × (List (List Int))) × Unit) × V => [("grid", eqS r.2)]) (out := ((grid, ()), v)) rfl))) rfl
end
end Cf
namespace Cf
open PySem PySem.Spec PyProof.Rows L2 WL GxR
section
variable {P : Program} {w : World} {K : PySem.W.Frag} [Tbs K] {mg : Str → Option Value} {base : Heap}
set_option maxHeartbeats 4000000
theorem ok_p_is_numberI (T : Tx K mg base) : FnOk P w K mg base CX0 1 T.f_p_is_numberI T.d_p_is_numberI ["value", "least", "most"] (spN K (fun x : Int × Int × Int × Unit => [.d (eI x.1), .d (eI x.2.1), .d (eI x.2.2.1)]) (fun x => p_is_numberI x.1 x.2.1 x.2.2.1) (fun r : Bool => .fz (eB r))) := by
  have S := sc_p_is_numberI
  refine fn_n (N := nn_p_is_numberI) T.F_p_is_numberI S (fun _ => rfl) (fun cdv A outer s H E hr => ?_)
  refine ⟨_, (pss_one (ps_ret (pe_and (pe_callB (cr_isaInt (K := K) rfl) (by rfl) T.z_isinstance (by decide +kernel) (pa_cons (pv 0) (pa_cons (pe_bltn (v := .ty "int") (by rfl) T.z_int (by decide +kernel) rfl) pa_nil))) (pe_and (pe_not (pe_callB (cr_isaBool (K := K) rfl) (by rfl) T.z_isinstance (by decide +kernel) (pa_cons (pv 0) (pa_cons (pe_bltn (v := .ty "bool") (by rfl) T.z_bool (by decide +kernel) rfl) pa_nil)))) (pe_one (pe_chain op_le op_le (pv 1) (pv 0) (pv 2))))))), ?_⟩
  rintro ⟨value, least, most, _⟩
  show SimB _ _ _ _ _ _ [.sl (fz K (eI value)), .sl (fz K (eI least)), .sl (fz K (eI most))] (p_is_numberI value least most)
  unfold p_is_numberI
  exact (sb_retF (EvG.is (w' := (sel true (sel (!false) (sel (decide (least ≤ value)) (ret (decide (value ≤ most))) (ret false)) (ret false)) (ret false))) (ev_andV (ev_isa (f := PyData.isInt) (ev_f (e := eI) value rfl)) (ev_andV (ev_notV (ev_isa (f := PyData.isBool) (ev_f (e := eI) value rfl))) (ev_chainI (ev_f (e := eI) least rfl) (ev_f (e := eI) value rfl) (ev_f (e := eI) most rfl) (fun _ _ => o_le _ _) (fun _ _ => o_le _ _)))) (by simp only [ret_bnd, bnd_bnd, mapW_bnd, mapW_ret] <;> rfl)) (fun _ => rfl))
end
end Cf
namespace Cf
open PySem PySem.Spec PyProof.Rows L2 WL GxR
section
variable {P : Program} {w : World} {K : PySem.W.Frag} [Tbs K] {mg : Str → Option Value} {base : Heap}
set_option maxHeartbeats 4000000
theorem ok_p_made (T : Tx K mg base) : FnOk P w K mg base (L2.CX P w) 2 T.f_p_made T.d_p_made ["n", "links"] (spX K (ctOf [T.xa_NotAllowed]) (fun x : Int × (List (Int × Int)) × Unit => [.d (eI x.1), .l (List.map (e2 eI eI) x.2.1)]) (fun x => p_made x.1 x.2.1) (fun r : (Int × (List (Int × Int))) => .fz ((e2 eI (eT (e2 eI eI))) r))) := by
  have S := sc_p_made
  refine fn_x (N := nn_p_made) T.F_p_made S (fun _ => rfl) (fun cdv A outer s H E hr => ?_)
  refine ⟨_, (pss_cons (ps_if (PW.pt (pw_or (pt_not (pt_val (pe_call (ok_p_is_numberI T) (hr.mono (by decide)) (by rfl) T.g_p_is_numberI T.F_p_is_numberI.kp T.b_p_is_numberI .nil pass0 (pa_cons (pv 0) (pa_cons pe_int (pa_cons (pe_glob (by rfl) T.c_p_MAX_NODES (show RelV (.int 64) _ from ⟨_, rfl⟩)) pa_nil)))))) (pw_or (pt_not (pt_truthK (K := K) rfl (pv 1) (by intro _; rfl))) (pw_or1 (pt_cmpR op_gt (pe_op op_mul pe_int (pe_callB (call_lenK (K := K) rfl) (by rfl) T.z_len (by decide +kernel) (pa_cons (pv 1) pa_nil))) (pe_glob (by rfl) T.c_p_MAX_CHANNELS (show RelV (.int 400) _ from ⟨_, rfl⟩)) (nomark _)))))) (pss_one (ps_raiseC (K := K) rfl T.xc_NotAllowed rfl (takes_of rfl rfl rfl rfl) (by exact rfl))) pss_nil)
      (pss_one (ps_ret (pe_tup (pa_cons (pv 0) (pa_cons (pe_callTy (call_tupK (K := K) rfl) (by rfl) T.z_tuple (by decide +kernel) (pa_cons (pe_callB (cr_sortDK (K := K) rfl hr.units) (by rfl) T.z_sorted (by decide +kernel) (pa_cons (pv 1) pa_nil)) pa_nil)) pa_nil)))))), ?_⟩
  rintro ⟨n, links, _⟩
  show SimB _ _ _ _ _ _ [.sl (fz K (eI n)), .rd K (List.map (e2 eI eI) links)] (p_made n links)
  unfold p_made
  exact (sb_seq (sb_if (EvT.is (w' := (bnd (bnd (noX (p_is_numberI n (2 : Int) (64 : Int))) fun x1 => ret (!x1)) fun x2 => sel x2 (ret true) (sel (!(!links.isEmpty)) (ret true) (ret (decide ((400 : Int) < ((2 : Int) * (links.length : Int)))))))) (et_or (et_not (et_B (ev_callS eB (es_f (ev_f (e := eI) n rfl) (es_f ev_int (es_f ev_int es_nil))) (fun _ => rfl)))) (et_or (et_not (et_truL (ev_r (e := (e2 eI eI)) links rfl))) (et_test (ev_opF (ev_mulL (by decide) (ev_b1L (ev_r (e := (e2 eI eI)) links rfl) (fun _ => c_lenL _))) ev_int (fun _ _ => o_gt _ _))))) rfl) (sb_raise 0 rfl) (sb_next (la_in (sb_retF (EvG.is (w' := (bnd (sortW (e2 eI eI) links) fun x4 => ret (n, x4))) (ev_tupS (fun x => (x.1, x.2.1)) (e2 eI (eT (e2 eI eI))) (es_f (ev_f (e := eI) n rfl) (es_f (ev_b1L (EvG.rl (ev_b1L (ev_r (e := (e2 eI eI)) links rfl) (fun _ => c_sortD _))) (fun _ => c_tupL _)) es_nil)) (fun _ => (AllF.cons (AllF.cons AllF.nil))) (fun _ => rfl) (fun _ => rfl)) rfl) (fun _ => rfl))))))
end
end Cf
namespace Cf
open PySem PySem.Spec PyProof.Rows L2 WL GxR
section
variable {P : Program} {w : World} {K : PySem.W.Frag} [Tbs K] {mg : Str → Option Value} {base : Heap}
set_option maxHeartbeats 4000000
theorem ok_p_node_at (T : Tx K mg base) : FnOk P w K mg base CX0 1 T.f_p_node_at T.d_p_node_at ["sizes", "place"] (spN K (fun x : (List Int) × (List Int) × Unit => [.d ((eT eI) x.1), .d ((eT eI) x.2.1)]) (fun x => p_node_at x.1 x.2.1) (fun r : Int => .fz (eI r))) := by
  have S := sc_p_node_at
  refine fn_n (N := nn_p_node_at) T.F_p_node_at S (fun _ => rfl) (fun cdv A outer s H E hr => ?_)
  refine ⟨_, (pss_cons (ps_set (i := 2) S.nd rfl (by first | exact .inl rfl | exact .inr rfl) pe_int)
      (pss_cons (ps_for PassesOwn.never rfl (RZ.pi_zipA (by rfl) T.z_zip (pa_cons (pv 0) (pa_cons (pv 1) pa_nil))) (pg_tupK (n := 2) (K := K) rfl rfl (pgs_cons (pg_name (i := 3) S.nd rfl (by first | exact .inl rfl | exact .inr rfl)) (pgs_cons (pg_name (i := 4) S.nd rfl (by first | exact .inl rfl | exact .inr rfl)) pgs_nil))) (pss_one (ps_set (i := 2) S.nd rfl (by first | exact .inl rfl | exact .inr rfl) (pe_op op_add (pe_op op_mul (pv 2) (pv 3)) (pv 4)))))
      (pss_one (ps_ret (pv 2))))), ?_⟩
  rintro ⟨sizes, place, _⟩
  show SimB _ _ _ _ _ _ [.sl (fz K ((eT eI) sizes)), .sl (fz K ((eT eI) place)), .un, .un, .un] (p_node_at sizes place)
  unfold p_node_at
  exact (sb_seq (sb_set (e := eI) (EvG.is (w' := (ret (0 : Int))) ev_int rfl) (ltb rfl) (fun node_1 => (la_in (sb_seq (sb_for (S := (Int)) (e := (e2 eI eI)) (Γh := fun s3 => [.sl (fz K ((eT eI) sizes)), .sl (fz K ((eT eI) place)), .sl (fz K (eI s3)), .un, .un]) node_1 (ItG.is (w' := (ret (List.zip sizes place))) (it_zipT (ev_f (e := (eT eI)) sizes rfl) (ev_f (e := (eT eI)) place rfl)) rfl) (fun _ h => nomatch h) (wk_mask [true, true, true, true, true] _) (fun x2 s3 => (tg_tup (ds := [eI (x2.1), eI (x2.2)]) (ts_cons (tg_name (ltb rfl)) (ts_cons (tg_name (ltb rfl)) ts_nil)) rfl rfl)) (fun x2 s3 kc4 => (sb_set (e := eI) (EvG.is (w' := (bnd (grd (CMul s3 (x2.1)) (ret (s3 * (x2.1)))) fun x6 => ret (x6 + (x2.2)))) (ev_opF (ev_opF (ev_f (e := eI) s3 rfl) (ev_f (e := eI) (x2.1) rfl) (fun _ _ => o_mul _ _)) (ev_f (e := eI) (x2.2) rfl) (fun _ _ => o_add _ _)) rfl) (ltb rfl) (fun node_7 => (Lands.wk (la_at node_7) (wk_mask [true, true, true, false, false] _))))) (fun s3 => (la_in (sb_retF (EvG.is (w' := (ret s3)) (ev_f (e := eI) s3 rfl) rfl) (fun _ => rfl))))))))))
end
end Cf
namespace Cf
open PySem PySem.Spec PyProof.Rows L2 WL GxR
section
variable {P : Program} {w : World} {K : PySem.W.Frag} [Tbs K] {mg : Str → Option Value} {base : Heap}
set_option maxHeartbeats 4000000
theorem ok_p_nodes_of (T : Tx K mg base) : FnOk P w K mg base (L2.CX P w) 2 T.f_p_nodes_of T.d_p_nodes_of ["sizes"] (spX K (ctOf [T.xa_NotAllowed]) (fun x : (List Int) × Unit => [.d ((eT eI) x.1)]) (fun x => p_nodes_of x.1) (fun r : Int => .fz (eI r))) := by
  have S := sc_p_nodes_of
  refine fn_x (N := nn_p_nodes_of) T.F_p_nodes_of S (fun _ => rfl) (fun cdv A outer s H E hr => ?_)
  refine ⟨_, (pss_cons (ps_if (PW.pt (pw_or (pt_not (pt_chain op_le op_le pe_int (pe_callB (call_lenK (K := K) rfl) (by rfl) T.z_len (by decide +kernel) (pa_cons (pv 0) pa_nil)) (pe_glob (by rfl) T.c_p_MAX_SIZES (show RelV (.int 6) _ from ⟨_, rfl⟩)))) (pw_or1 (pt_not (pt_val (pe_callB (cr_allK (K := K) rfl rfl) (by rfl) T.z_all (by decide +kernel) (pa_cons (pe_lc (own := [("size", 1)]) rfl S.nd (pi_tupK (K := K) rfl (pv 0)) (blkOk_by (N := nn_p_nodes_of) (sc := (defScope s_p_nodes_of)) (own := [("size", 1)]) (by decide +kernel)) (fun _ _ _ _ _ => (pg_name (i := 1) S.nd rfl (by first | exact .inl rfl | exact .inr rfl))) (fun _ _ _ _ _ => pts_nil) (fun _ _ _ _ _ => (pe_call (ok_p_is_numberI T) (hr.mono (by decide)) (by rfl) T.g_p_is_numberI T.F_p_is_numberI.kp T.b_p_is_numberI .nil pass0 (pa_cons (pv 1) (pa_cons pe_int (pa_cons (pe_glob (by rfl) T.c_p_MAX_SIZE (show RelV (.int 64) _ from ⟨_, rfl⟩)) pa_nil)))))) pa_nil))))))) (pss_one (ps_raiseC (K := K) rfl T.xc_NotAllowed rfl (takes_of rfl rfl rfl rfl) (by exact rfl))) pss_nil)
      (pss_cons (ps_set (i := 2) S.nd rfl (by first | exact .inl rfl | exact .inr rfl) pe_int)
      (pss_cons (ps_for (passes_of rfl) rfl (pi_tupK (K := K) rfl (pv 0)) (pg_name (i := 1) S.nd rfl (by first | exact .inl rfl | exact .inr rfl)) (pss_one (ps_aug (i := 2) S.nd rfl (by first | exact .inl rfl | exact .inr rfl) (pv 1) ip_mul)))
      (pss_cons (ps_if (pt_not (pt_chain op_le op_le pe_int (pv 2) (pe_glob (by rfl) T.c_p_MAX_NODES (show RelV (.int 64) _ from ⟨_, rfl⟩)))) (pss_one (ps_raiseC (K := K) rfl T.xc_NotAllowed rfl (takes_of rfl rfl rfl rfl) (by exact rfl))) pss_nil)
      (pss_one (ps_ret (pv 2))))))), ?_⟩
  rintro ⟨sizes, _⟩
  show SimB _ _ _ _ _ _ [.sl (fz K ((eT eI) sizes)), .un, .un] (p_nodes_of sizes)
  unfold p_nodes_of
  exact (sb_seq (sb_if (EvT.is (w' := (bnd (bnd (sel (decide ((1 : Int) ≤ (sizes.length : Int))) (ret (decide ((sizes.length : Int) ≤ (6 : Int)))) (ret false)) fun x1 => ret (!x1)) fun x6 => sel x6 (ret true) (bnd (bnd (bnd (ret sizes) fun l3 => lcG (fun c2 => (ret true)) (fun c2 => (noX (p_is_numberI c2 (1 : Int) (64 : Int)))) l3) fun x4 => ret (List.all x4 id)) fun x5 => ret (!x5)))) (et_or (et_not (et_test (ev_chainI ev_int (ev_b1F (ev_f (e := (eT eI)) sizes rfl) (fun _ => c_lenT _)) ev_int (fun _ _ => o_le _ _) (fun _ _ => o_le _ _)))) (et_not (et_B (ev_b1L (EvG.rl (ev_lc (e := eI) (c := fun c2 => (ret true)) (f := fun c2 => (noX (p_is_numberI c2 (1 : Int) (64 : Int)))) (ItG.is (w' := (ret sizes)) (it_tup (ev_f (e := (eT eI)) sizes rfl)) rfl) (fun c2 => (tg_name (ltb rfl))) (fun c2 => (EvT.is (w' := (ret true)) et_yes rfl)) (fun c2 => (EvG.is (w' := (noX (p_is_numberI c2 (1 : Int) (64 : Int)))) (ev_callS eB (es_f (ev_f (e := eI) c2 rfl) (es_f ev_int (es_f ev_int es_nil))) (fun _ => rfl)) rfl)))) (fun _ => c_all _))))) (by simp only [ret_bnd, bnd_bnd, mapW_bnd, mapW_ret] <;> rfl)) (sb_raise 0 rfl) (sb_next (la_in (sb_seq (sb_set (e := eI) (EvG.is (w' := (ret (1 : Int))) ev_int rfl) (ltb rfl) (fun product_8 => (la_in (sb_seq (sb_for (S := (Int)) (e := eI) (Γh := fun s10 => [.sl (fz K ((eT eI) sizes)), .un, .sl (fz K (eI s10))]) product_8 (ItG.is (w' := (ret sizes)) (it_tup (ev_f (e := (eT eI)) sizes rfl)) rfl) (fun _ h => nomatch h) (wk_mask [true, true, true] _) (fun x9 s10 => (tg_name (ltb rfl))) (fun x9 s10 kc11 => (sb_augMul (x := s10) rfl (EvG.is (w' := (ret x9)) (ev_f (e := eI) x9 rfl) rfl) (fun product_13 => (Lands.wk (la_at product_13) (wk_mask [true, false, true] _))))) (fun s10 => (la_in (sb_seq (sb_if (EvT.is (w' := (bnd (sel (decide ((2 : Int) ≤ s10)) (ret (decide (s10 ≤ (64 : Int)))) (ret false)) fun x14 => ret (!x14))) (et_not (et_test (ev_chainI ev_int (ev_f (e := eI) s10 rfl) ev_int (fun _ _ => o_le _ _) (fun _ _ => o_le _ _)))) rfl) (sb_raise 0 rfl) (sb_next (la_in (sb_retF (EvG.is (w' := (ret s10)) (ev_f (e := eI) s10 rfl) rfl) (fun _ => rfl))))))))))))))))))
end
end Cf
namespace Cf
open PySem PySem.Spec PyProof.Rows L2 WL GxR
section
variable {P : Program} {w : World} {K : PySem.W.Frag} [Tbs K] {mg : Str → Option Value} {base : Heap}
set_option maxHeartbeats 4000000
theorem ok_p_place_of (T : Tx K mg base) : FnOk P w K mg base CX0 1 T.f_p_place_of T.d_p_place_of ["sizes", "node"] (spN K (fun x : (List Int) × Int × Unit => [.d ((eT eI) x.1), .d (eI x.2.1)]) (fun x => p_place_of x.1 x.2.1) (fun r : (List Int) => .fz ((eT eI) r))) := by
  have S := sc_p_place_of
  refine fn_n (N := nn_p_place_of) T.F_p_place_of S (fun _ => rfl) (fun cdv A outer s H E hr => ?_)
  refine ⟨_, (pss_cons (ps_set (i := 2) S.nd rfl (by first | exact .inl rfl | exact .inr rfl) (pe_lst pa_nil))
      (pss_cons (ps_for PassesOwn.never rfl (RT.pi_revA (by rfl) T.z_reversed (pv 0)) (pg_name (i := 3) S.nd rfl (by first | exact .inl rfl | exact .inr rfl)) (pss_cons (ps_expr (pe_bm PySem.F.plainAttrs_list PySem.F.slot_list_append PySem.F.type_list_append mt_append (pv 2) (pa_cons (pe_op op_modN (pv 1) (pv 3)) pa_nil)))
      (pss_one (ps_aug (i := 1) S.nd rfl (by first | exact .inl rfl | exact .inr rfl) (pv 3) ip_fdiv))))
      (pss_one (ps_ret (RT.pe_tupRev (by rfl) (by rfl) T.z_tuple (by rfl) T.z_reversed (pv 2)))))), ?_⟩
  rintro ⟨sizes, node, _⟩
  show SimB _ _ _ _ _ _ [.sl (fz K ((eT eI) sizes)), .sl (fz K (eI node)), .un, .un] (p_place_of sizes node)
  unfold p_place_of
  exact (sb_seq (sb_setN (S := fun r => ls K (List.map eI r)) (EvG.is (w' := (ret ([] : List Int))) (ev_lstS (fun _ => ([] : List Int)) eI es_nil (fun _ => AllF.nil) (fun _ => rfl) (fun _ => rfl)) rfl) (ltb rfl) (fun place_1 => (la_in (sb_seq (sb_for (S := ((List Int) × Int)) (e := eI) (Γh := fun s3 => [.sl (fz K ((eT eI) sizes)), .sl (fz K (eI s3.2)), .sl (ls K (List.map eI s3.1)), .un]) (place_1, node) (ItG.is (w' := (ret (sizes).reverse)) (it_revT (ev_f (e := (eT eI)) sizes rfl)) rfl) (fun _ h => nomatch h) (wk_mask [true, true, true, true] _) (fun x2 s3 => (tg_name (ltb rfl))) (fun x2 s3 kc4 => (sb_seq (sb_appendK (e := eI) (xs := s3.1) rfl (EvG.is (w' := (grd (x2 ≠ 0) (ret (Int.fmod s3.2 x2)))) (ev_opF (ev_f (e := eI) s3.2 rfl) (ev_f (e := eI) x2 rfl) (fun _ _ => o_mod _ _)) rfl) (fun s6 => (la_in (sb_augDiv (x := s3.2) rfl (EvG.is (w' := (ret x2)) (ev_f (e := eI) x2 rfl) rfl) (fun node_7 => (Lands.wk (la_at (s6, node_7)) (wk_mask [true, true, true, false] _))))))))) (fun s3 => (la_in (sb_retF (EvG.is (w' := (ret (s3.1).reverse)) (ev_tupRev (ev_l (e := eI) s3.1 rfl)) rfl) (fun _ => rfl))))))))))
end
end Cf
namespace Cf
open PySem PySem.Spec PyProof.Rows L2 WL GxR
section
variable {P : Program} {w : World} {K : PySem.W.Frag} [Tbs K] {mg : Str → Option Value} {base : Heap}
set_option maxHeartbeats 4000000
theorem ok_p_stepped (T : Tx K mg base) : FnOk P w K mg base CX0 1 T.f_p_stepped T.d_p_stepped ["place", "at", "by"] (spN K (fun x : (List Int) × Int × Int × Unit => [.d ((eT eI) x.1), .d (eI x.2.1), .d (eI x.2.2.1)]) (fun x => p_stepped x.1 x.2.1 x.2.2.1) (fun r : (List Int) => .fz ((eT eI) r))) := by
  have S := sc_p_stepped
  refine fn_n (N := nn_p_stepped) T.F_p_stepped S (fun _ => rfl) (fun cdv A outer s H E hr => ?_)
  refine ⟨_, (pss_one (ps_ret (pe_op (op_catK (K := K) rfl) (pe_op (op_catK (K := K) rfl) (pe_slice (sl_tupK (K := K) rfl) (pv 0) po_none (po_some (pv 1))) (pe_tup (pa_cons (pe_op op_add (pe_ix (ix_tupK (K := K) rfl) (pv 0) (pv 1) (fun _ _ => rfl)) (pv 2)) pa_nil))) (pe_slice (sl_tupK (K := K) rfl) (pv 0) (po_some (pe_op op_add (pv 1) pe_int)) po_none)))), ?_⟩
  rintro ⟨place, at', by', _⟩
  show SimB _ _ _ _ _ _ [.sl (fz K ((eT eI) place)), .sl (fz K (eI at')), .sl (fz K (eI by'))] (p_stepped place at' by')
  unfold p_stepped
  exact (sb_retF (EvG.is (w' := (bnd (bnd (bnd (bnd (opt (atI place at')) fun x1 => ret (x1 + by')) fun x2 => ret [x2]) fun x3 => grd ((cutA place none (some at')).length + x3.length ≤ 16777216) (ret ((cutA place none (some at')) ++ x3))) fun x4 => grd (x4.length + (cutA place (some (at' + (1 : Int))) none).length ≤ 16777216) (ret (x4 ++ (cutA place (some (at' + (1 : Int))) none))))) (ev_opF (ev_opF (ev_slT (ev_f (e := (eT eI)) place rfl) eo_none (eo_some (ev_f (e := eI) at' rfl))) (ev_tupS (fun x => [x.1]) (eT eI) (es_f (ev_opF (ev_opF (ev_f (e := (eT eI)) place rfl) (ev_f (e := eI) at' rfl) (fun _ _ => o_ixT _ _)) (ev_f (e := eI) by' rfl) (fun _ _ => o_add _ _)) es_nil) (fun _ => (AllF.cons AllF.nil)) (fun _ => rfl) (fun _ => rfl)) (fun _ _ => o_catT _ _)) (ev_slT (ev_f (e := (eT eI)) place rfl) (eo_some (ev_opF (ev_f (e := eI) at' rfl) ev_int (fun _ _ => o_add _ _))) eo_none) (fun _ _ => o_catT _ _)) (by simp only [ret_bnd, bnd_bnd, mapW_bnd, mapW_ret] <;> rfl)) (fun _ => rfl))
end
end Cf
namespace Cf
open PySem PySem.Spec PyProof.Rows L2 WL GxR
section
variable {P : Program} {w : World} {K : PySem.W.Frag} [Tbs K] {mg : Str → Option Value} {base : Heap}
set_option maxHeartbeats 4000000
theorem ok_p_mesh_links (T : Tx K mg base) : FnOk P w K mg base (L2.CX P w) 3 T.f_p_mesh_links T.d_p_mesh_links ["sizes", "wraps"] (spX K (ctOf [T.xa_NotAllowed]) (fun x : (List Int) × Bool × Unit => [.d ((eT eI) x.1), .d (eB x.2.1)]) (fun x => p_mesh_links x.1 x.2.1) (fun r : (List (Int × Int)) => .nw (ls K (List.map (e2 eI eI) r)))) := by
  have S := sc_p_mesh_links
  refine fn_x (N := nn_p_mesh_links) T.F_p_mesh_links S (fun _ => rfl) (fun cdv A outer s H E hr => ?_)
  refine ⟨_, (pss_cons (ps_set (i := 2) S.nd rfl (by first | exact .inl rfl | exact .inr rfl) (pe_lst pa_nil))
      (pss_cons (ps_for (passes_of rfl) rfl (pi_range1 (by rfl) T.z_range (pa_cons (pe_callS (ok_p_nodes_of T) (hr.mono (by decide)) (by rfl) T.g_p_nodes_of T.F_p_nodes_of.kp T.b_p_nodes_of (fun σ => passAt (takes_of rfl rfl rfl rfl) σ) (pa_cons (pv 0) pa_nil)) pa_nil)) (pg_name (i := 3) S.nd rfl (by first | exact .inl rfl | exact .inr rfl)) (pss_cons (ps_set (i := 4) S.nd rfl (by first | exact .inl rfl | exact .inr rfl) (pe_call (ok_p_place_of T) (hr.mono (by decide)) (by rfl) T.g_p_place_of T.F_p_place_of.kp T.b_p_place_of .nil pass0 (pa_cons (pv 0) (pa_cons (pv 3) pa_nil))))
      (pss_one (ps_for (passes_of rfl) rfl (pi_enumT (K := K) rfl (by rfl) T.z_enumerate (pa_cons (pv 0) pa_nil)) (pg_tupK (n := 2) (K := K) rfl rfl (pgs_cons (pg_name (i := 5) S.nd rfl (by first | exact .inl rfl | exact .inr rfl)) (pgs_cons (pg_name (i := 6) S.nd rfl (by first | exact .inl rfl | exact .inr rfl)) pgs_nil))) (pss_cons (ps_if (pt_cmpR op_lt (pe_op op_add (pe_ix (ix_tupK (K := K) rfl) (pv 4) (pv 5) (fun _ _ => rfl)) pe_int) (pv 6) (nomark _)) (pss_one (ps_expr (pe_bm PySem.F.plainAttrs_list PySem.F.slot_list_append PySem.F.type_list_append mt_append (pv 2) (pa_cons (pe_tup (pa_cons (pv 3) (pa_cons (pe_call (ok_p_node_at T) (hr.mono (by decide)) (by rfl) T.g_p_node_at T.F_p_node_at.kp T.b_p_node_at .nil pass0 (pa_cons (pv 0) (pa_cons (pe_call (ok_p_stepped T) (hr.mono (by decide)) (by rfl) T.g_p_stepped T.F_p_stepped.kp T.b_p_stepped .nil pass0 (pa_cons (pv 4) (pa_cons (pv 5) (pa_cons pe_int pa_nil)))) pa_nil))) pa_nil))) pa_nil)))) pss_nil)
      (pss_one (ps_if (PW.pt (pw_and (pt_val (pv 1)) (pw_and (pt_cmpR op_gt (pv 6) pe_int (nomark _)) (pw_and1 (pt_cmpR op_eq (pe_ix (ix_tupK (K := K) rfl) (pv 4) (pv 5) (fun _ _ => rfl)) pe_int (nomark _)))))) (pss_one (ps_expr (pe_bm PySem.F.plainAttrs_list PySem.F.slot_list_append PySem.F.type_list_append mt_append (pv 2) (pa_cons (pe_tup (pa_cons (pv 3) (pa_cons (pe_call (ok_p_node_at T) (hr.mono (by decide)) (by rfl) T.g_p_node_at T.F_p_node_at.kp T.b_p_node_at .nil pass0 (pa_cons (pv 0) (pa_cons (pe_call (ok_p_stepped T) (hr.mono (by decide)) (by rfl) T.g_p_stepped T.F_p_stepped.kp T.b_p_stepped .nil pass0 (pa_cons (pv 4) (pa_cons (pv 5) (pa_cons (pe_op op_sub (pv 6) pe_int) pa_nil)))) pa_nil))) pa_nil))) pa_nil)))) pss_nil)))))))
      (pss_one (ps_ret (pv 2))))), ?_⟩
  rintro ⟨sizes, wraps, _⟩
  show SimB _ _ _ _ _ _ [.sl (fz K ((eT eI) sizes)), .sl (fz K (eB wraps)), .un, .un, .un, .un, .un] (p_mesh_links sizes wraps)
  unfold p_mesh_links
  exact (sb_seq (sb_setN (S := fun r => ls K (List.map (e2 eI eI) r)) (EvG.is (w' := (ret ([] : List (Int × Int)))) (ev_lstS (fun _ => ([] : List (Int × Int))) (e2 eI eI) es_nil (fun _ => AllF.nil) (fun _ => rfl) (fun _ => rfl)) rfl) (ltb rfl) (fun links_1 => (la_in (sb_seq (sb_for (S := ((List (Int × Int)))) (e := eI) (Γh := fun s4 => [.sl (fz K ((eT eI) sizes)), .sl (fz K (eB wraps)), .sl (ls K (List.map (e2 eI eI) s4)), .un, .un, .un, .un]) links_1 (ItG.is (w' := (bnd (p_nodes_of sizes) fun x2 => grd (Rng x2) (ret (span 0 (x2).toNat)))) (it_range1 (ev_callXS eI (es_f (ev_f (e := (eT eI)) sizes rfl) es_nil) (fun _ => rfl))) rfl) (fun _ h => nomatch h) (wk_mask [true, true, true, true, true, true, true] _) (fun x3 s4 => (tg_name (ltb rfl))) (fun x3 s4 kc5 => (sb_seq (sb_set (e := (eT eI)) (EvG.is (w' := (noX (p_place_of sizes x3))) (ev_callS (eT eI) (es_f (ev_f (e := (eT eI)) sizes rfl) (es_f (ev_f (e := eI) x3 rfl) es_nil)) (fun _ => rfl)) rfl) (ltb rfl) (fun place_7 => (la_in (sb_for (S := ((List (Int × Int)))) (e := (e2 eI eI)) (Γh := fun s9 => [.sl (fz K ((eT eI) sizes)), .sl (fz K (eB wraps)), .sl (ls K (List.map (e2 eI eI) s9)), .sl (fz K (eI x3)), .sl (fz K ((eT eI) place_7)), .un, .un]) s4 (ItG.is (w' := (ret (enumI sizes))) (it_enumT (ev_f (e := (eT eI)) sizes rfl)) rfl) (fun _ h => nomatch h) (wk_mask [true, true, true, true, true, true, true] _) (fun x8 s9 => (tg_tup (ds := [eI (x8.1), eI (x8.2)]) (ts_cons (tg_name (ltb rfl)) (ts_cons (tg_name (ltb rfl)) ts_nil)) rfl rfl)) (fun x8 s9 kc10 => (sb_join (S := ((List (Int × Int)))) (Γf := fun s15 => [.sl (fz K ((eT eI) sizes)), .sl (fz K (eB wraps)), .sl (ls K (List.map (e2 eI eI) s15)), .sl (fz K (eI x3)), .sl (fz K ((eT eI) place_7)), .sl (fz K (eI (x8.1))), .sl (fz K (eI (x8.2)))]) (k := fun s15 => _) (sb_if (EvT.is (w' := (bnd (bnd (opt (atI place_7 (x8.1))) fun x12 => ret (x12 + (1 : Int))) fun x13 => ret (decide (x13 < (x8.2))))) (et_test (ev_opF (ev_opF (ev_opF (ev_f (e := (eT eI)) place_7 rfl) (ev_f (e := eI) (x8.1) rfl) (fun _ _ => o_ixT _ _)) ev_int (fun _ _ => o_add _ _)) (ev_f (e := eI) (x8.2) rfl) (fun _ _ => o_lt _ _))) rfl) (sb_appendK (e := (e2 eI eI)) (xs := s9) rfl (EvG.is (w' := (bnd (bnd (noX (p_stepped place_7 (x8.1) (1 : Int))) fun x18 => noX (p_node_at sizes x18)) fun x19 => ret (x3, x19))) (ev_tupS (fun x => (x.1, x.2.1)) (e2 eI eI) (es_f (ev_f (e := eI) x3 rfl) (es_f (ev_callS eI (es_f (ev_f (e := (eT eI)) sizes rfl) (es_f (ev_callS (eT eI) (es_f (ev_f (e := (eT eI)) place_7 rfl) (es_f (ev_f (e := eI) (x8.1) rfl) (es_f ev_int es_nil))) (fun _ => rfl)) es_nil)) (fun _ => rfl)) es_nil)) (fun _ => (AllF.cons (AllF.cons AllF.nil))) (fun _ => rfl) (fun _ => rfl)) (by first | rfl | (simp only [ret_bnd, bnd_bnd, mapW_bnd, mapW_ret] <;> rfl))) (fun s17 => (Lands.wk (la_at s17) (wk_mask [true, true, true, true, true, true, true] _)))) (sb_next (Lands.wk (la_at s9) (wk_mask [true, true, true, true, true, true, true] _)))) (fun s15 => (sb_if (EvT.is (w' := (sel wraps (sel (decide ((2 : Int) < (x8.2))) (bnd (opt (atI place_7 (x8.1))) fun x20 => ret (decide (x20 = (0 : Int)))) (ret false)) (ret false))) (et_and (et_B (ev_f (e := eB) wraps rfl)) (et_and (et_test (ev_opF (ev_f (e := eI) (x8.2) rfl) ev_int (fun _ _ => o_gt _ _))) (et_test (ev_opF (ev_opF (ev_f (e := (eT eI)) place_7 rfl) (ev_f (e := eI) (x8.1) rfl) (fun _ _ => o_ixT _ _)) ev_int (fun _ _ => o_eqI _ _))))) rfl) (sb_appendK (e := (e2 eI eI)) (xs := s15) rfl (EvG.is (w' := (bnd (bnd (noX (p_stepped place_7 (x8.1) ((x8.2) - (1 : Int)))) fun x23 => noX (p_node_at sizes x23)) fun x24 => ret (x3, x24))) (ev_tupS (fun x => (x.1, x.2.1)) (e2 eI eI) (es_f (ev_f (e := eI) x3 rfl) (es_f (ev_callS eI (es_f (ev_f (e := (eT eI)) sizes rfl) (es_f (ev_callS (eT eI) (es_f (ev_f (e := (eT eI)) place_7 rfl) (es_f (ev_f (e := eI) (x8.1) rfl) (es_f (ev_opF (ev_f (e := eI) (x8.2) rfl) ev_int (fun _ _ => o_sub _ _)) es_nil))) (fun _ => rfl)) es_nil)) (fun _ => rfl)) es_nil)) (fun _ => (AllF.cons (AllF.cons AllF.nil))) (fun _ => rfl) (fun _ => rfl)) (by first | rfl | (simp only [ret_bnd, bnd_bnd, mapW_bnd, mapW_ret] <;> rfl))) (fun s22 => (Lands.wk (la_at s22) (wk_mask [true, true, true, true, true, false, false] _)))) (sb_next (Lands.wk (la_at s15) (wk_mask [true, true, true, true, true, false, false] _))))))) (fun s9 => (Lands.wk (la_at s9) (wk_mask [true, true, true, false, false, true, true] _))))))))) (fun s4 => (la_in (sb_retV (S := ls K (List.map (e2 eI eI) s4)) (g := s4) rfl rfl rfl)))))))))
end
end Cf
namespace Cf
open PySem PySem.Spec PyProof.Rows L2 WL GxR
section
variable {P : Program} {w : World} {K : PySem.W.Frag} [Tbs K] {mg : Str → Option Value} {base : Heap}
set_option maxHeartbeats 4000000
theorem ok_p_mesh (T : Tx K mg base) : FnOk P w K mg base (L2.CX P w) 4 T.f_p_mesh T.d_p_mesh ["sizes"] (spX K (ctOf [T.xa_NotAllowed]) (fun x : (List Int) × Unit => [.d ((eT eI) x.1)]) (fun x => p_mesh x.1) (fun r : (Int × (List (Int × Int))) => .fz ((e2 eI (eT (e2 eI eI))) r))) := by
  have S := sc_p_mesh
  refine fn_x (N := nn_p_mesh) T.F_p_mesh S (fun _ => rfl) (fun cdv A outer s H E hr => ?_)
  refine ⟨_, (pss_one (ps_ret (pe_callS (ok_p_made T) (hr.mono (by decide)) (by rfl) T.g_p_made T.F_p_made.kp T.b_p_made (fun σ => passAt (takes_of rfl rfl rfl rfl) σ) (pa_cons (pe_callS (ok_p_nodes_of T) (hr.mono (by decide)) (by rfl) T.g_p_nodes_of T.F_p_nodes_of.kp T.b_p_nodes_of (fun σ => passAt (takes_of rfl rfl rfl rfl) σ) (pa_cons (pv 0) pa_nil)) (pa_cons (pe_callS (ok_p_mesh_links T) (hr.mono (by decide)) (by rfl) T.g_p_mesh_links T.F_p_mesh_links.kp T.b_p_mesh_links (fun σ => passAt (takes_of rfl rfl rfl rfl) σ) (pa_cons (pv 0) (pa_cons pe_bl pa_nil))) pa_nil))))), ?_⟩
  rintro ⟨sizes, _⟩
  show SimB _ _ _ _ _ _ [.sl (fz K ((eT eI) sizes))] (p_mesh sizes)
  unfold p_mesh
  exact (sb_retF (EvG.is (w' := (bnd (p_nodes_of sizes) fun x3 => bnd (p_mesh_links sizes false) fun x4 => p_made x3 x4)) (ev_callXS (e2 eI (eT (e2 eI eI))) (es_f (ev_callXS eI (es_f (ev_f (e := (eT eI)) sizes rfl) es_nil) (fun _ => rfl)) (es_l (EvG.rl (ev_callXNS (fun r => ls K (List.map (e2 eI eI) r)) (es_f (ev_f (e := (eT eI)) sizes rfl) (es_f ev_bl es_nil)) (fun _ => rfl))) es_nil)) (fun _ => rfl)) rfl) (fun _ => rfl))
end
end Cf
namespace Cf
open PySem PySem.Spec PyProof.Rows L2 WL GxR
section
variable {P : Program} {w : World} {K : PySem.W.Frag} [Tbs K] {mg : Str → Option Value} {base : Heap}
set_option maxHeartbeats 4000000
theorem ok_p_network_of (T : Tx K mg base) : FnOk P w K mg base (L2.CX P w) 2 T.f_p_network_of T.d_p_network_of ["frame", "lanes", "room"] (spX K (ctOf [T.xa_NotAllowed]) (fun x : (Int × (List (Int × Int))) × Int × Int × Unit => [.d ((e2 eI (eT (e2 eI eI))) x.1), .d (eI x.2.1), .d (eI x.2.2.1)]) (fun x => p_network_of x.1 x.2.1 x.2.2.1) (fun r : (Int × (List (Int × Int × Int))) => .fz ((e2 eI (eT (e3 eI eI eI))) r))) := by
  have S := sc_p_network_of
  refine fn_x (N := nn_p_network_of) T.F_p_network_of S (fun _ => rfl) (fun cdv A outer s H E hr => ?_)
  refine ⟨_, (pss_cons (ps_asg (pv 0) (pg_tupK (n := 2) (K := K) rfl rfl (pgs_cons (pg_name (i := 3) S.nd rfl (by first | exact .inl rfl | exact .inr rfl)) (pgs_cons (pg_name (i := 4) S.nd rfl (by first | exact .inl rfl | exact .inr rfl)) pgs_nil))))
      (pss_cons (ps_if (PW.pt (pw_or (pt_not (pt_val (pe_call (ok_p_is_numberI T) (hr.mono (by decide)) (by rfl) T.g_p_is_numberI T.F_p_is_numberI.kp T.b_p_is_numberI .nil pass0 (pa_cons (pv 1) (pa_cons pe_int (pa_cons (pe_glob (by rfl) T.c_p_MAX_LANES (show RelV (.int 8) _ from ⟨_, rfl⟩)) pa_nil)))))) (pw_or1 (pt_not (pt_val (pe_call (ok_p_is_numberI T) (hr.mono (by decide)) (by rfl) T.g_p_is_numberI T.F_p_is_numberI.kp T.b_p_is_numberI .nil pass0 (pa_cons (pv 2) (pa_cons pe_int (pa_cons (pe_glob (by rfl) T.c_p_MAX_ROOM (show RelV (.int 1000) _ from ⟨_, rfl⟩)) pa_nil))))))))) (pss_one (ps_raiseC (K := K) rfl T.xc_NotAllowed rfl (takes_of rfl rfl rfl rfl) (by exact rfl))) pss_nil)
      (pss_cons (ps_if (pt_cmpR op_gt (pe_op op_mul (pe_op op_mul pe_int (pv 1)) (pe_callB (call_lenK (K := K) rfl) (by rfl) T.z_len (by decide +kernel) (pa_cons (pv 4) pa_nil))) (pe_glob (by rfl) T.c_p_MAX_CHANNELS (show RelV (.int 400) _ from ⟨_, rfl⟩)) (nomark _)) (pss_one (ps_raiseC (K := K) rfl T.xc_NotAllowed rfl (takes_of rfl rfl rfl rfl) (by exact rfl))) pss_nil)
      (pss_cons (ps_set (i := 5) S.nd rfl (by first | exact .inl rfl | exact .inr rfl) (pe_lst pa_nil))
      (pss_cons (ps_for (passes_of rfl) rfl (pi_tupK (K := K) rfl (pv 4)) (pg_tupK (n := 2) (K := K) rfl rfl (pgs_cons (pg_name (i := 6) S.nd rfl (by first | exact .inl rfl | exact .inr rfl)) (pgs_cons (pg_name (i := 7) S.nd rfl (by first | exact .inl rfl | exact .inr rfl)) pgs_nil))) (pss_one (ps_expr (pe_bm PySem.F.plainAttrs_list PySem.F.slot_list_extend PySem.F.type_list_extend mt_extend (pv 5) (pa_cons (pe_op op_cat (pe_op op_rep (pe_lst (pa_cons (pe_tup (pa_cons (pv 6) (pa_cons (pv 7) (pa_cons (pv 2) pa_nil)))) pa_nil)) (pv 1)) (pe_op op_rep (pe_lst (pa_cons (pe_tup (pa_cons (pv 7) (pa_cons (pv 6) (pa_cons (pv 2) pa_nil)))) pa_nil)) (pv 1))) pa_nil)))))
      (pss_one (ps_ret (pe_tup (pa_cons (pv 3) (pa_cons (pe_callTy (call_tupK (K := K) rfl) (by rfl) T.z_tuple (by decide +kernel) (pa_cons (pv 5) pa_nil)) pa_nil)))))))))), ?_⟩
  rintro ⟨frame, lanes, room, _⟩
  show SimB _ _ _ _ _ _ [.sl (fz K ((e2 eI (eT (e2 eI eI))) frame)), .sl (fz K (eI lanes)), .sl (fz K (eI room)), .un, .un, .un, .un, .un] (p_network_of frame lanes room)
  unfold p_network_of
  exact (sb_seq (sb_asg (e := (e2 eI (eT (e2 eI eI)))) (EvG.is (w' := (ret frame)) (ev_f (e := (e2 eI (eT (e2 eI eI)))) frame rfl) rfl) (fun u1 => (tg_tup (ds := [eI (u1.1), (eT (e2 eI eI)) (u1.2)]) (ts_cons (tg_name (ltb rfl)) (ts_cons (tg_name (ltb rfl)) ts_nil)) rfl rfl)) (fun u1 => (la_in (sb_seq (sb_if (EvT.is (w' := (bnd (bnd (noX (p_is_numberI lanes (1 : Int) (8 : Int))) fun x2 => ret (!x2)) fun x4 => sel x4 (ret true) (bnd (noX (p_is_numberI room (1 : Int) (1000 : Int))) fun x3 => ret (!x3)))) (et_or (et_not (et_B (ev_callS eB (es_f (ev_f (e := eI) lanes rfl) (es_f ev_int (es_f ev_int es_nil))) (fun _ => rfl)))) (et_not (et_B (ev_callS eB (es_f (ev_f (e := eI) room rfl) (es_f ev_int (es_f ev_int es_nil))) (fun _ => rfl))))) (by simp only [ret_bnd, bnd_bnd, mapW_bnd, mapW_ret] <;> rfl)) (sb_raise 0 rfl) (sb_next (la_in (sb_seq (sb_if (EvT.is (w' := (bnd (grd (CMul ((2 : Int) * lanes) ((u1.2).length : Int)) (ret (((2 : Int) * lanes) * ((u1.2).length : Int)))) fun x6 => ret (decide ((400 : Int) < x6)))) (et_test (ev_opF (ev_opF (ev_mulL (by decide) (ev_f (e := eI) lanes rfl)) (ev_b1F (ev_f (e := (eT (e2 eI eI))) (u1.2) rfl) (fun _ => c_lenT _)) (fun _ _ => o_mul _ _)) ev_int (fun _ _ => o_gt _ _))) rfl) (sb_raise 0 rfl) (sb_next (la_in (sb_seq (sb_setN (S := fun r => ls K (List.map (e3 eI eI eI) r)) (EvG.is (w' := (ret ([] : List (Int × Int × Int)))) (ev_lstS (fun _ => ([] : List (Int × Int × Int))) (e3 eI eI eI) es_nil (fun _ => AllF.nil) (fun _ => rfl) (fun _ => rfl)) rfl) (ltb rfl) (fun channels_8 => (la_in (sb_seq (sb_for (S := ((List (Int × Int × Int)))) (e := (e2 eI eI)) (Γh := fun s10 => [.sl (fz K ((e2 eI (eT (e2 eI eI))) frame)), .sl (fz K (eI lanes)), .sl (fz K (eI room)), .sl (fz K (eI (u1.1))), .sl (fz K ((eT (e2 eI eI)) (u1.2))), .sl (ls K (List.map (e3 eI eI eI) s10)), .un, .un]) channels_8 (ItG.is (w' := (ret (u1.2))) (it_tup (ev_f (e := (eT (e2 eI eI))) (u1.2) rfl)) rfl) (fun _ h => nomatch h) (wk_mask [true, true, true, true, true, true, true, true] _) (fun x9 s10 => (tg_tup (ds := [eI (x9.1), eI (x9.2)]) (ts_cons (tg_name (ltb rfl)) (ts_cons (tg_name (ltb rfl)) ts_nil)) rfl rfl)) (fun x9 s10 kc11 => (sb_extendK (e := (e3 eI eI eI)) (xs := s10) rfl (EvG.is (w' := (bnd (grd (-(2 ^ 63) ≤ lanes ∧ lanes < 2 ^ 63 ∧ [((x9.1), (x9.2), room)].length * (lanes).toNat ≤ 16777216) (ret (repL [((x9.1), (x9.2), room)] lanes))) fun x14 => bnd (grd (-(2 ^ 63) ≤ lanes ∧ lanes < 2 ^ 63 ∧ [((x9.2), (x9.1), room)].length * (lanes).toNat ≤ 16777216) (ret (repL [((x9.2), (x9.1), room)] lanes))) fun x15 => grd (x14.length + x15.length ≤ 16777216) (ret (x14 ++ x15)))) (ev_opNN (ev_opNF (ev_lstS (fun x => [x.1]) (e3 eI eI eI) (es_f (ev_tupS (fun x => (x.1, x.2.1, x.2.2.1)) (e3 eI eI eI) (es_f (ev_f (e := eI) (x9.1) rfl) (es_f (ev_f (e := eI) (x9.2) rfl) (es_f (ev_f (e := eI) room rfl) es_nil))) (fun _ => (AllF.cons (AllF.cons (AllF.cons AllF.nil)))) (fun _ => rfl) (fun _ => rfl)) es_nil) (fun _ => (AllF.cons AllF.nil)) (fun _ => rfl) (fun _ => rfl)) (ev_f (e := eI) lanes rfl) (fun _ _ => o_rep _ _)) (ev_opNF (ev_lstS (fun x => [x.1]) (e3 eI eI eI) (es_f (ev_tupS (fun x => (x.1, x.2.1, x.2.2.1)) (e3 eI eI eI) (es_f (ev_f (e := eI) (x9.2) rfl) (es_f (ev_f (e := eI) (x9.1) rfl) (es_f (ev_f (e := eI) room rfl) es_nil))) (fun _ => (AllF.cons (AllF.cons (AllF.cons AllF.nil)))) (fun _ => rfl) (fun _ => rfl)) es_nil) (fun _ => (AllF.cons AllF.nil)) (fun _ => rfl) (fun _ => rfl)) (ev_f (e := eI) lanes rfl) (fun _ _ => o_rep _ _)) (fun _ _ => o_cat _ _)) rfl) (fun s13 => (Lands.wk (la_at s13) (wk_mask [true, true, true, true, true, true, false, false] _))))) (fun s10 => (la_in (sb_retF (EvG.is (w' := (ret ((u1.1), s10))) (ev_tupS (fun x => (x.1, x.2.1)) (e2 eI (eT (e3 eI eI eI))) (es_f (ev_f (e := eI) (u1.1) rfl) (es_f (ev_b1L (ev_l (e := (e3 eI eI eI)) s10 rfl) (fun _ => c_tupL _)) es_nil)) (fun _ => (AllF.cons (AllF.cons AllF.nil))) (fun _ => rfl) (fun _ => rfl)) rfl) (fun _ => rfl))))))))))))))))))))))
end
end Cf
namespace Cf
open PySem PySem.Spec PyProof.Rows L2 WL GxR
section
variable {P : Program} {w : World} {K : PySem.W.Frag} [Tbs K] {mg : Str → Option Value} {base : Heap}
set_option maxHeartbeats 4000000
theorem ok_p_torus (T : Tx K mg base) : FnOk P w K mg base (L2.CX P w) 4 T.f_p_torus T.d_p_torus ["sizes"] (spX K (ctOf [T.xa_NotAllowed]) (fun x : (List Int) × Unit => [.d ((eT eI) x.1)]) (fun x => p_torus x.1) (fun r : (Int × (List (Int × Int))) => .fz ((e2 eI (eT (e2 eI eI))) r))) := by
  have S := sc_p_torus
  refine fn_x (N := nn_p_torus) T.F_p_torus S (fun _ => rfl) (fun cdv A outer s H E hr => ?_)
  refine ⟨_, (pss_one (ps_ret (pe_callS (ok_p_made T) (hr.mono (by decide)) (by rfl) T.g_p_made T.F_p_made.kp T.b_p_made (fun σ => passAt (takes_of rfl rfl rfl rfl) σ) (pa_cons (pe_callS (ok_p_nodes_of T) (hr.mono (by decide)) (by rfl) T.g_p_nodes_of T.F_p_nodes_of.kp T.b_p_nodes_of (fun σ => passAt (takes_of rfl rfl rfl rfl) σ) (pa_cons (pv 0) pa_nil)) (pa_cons (pe_callS (ok_p_mesh_links T) (hr.mono (by decide)) (by rfl) T.g_p_mesh_links T.F_p_mesh_links.kp T.b_p_mesh_links (fun σ => passAt (takes_of rfl rfl rfl rfl) σ) (pa_cons (pv 0) (pa_cons pe_bl pa_nil))) pa_nil))))), ?_⟩
  rintro ⟨sizes, _⟩
  show SimB _ _ _ _ _ _ [.sl (fz K ((eT eI) sizes))] (p_torus sizes)
  unfold p_torus
  exact (sb_retF (EvG.is (w' := (bnd (p_nodes_of sizes) fun x3 => bnd (p_mesh_links sizes true) fun x4 => p_made x3 x4)) (ev_callXS (e2 eI (eT (e2 eI eI))) (es_f (ev_callXS eI (es_f (ev_f (e := (eT eI)) sizes rfl) es_nil) (fun _ => rfl)) (es_l (EvG.rl (ev_callXNS (fun r => ls K (List.map (e2 eI eI) r)) (es_f (ev_f (e := (eT eI)) sizes rfl) (es_f ev_bl es_nil)) (fun _ => rfl))) es_nil)) (fun _ => rfl)) rfl) (fun _ => rfl))
end
end Cf
namespace Cf
open PySem PySem.Spec PyProof.Rows L2 WL GxR
section
variable {P : Program} {w : World} {K : PySem.W.Frag} [Tbs K] {mg : Str → Option Value} {base : Heap}
set_option maxHeartbeats 4000000
theorem ok_p_Grid_init (T : Tx K mg base) : FnOk P w K mg base CX0 5 T.f_p_Grid_init T.d_p_Grid_init ["self", "sizes", "lanes", "wraps"] (spI K T.o_Grid (fun x : (List Int) × Int × Bool × Unit => [Ag.d ((eT eI) x.1), Ag.d (eI x.2.1), Ag.d (eB x.2.2.1)]) (fun x => p_Grid_init x.1 x.2.1 x.2.2.1) (fun (r : ((List Int) × Int × (Int × (List (Int × Int × Int))) × (List (List Int)))) _ => [("sizes", fz K ((eT eI) r.1)), ("lanes", fz K (eI r.2.1)), ("network", fz K ((e2 eI (eT (e3 eI eI eI))) r.2.2.1)), ("places", ls K (List.map (eT eI) r.2.2.2))])) := by
  have S := sc_p_Grid_init
  refine fn_init (N := nn_p_Grid_init) T.F_p_Grid_init S (fun _ => rfl) (fun cdv A outer s H E hr => ?_)
  refine ⟨_, (pss_cons (ps_fldK (K := K) rfl (pv 0) (pv 1) rfl)
      (pss_cons (ps_fldK (K := K) rfl (pv 0) (pv 2) rfl)
      (pss_cons (ps_fldK (K := K) rfl (pv 0) (pe_callS (ok_p_network_of T) (hr.mono (by decide)) (by rfl) T.g_p_network_of T.F_p_network_of.kp T.b_p_network_of (fun σ => passAt takes0 σ) (pa_cons (pe_ifExp (pt_val (pv 3)) (pe_callS (ok_p_torus T) (hr.mono (by decide)) (by rfl) T.g_p_torus T.F_p_torus.kp T.b_p_torus (fun σ => passAt takes0 σ) (pa_cons (pv 1) pa_nil)) (pe_callS (ok_p_mesh T) (hr.mono (by decide)) (by rfl) T.g_p_mesh T.F_p_mesh.kp T.b_p_mesh (fun σ => passAt takes0 σ) (pa_cons (pv 1) pa_nil))) (pa_cons (pv 2) (pa_cons pe_int pa_nil)))) rfl)
      (pss_one (ps_fldK (K := K) rfl (pv 0) (pe_lc (own := [("node", 4)]) rfl S.nd (pi_range1 (by rfl) T.z_range (pa_cons (pe_ix (ix_tupK (K := K) rfl) (pe_fldK (K := K) rfl (pv 0) (by rfl)) pe_int (fun _ _ => rfl)) pa_nil)) (blkOk_by (N := nn_p_Grid_init) (sc := (defScope s_p_Grid_init)) (own := [("node", 4)]) (by decide +kernel)) (fun _ _ _ _ _ => (pg_name (i := 4) S.nd rfl (by first | exact .inl rfl | exact .inr rfl))) (fun _ _ _ _ _ => pts_nil) (fun _ _ _ _ _ => (pe_call (ok_p_place_of T) (hr.mono (by decide)) (by rfl) T.g_p_place_of T.F_p_place_of.kp T.b_p_place_of .nil pass0 (pa_cons (pv 1) (pa_cons (pv 4) pa_nil))))) rfl))))), ?_⟩
  rintro ⟨sizes, lanes, wraps, _⟩ a
  show SimB _ _ _ _ _ _ [.sl (insA T.o_Grid a []), .sl (fz K ((eT eI) sizes)), .sl (fz K (eI lanes)), .sl (fz K (eB wraps)), .un] (p_Grid_init sizes lanes wraps)
  unfold p_Grid_init
  exact (sb_seq (sb_fld (i := 0) (a := a) (fs := []) (S := fun r => fz K ((eT eI) r)) rfl T.cl_Grid T.na_Grid_sizes (fun _ => nm_by [] rfl (by decide +kernel)) (show 0 < 1000 by decide) (EvG.fN (EvG.is (w' := (ret sizes)) (ev_f (e := (eT eI)) sizes rfl) rfl)) (fun sizes_1 => (la_in (sb_seq (sb_fld (i := 0) (a := a) (fs := [("sizes", fz K ((eT eI) sizes_1))]) (S := fun r => fz K (eI r)) rfl T.cl_Grid T.na_Grid_lanes (fun _ => nm_by ["sizes"] rfl (by decide +kernel)) (show 1 < 1000 by decide) (EvG.fN (EvG.is (w' := (ret lanes)) (ev_f (e := eI) lanes rfl) rfl)) (fun lanes_2 => (la_in (sb_seq (sb_fld (i := 0) (a := a) (fs := [("sizes", fz K ((eT eI) sizes_1)), ("lanes", fz K (eI lanes_2))]) (S := fun r => fz K ((e2 eI (eT (e3 eI eI eI))) r)) rfl T.cl_Grid T.na_Grid_network (fun _ => nm_by ["sizes", "lanes"] rfl (by decide +kernel)) (show 2 < 1000 by decide) (EvG.fN (EvG.is (w' := (bnd (sel wraps (noX (p_torus sizes)) (noX (p_mesh sizes))) fun x3 => noX (p_network_of x3 lanes (1 : Int)))) (ev_callX0S (e2 eI (eT (e3 eI eI eI))) (es_f (ev_ifF (et_B (ev_f (e := eB) wraps rfl)) (ev_callX0S (e2 eI (eT (e2 eI eI))) (es_f (ev_f (e := (eT eI)) sizes rfl) es_nil) (fun _ => rfl)) (ev_callX0S (e2 eI (eT (e2 eI eI))) (es_f (ev_f (e := (eT eI)) sizes rfl) es_nil) (fun _ => rfl))) (es_f (ev_f (e := eI) lanes rfl) (es_f ev_int es_nil))) (fun _ => rfl)) rfl)) (fun network_4 => (la_in (sb_fld (i := 0) (a := a) (fs := [("sizes", fz K ((eT eI) sizes_1)), ("lanes", fz K (eI lanes_2)), ("network", fz K ((e2 eI (eT (e3 eI eI eI))) network_4))]) (S := fun r => ls K (List.map (eT eI) r)) rfl T.cl_Grid T.na_Grid_places (fun _ => nm_by ["sizes", "lanes", "network"] rfl (by decide +kernel)) (show 3 < 1000 by decide) (ev_lc (e := eI) (c := fun c5 => (ret true)) (f := fun c5 => (noX (p_place_of sizes c5))) (ItG.is (w' := (grd (Rng network_4.1) (ret (span 0 (network_4.1).toNat)))) (it_range1 (ev_ixW (e' := eI) (fun a => a.1) 0 (EvG.as (fun _ => network_4) (R' := fun r => RF _ ((e2 eI (eT (e3 eI eI eI))) r)) (EvG.bF (ev_fld (S := fun _ => fz K ((e2 eI (eT (e3 eI eI eI))) network_4)) (ev_self (i := 0) (a := a) (fs := [("sizes", fz K ((eT eI) sizes_1)), ("lanes", fz K (eI lanes_2)), ("network", fz K ((e2 eI (eT (e3 eI eI eI))) network_4))]) (x := ()) (S := fun _ => insS T.o_Grid [("sizes", fz K ((eT eI) sizes_1)), ("lanes", fz K (eI lanes_2)), ("network", fz K ((e2 eI (eT (e3 eI eI eI))) network_4))]) rfl rfl) T.cl_Grid T.na_Grid_network (fun _ => (List.Mem.tail _ (List.Mem.tail _ (List.Mem.head _)))))) (fun _ => rfl)) rfl (fun _ => ⟨_, rfl, rfl⟩))) rfl) (fun c5 => (tg_name (ltb rfl))) (fun c5 => (EvT.is (w' := (ret true)) et_yes rfl)) (fun c5 => (EvG.is (w' := (noX (p_place_of sizes c5))) (ev_callS (eT eI) (es_f (ev_f (e := (eT eI)) sizes rfl) (es_f (ev_f (e := eI) c5 rfl) es_nil)) (fun _ => rfl)) rfl))) (fun places_7 => (la_init (i := 0) (fs := fun r : ((List Int) × Int × (Int × (List (Int × Int × Int))) × (List (List Int))) => [("sizes", fz K ((eT eI) r.1)), ("lanes", fz K (eI r.2.1)), ("network", fz K ((e2 eI (eT (e3 eI eI eI))) r.2.2.1)), ("places", ls K (List.map (eT eI) r.2.2.2))]) (out := (sizes_1, lanes_2, network_4, places_7)) rfl)))))))))))))))
end
end Cf
namespace Cf
open PySem PySem.Spec PyProof.Rows L2 WL GxR
section
variable {P : Program} {w : World} {K : PySem.W.Frag} [Tbs K] {mg : Str → Option Value} {base : Heap}
set_option maxHeartbeats 4000000
theorem ok_p_first_other (T : Tx K mg base) : FnOk P w K mg base CX0 1 T.f_p_first_other T.d_p_first_other ["one", "other"] (spN K (fun x : (List Int) × (List Int) × Unit => [.d ((eT eI) x.1), .d ((eT eI) x.2.1)]) (fun x => p_first_other x.1 x.2.1) (fun r : Int => .fz (eI r))) := by
  have S := sc_p_first_other
  refine fn_n (N := nn_p_first_other) T.F_p_first_other S (fun _ => rfl) (fun cdv A outer s H E hr => ?_)
  refine ⟨_, (pss_one (ps_ret (pe_ix (ix_listK (K := K) rfl) (pe_lc (own := [("at", 2)]) rfl S.nd (pi_range1 (by rfl) T.z_range (pa_cons (pe_callB (call_lenK (K := K) rfl) (by rfl) T.z_len (by decide +kernel) (pa_cons (pv 0) pa_nil)) pa_nil)) (blkOk_by (N := nn_p_first_other) (sc := (defScope s_p_first_other)) (own := [("at", 2)]) (by decide +kernel)) (fun _ _ _ _ _ => (pg_name (i := 2) S.nd rfl (by first | exact .inl rfl | exact .inr rfl))) (fun _ _ _ _ _ => (pts_one (pt_cmpR op_ne (pe_ix (ix_tupK (K := K) rfl) (pv 0) (pv 2) (fun _ _ => rfl)) (pe_ix (ix_tupK (K := K) rfl) (pv 1) (pv 2) (fun _ _ => rfl)) (nomark _)))) (fun _ _ _ _ _ => (pv 2))) pe_int (fun _ _ => rfl)))), ?_⟩
  rintro ⟨one, other, _⟩
  show SimB _ _ _ _ _ _ [.sl (fz K ((eT eI) one)), .sl (fz K ((eT eI) other)), .un] (p_first_other one other)
  unfold p_first_other
  exact (sb_retF (EvG.is (w' := (bnd (bnd (grd (Rng (one.length : Int)) (ret (span 0 ((one.length : Int)).toNat))) fun l4 => lcG (fun c1 => (bnd (opt (atI one c1)) fun x2 => bnd (opt (atI other c1)) fun x3 => ret (!decide (x2 = x3)))) (fun c1 => (ret c1)) l4) fun x5 => opt (atI x5 (0 : Int)))) (ev_opLF (EvG.rl (ev_lc (e := eI) (c := fun c1 => (bnd (opt (atI one c1)) fun x2 => bnd (opt (atI other c1)) fun x3 => ret (!decide (x2 = x3)))) (f := fun c1 => (ret c1)) (ItG.is (w' := (grd (Rng (one.length : Int)) (ret (span 0 ((one.length : Int)).toNat)))) (it_range1 (ev_b1F (ev_f (e := (eT eI)) one rfl) (fun _ => c_lenT _))) rfl) (fun c1 => (tg_name (ltb rfl))) (fun c1 => (EvT.is (w' := (bnd (opt (atI one c1)) fun x2 => bnd (opt (atI other c1)) fun x3 => ret (!decide (x2 = x3)))) (et_test (ev_opF (ev_opF (ev_f (e := (eT eI)) one rfl) (ev_f (e := eI) c1 rfl) (fun _ _ => o_ixT _ _)) (ev_opF (ev_f (e := (eT eI)) other rfl) (ev_f (e := eI) c1 rfl) (fun _ _ => o_ixT _ _)) (fun _ _ => o_neI _ _))) rfl)) (fun c1 => (EvG.is (w' := (ret c1)) (ev_f (e := eI) c1 rfl) rfl)))) ev_int (fun _ _ => o_ixL _ _)) (by simp only [ret_bnd, bnd_bnd, mapW_bnd, mapW_ret] <;> rfl)) (fun _ => rfl))
end
end Cf
namespace Cf
open PySem PySem.Spec PyProof.Rows L2 WL GxR
section
variable {P : Program} {w : World} {K : PySem.W.Frag} [Tbs K] {mg : Str → Option Value} {base : Heap}
set_option maxHeartbeats 4000000
theorem ok_p_Grid_step (T : Tx K mg base) : FnOk P w K mg base CX0 2 T.f_p_Grid_step T.d_p_Grid_step ["self", "c"] (spN K (fun x : ((List Int) × Int × (Int × (List (Int × Int × Int))) × (List (List Int))) × Int × Unit => [.b (sl_Grid T (x.1)), .d (eI x.2.1)]) (fun x => p_Grid_step x.1 x.2.1) (fun r : (Int × Int) => .fz ((e2 eI eI) r))) := by
  have S := sc_p_Grid_step
  refine fn_n (N := nn_p_Grid_step) T.F_p_Grid_step S (fun _ => rfl) (fun cdv A outer s H E hr => ?_)
  refine ⟨_, (pss_cons (ps_asg (pe_ix (ix_tupK (K := K) rfl) (pe_ix (ix_tupK (K := K) rfl) (pe_fldK (K := K) rfl (pv 0) (by rfl)) pe_int (fun _ _ => rfl)) (pv 1) (fun _ _ => rfl)) (pg_tupK (n := 3) (K := K) rfl rfl (pgs_cons (pg_name (i := 2) S.nd rfl (by first | exact .inl rfl | exact .inr rfl)) (pgs_cons (pg_name (i := 3) S.nd rfl (by first | exact .inl rfl | exact .inr rfl)) (pgs_cons (pg_name (i := 4) S.nd rfl (by first | exact .inl rfl | exact .inr rfl)) pgs_nil)))))
      (pss_cons (ps_par (i := 5) (j := 6) rfl S.nd rfl rfl (by decide) rfl rfl (pa_cons (pe_ix (ix_listK (K := K) rfl) (pe_fldK (K := K) rfl (pv 0) (by rfl)) (pv 2) (fun _ _ => rfl)) (pa_cons (pe_ix (ix_listK (K := K) rfl) (pe_fldK (K := K) rfl (pv 0) (by rfl)) (pv 3) (fun _ _ => rfl)) pa_nil)) (by rfl))
      (pss_cons (ps_set (i := 7) S.nd rfl (by first | exact .inl rfl | exact .inr rfl) (pe_call (ok_p_first_other T) (hr.mono (by decide)) (by rfl) T.g_p_first_other T.F_p_first_other.kp T.b_p_first_other .nil pass0 (pa_cons (pv 5) (pa_cons (pv 6) pa_nil))))
      (pss_one (ps_ret (pe_tup (pa_cons (pv 7) (pa_cons (pe_op op_sub (pe_ix (ix_tupK (K := K) rfl) (pv 6) (pv 7) (fun _ _ => rfl)) (pe_ix (ix_tupK (K := K) rfl) (pv 5) (pv 7) (fun _ _ => rfl))) pa_nil)))))))), ?_⟩
  rintro ⟨self, c, _⟩
  show SimB _ _ _ _ _ _ [.rb (sl_Grid T self), .sl (fz K (eI c)), .un, .un, .un, .un, .un, .un] (p_Grid_step self c)
  unfold p_Grid_step
  exact (sb_seq (sb_asg (e := (e3 eI eI eI)) (EvG.is (w' := (opt (atI self.2.2.1.2 c))) (ev_opF (ev_ixW (e' := (eT (e3 eI eI eI))) (fun a => a.2) 1 (EvG.as (fun r : ((List Int) × Int × (Int × (List (Int × Int × Int))) × (List (List Int))) => r.2.2.1) (R' := fun r => RF _ ((e2 eI (eT (e3 eI eI eI))) r)) (EvG.bF (ev_fld (S := fun r : ((List Int) × Int × (Int × (List (Int × Int × Int))) × (List (List Int))) => fz K ((e2 eI (eT (e3 eI eI eI))) r.2.2.1)) (ev_B (S := fun r => sl_Grid T r) self (.inr rfl)) T.cl_Grid T.na_Grid_network (fun _ => (List.Mem.tail _ (List.Mem.tail _ (List.Mem.head _)))))) (fun _ => rfl)) rfl (fun _ => ⟨_, rfl, rfl⟩)) (ev_f (e := eI) c rfl) (fun _ _ => o_ixT _ _)) rfl) (fun u1 => (tg_tup (ds := [eI (u1.1), eI (u1.2.1), eI (u1.2.2)]) (ts_cons (tg_name (ltb rfl)) (ts_cons (tg_name (ltb rfl)) (ts_cons (tg_name (ltb rfl)) ts_nil))) rfl rfl)) (fun u1 => (la_in (sb_seq (sb_par (i := 5) (j := 6) (e := (eT eI)) (e' := (eT eI)) (fun x => (x.1, x.2.1)) (es_f (ev_opLF (EvG.as (fun r : ((List Int) × Int × (Int × (List (Int × Int × Int))) × (List (List Int))) => r.2.2.2) (R' := fun r => RL _ (List.map (eT eI) r)) (EvG.bL (ev_fld (S := fun r : ((List Int) × Int × (Int × (List (Int × Int × Int))) × (List (List Int))) => ls K (List.map (eT eI) r.2.2.2)) (ev_B (S := fun r => sl_Grid T r) self (.inr rfl)) T.cl_Grid T.na_Grid_places (fun _ => (List.Mem.tail _ (List.Mem.tail _ (List.Mem.tail _ (List.Mem.head _))))))) (fun _ => rfl)) (ev_f (e := eI) (u1.1) rfl) (fun _ _ => o_ixL _ _)) (es_f (ev_opLF (EvG.as (fun r : ((List Int) × Int × (Int × (List (Int × Int × Int))) × (List (List Int))) => r.2.2.2) (R' := fun r => RL _ (List.map (eT eI) r)) (EvG.bL (ev_fld (S := fun r : ((List Int) × Int × (Int × (List (Int × Int × Int))) × (List (List Int))) => ls K (List.map (eT eI) r.2.2.2)) (ev_B (S := fun r => sl_Grid T r) self (.inr rfl)) T.cl_Grid T.na_Grid_places (fun _ => (List.Mem.tail _ (List.Mem.tail _ (List.Mem.tail _ (List.Mem.head _))))))) (fun _ => rfl)) (ev_f (e := eI) (u1.2.1) rfl) (fun _ _ => o_ixL _ _)) es_nil)) (fun _ => rfl) (by first | rfl | (simp only [ret_bnd, bnd_bnd, mapW_bnd, mapW_ret] <;> rfl)) (ltb rfl) (ltb rfl) (fun u2 => (la_in (sb_seq (sb_set (e := eI) (EvG.is (w' := (noX (p_first_other u2.1 u2.2))) (ev_callS eI (es_f (ev_f (e := (eT eI)) u2.1 rfl) (es_f (ev_f (e := (eT eI)) u2.2 rfl) es_nil)) (fun _ => rfl)) rfl) (ltb rfl) (fun at_5 => (la_in (sb_retF (EvG.is (w' := (bnd (bnd (opt (atI u2.2 at_5)) fun x6 => bnd (opt (atI u2.1 at_5)) fun x7 => ret (x6 - x7)) fun x8 => ret (at_5, x8))) (ev_tupS (fun x => (x.1, x.2.1)) (e2 eI eI) (es_f (ev_f (e := eI) at_5 rfl) (es_f (ev_opF (ev_opF (ev_f (e := (eT eI)) u2.2 rfl) (ev_f (e := eI) at_5 rfl) (fun _ _ => o_ixT _ _)) (ev_opF (ev_f (e := (eT eI)) u2.1 rfl) (ev_f (e := eI) at_5 rfl) (fun _ _ => o_ixT _ _)) (fun _ _ => o_sub _ _)) es_nil)) (fun _ => (AllF.cons (AllF.cons AllF.nil))) (fun _ => rfl) (fun _ => rfl)) (by simp only [ret_bnd, bnd_bnd, mapW_bnd, mapW_ret] <;> rfl)) (fun _ => rfl))))))))))))))
end
end Cf
namespace Cf
open PySem PySem.Spec PyProof.Rows L2 WL GxR
section
variable {P : Program} {w : World} {K : PySem.W.Frag} [Tbs K] {mg : Str → Option Value} {base : Heap}
set_option maxHeartbeats 4000000
theorem ok_p_dateline_choice (T : Tx K mg base) : FnOk P w K mg base CX0 1 T.f_p_dateline_choice T.d_p_dateline_choice ["size", "x", "t"] (spN K (fun x : Int × Int × Int × Unit => [.d (eI x.1), .d (eI x.2.1), .d (eI x.2.2.1)]) (fun x => p_dateline_choice x.1 x.2.1 x.2.2.1) (fun r : (Int × Int) => .fz ((e2 eI eI) r))) := by
  have S := sc_p_dateline_choice
  refine fn_n (N := nn_p_dateline_choice) T.F_p_dateline_choice S (fun _ => rfl) (fun cdv A outer s H E hr => ?_)
  refine ⟨_, (pss_cons (ps_if (pt_cmpR op_le (pv 0) pe_int (nomark _)) (pss_one (ps_ret (pe_tup (pa_cons (pe_op op_sub (pv 2) (pv 1)) (pa_cons pe_int pa_nil))))) pss_nil)
      (pss_cons (ps_if (pt_cmpR op_le (pe_op op_mul pe_int (pe_op op_modN (pe_op op_sub (pv 2) (pv 1)) (pv 0))) (pv 0) (nomark _)) (pss_one (ps_ret (pe_tup (pa_cons (pe_ifExp (pt_cmpR op_lt (pe_op op_add (pv 1) pe_int) (pv 0) (nomark _)) pe_int (pe_op op_sub pe_int (pv 0))) (pa_cons (pe_callTy call_int1 (by rfl) T.z_int (by decide +kernel) (pa_cons (pe_cmpR op_lt (pv 2) (pv 1) (nomark _)) pa_nil)) pa_nil))))) pss_nil)
      (pss_one (ps_ret (pe_tup (pa_cons (pe_ifExp (pt_cmpR op_gt (pv 1) pe_int (nomark _)) (pe_un un_neg pe_int) (pe_op op_sub (pv 0) pe_int)) (pa_cons (pe_callTy call_int1 (by rfl) T.z_int (by decide +kernel) (pa_cons (pe_cmpR op_gt (pv 2) (pv 1) (nomark _)) pa_nil)) pa_nil))))))), ?_⟩
  rintro ⟨size, x, t, _⟩
  show SimB _ _ _ _ _ _ [.sl (fz K (eI size)), .sl (fz K (eI x)), .sl (fz K (eI t))] (p_dateline_choice size x t)
  unfold p_dateline_choice
  exact (sb_seq (sb_if (EvT.is (w' := (ret (decide (size ≤ (2 : Int))))) (et_test (ev_opF (ev_f (e := eI) size rfl) ev_int (fun _ _ => o_le _ _))) rfl) (sb_retF (EvG.is (w' := (ret ((t - x), (0 : Int)))) (ev_tupS (fun x => (x.1, x.2.1)) (e2 eI eI) (es_f (ev_opF (ev_f (e := eI) t rfl) (ev_f (e := eI) x rfl) (fun _ _ => o_sub _ _)) (es_f ev_int es_nil)) (fun _ => (AllF.cons (AllF.cons AllF.nil))) (fun _ => rfl) (fun _ => rfl)) rfl) (fun _ => rfl)) (sb_next (la_in (sb_seq (sb_if (EvT.is (w' := (bnd (bnd (grd (size ≠ 0) (ret (Int.fmod (t - x) size))) fun x2 => ret ((2 : Int) * x2)) fun x3 => ret (decide (x3 ≤ size)))) (et_test (ev_opF (ev_mulL (by decide) (ev_opF (ev_opF (ev_f (e := eI) t rfl) (ev_f (e := eI) x rfl) (fun _ _ => o_sub _ _)) (ev_f (e := eI) size rfl) (fun _ _ => o_mod _ _))) (ev_f (e := eI) size rfl) (fun _ _ => o_le _ _))) rfl) (sb_retF (EvG.is (w' := (bnd (sel (decide ((x + (1 : Int)) < size)) (ret (1 : Int)) (ret ((1 : Int) - size))) fun x5 => ret (x5, (if (decide (t < x)) then 1 else 0 : Int)))) (ev_tupS (fun x => (x.1, x.2.1)) (e2 eI eI) (es_f (ev_ifF (et_test (ev_opF (ev_opF (ev_f (e := eI) x rfl) ev_int (fun _ _ => o_add _ _)) (ev_f (e := eI) size rfl) (fun _ _ => o_lt _ _))) ev_int (ev_opF ev_int (ev_f (e := eI) size rfl) (fun _ _ => o_sub _ _))) (es_f (ev_b1F (ev_opF (ev_f (e := eI) t rfl) (ev_f (e := eI) x rfl) (fun _ _ => o_lt _ _)) (fun _ => c_intB _)) es_nil)) (fun _ => (AllF.cons (AllF.cons AllF.nil))) (fun _ => rfl) (fun _ => rfl)) rfl) (fun _ => rfl)) (sb_next (la_in (sb_retF (EvG.is (w' := (bnd (sel (decide ((0 : Int) < x)) (ret (-(1 : Int))) (ret (size - (1 : Int)))) fun x6 => ret (x6, (if (decide (x < t)) then 1 else 0 : Int)))) (ev_tupS (fun x => (x.1, x.2.1)) (e2 eI eI) (es_f (ev_ifF (et_test (ev_opF (ev_f (e := eI) x rfl) ev_int (fun _ _ => o_gt _ _))) (ev_un ev_int (fun _ => u_neg _)) (ev_opF (ev_f (e := eI) size rfl) ev_int (fun _ _ => o_sub _ _))) (es_f (ev_b1F (ev_opF (ev_f (e := eI) t rfl) (ev_f (e := eI) x rfl) (fun _ _ => o_gt _ _)) (fun _ => c_intB _)) es_nil)) (fun _ => (AllF.cons (AllF.cons AllF.nil))) (fun _ => rfl) (fun _ => rfl)) rfl) (fun _ => rfl))))))))))
end
end Cf
namespace Cf
open PySem PySem.Spec PyProof.Rows L2 WL GxR
section
variable {P : Program} {w : World} {K : PySem.W.Frag} [Tbs K] {mg : Str → Option Value} {base : Heap}
set_option maxHeartbeats 4000000
theorem ok_p_link_of (T : Tx K mg base) : FnOk P w K mg base CX0 1 T.f_p_link_of T.d_p_link_of ["lanes", "c"] (spN K (fun x : Int × Int × Unit => [.d (eI x.1), .d (eI x.2.1)]) (fun x => p_link_of x.1 x.2.1) (fun r : (List Int) => .fz ((eT eI) r))) := by
  have S := sc_p_link_of
  refine fn_n (N := nn_p_link_of) T.F_p_link_of S (fun _ => rfl) (fun cdv A outer s H E hr => ?_)
  refine ⟨_, (pss_cons (ps_asg (pe_callB call_divmod (by rfl) T.z_divmod (by decide +kernel) (pa_cons (pv 1) (pa_cons (pe_op op_mul pe_int (pv 0)) pa_nil))) (pg_tupK (n := 2) (K := K) rfl rfl (pgs_cons (pg_name (i := 2) S.nd rfl (by first | exact .inl rfl | exact .inr rfl)) (pgs_cons (pg_name (i := 3) S.nd rfl (by first | exact .inl rfl | exact .inr rfl)) pgs_nil))))
      (pss_one (ps_ret (pe_op (op_catK (K := K) rfl) (pe_tup (pa_cons (pv 2) pa_nil)) (pe_callB call_divmod (by rfl) T.z_divmod (by decide +kernel) (pa_cons (pv 3) (pa_cons (pv 0) pa_nil))))))), ?_⟩
  rintro ⟨lanes, c, _⟩
  show SimB _ _ _ _ _ _ [.sl (fz K (eI lanes)), .sl (fz K (eI c)), .un, .un] (p_link_of lanes c)
  unfold p_link_of
  exact (sb_seq (sb_asg (e := (e2 eI eI)) (EvG.is (w' := (grd (CDiv c ((2 : Int) * lanes)) (ret (c / ((2 : Int) * lanes), c % ((2 : Int) * lanes))))) (ev_divmod (ev_f (e := eI) c rfl) (ev_mulL (by decide) (ev_f (e := eI) lanes rfl))) rfl) (fun u1 => (tg_tup (ds := [eI (u1.1), eI (u1.2)]) (ts_cons (tg_name (ltb rfl)) (ts_cons (tg_name (ltb rfl)) ts_nil)) rfl rfl)) (fun u1 => (la_in (sb_retF (EvG.is (w' := (bnd (bnd (grd (CDiv (u1.2) lanes) (ret ((u1.2) / lanes, (u1.2) % lanes))) fun y => ret ((fun y => [y.1, y.2]) y)) fun x2 => grd ([(u1.1)].length + x2.length ≤ 16777216) (ret ([(u1.1)] ++ x2)))) (ev_opF (ev_tupS (fun x => [x.1]) (eT eI) (es_f (ev_f (e := eI) (u1.1) rfl) es_nil) (fun _ => (AllF.cons AllF.nil)) (fun _ => rfl) (fun _ => rfl)) (EvG.as (fun y => [y.1, y.2]) (R' := fun r => RF _ (eT eI r)) (ev_divmod (ev_f (e := eI) (u1.2) rfl) (ev_f (e := eI) lanes rfl)) (fun _ => rfl)) (fun _ _ => o_catT _ _)) rfl) (fun _ => rfl))))))
end
end Cf
namespace Cf
open PySem PySem.Spec PyProof.Rows L2 WL GxR
section
variable {P : Program} {w : World} {K : PySem.W.Frag} [Tbs K] {mg : Str → Option Value} {base : Heap}
set_option maxHeartbeats 4000000
theorem ok_p_AcrossLines_options (T : Tx K mg base) : FnOk P w K mg base CX0 3 T.f_p_AcrossLines_options T.d_p_AcrossLines_options ["self", "u", "d"] (spN K (fun x : ((List Int) × Int × (Int × (List (Int × Int × Int))) × (List (List Int))) × Int × Int × Unit => [.b (sl_AcrossLines T (x.1)), .d (eI x.2.1), .d (eI x.2.2.1)]) (fun x => p_AcrossLines_options x.1 x.2.1 x.2.2.1) (fun r : (List Int) => .fz ((eT eI) r))) := by
  have S := sc_p_AcrossLines_options
  refine fn_n (N := nn_p_AcrossLines_options) T.F_p_AcrossLines_options S (fun _ => rfl) (fun cdv A outer s H E hr => ?_)
  refine ⟨_, (pss_cons (ps_set (i := 3) S.nd rfl (by first | exact .inl rfl | exact .inr rfl) (pe_fldK (K := K) rfl (pv 0) (by rfl)))
      (pss_cons (ps_par (i := 4) (j := 5) rfl S.nd rfl rfl (by decide) rfl rfl (pa_cons (pe_ix (ix_listK (K := K) rfl) (pe_fldK (K := K) rfl (pv 3) (by rfl)) (pv 1) (fun _ _ => rfl)) (pa_cons (pe_ix (ix_listK (K := K) rfl) (pe_fldK (K := K) rfl (pv 3) (by rfl)) (pv 2) (fun _ _ => rfl)) pa_nil)) (by rfl))
      (pss_cons (ps_set (i := 6) S.nd rfl (by first | exact .inl rfl | exact .inr rfl) (pe_call (ok_p_first_other T) (hr.mono (by decide)) (by rfl) T.g_p_first_other T.F_p_first_other.kp T.b_p_first_other .nil pass0 (pa_cons (pv 4) (pa_cons (pv 5) pa_nil))))
      (pss_cons (ps_asg (pe_call (ok_p_dateline_choice T) (hr.mono (by decide)) (by rfl) T.g_p_dateline_choice T.F_p_dateline_choice.kp T.b_p_dateline_choice .nil pass0 (pa_cons (pe_ix (ix_tupK (K := K) rfl) (pe_fldK (K := K) rfl (pv 3) (by rfl)) (pv 6) (fun _ _ => rfl)) (pa_cons (pe_ix (ix_tupK (K := K) rfl) (pv 4) (pv 6) (fun _ _ => rfl)) (pa_cons (pe_ix (ix_tupK (K := K) rfl) (pv 5) (pv 6) (fun _ _ => rfl)) pa_nil)))) (pg_tupK (n := 2) (K := K) rfl rfl (pgs_cons (pg_name (i := 7) S.nd rfl (by first | exact .inl rfl | exact .inr rfl)) (pgs_cons (pg_name (i := 8) S.nd rfl (by first | exact .inl rfl | exact .inr rfl)) pgs_nil))))
      (pss_cons (ps_set (i := 9) S.nd rfl (by first | exact .inl rfl | exact .inr rfl) (pe_call (ok_p_channels_from T) (hr.mono (by decide)) (by rfl) T.g_p_channels_from T.F_p_channels_from.kp T.b_p_channels_from .nil pass0 (pa_cons (pe_fldK (K := K) rfl (pv 3) (by rfl)) (pa_cons (pv 1) pa_nil))))
      (pss_one (ps_ret (pe_callTy (call_tupK (K := K) rfl) (by rfl) T.z_tuple (by decide +kernel) (pa_cons (pe_lc (own := [("c", 10)]) rfl S.nd (pi_listK (K := K) rfl (pv 9)) (blkOk_by (N := nn_p_AcrossLines_options) (sc := (defScope s_p_AcrossLines_options)) (own := [("c", 10)]) (by decide +kernel)) (fun _ _ _ _ _ => (pg_name (i := 10) S.nd rfl (by first | exact .inl rfl | exact .inr rfl))) (fun _ _ _ _ _ => (pts_one (PW.pt (pw_and (pt_cmpR (op_eqDK (K := K) rfl hr.units) (pe_meth (pv 3) T.cl_Grid T.me_p_Grid_step (ok_p_Grid_step T) (hr.mono (by decide)) T.b_p_Grid_step .nil pass0 (pa_cons (pv 10) pa_nil)) (pe_tup (pa_cons (pv 6) (pa_cons (pv 7) pa_nil))) (nomark _)) (pw_and1 (pt_cmpR op_eq (pe_ix (ix_tupK (K := K) rfl) (pe_call (ok_p_link_of T) (hr.mono (by decide)) (by rfl) T.g_p_link_of T.F_p_link_of.kp T.b_p_link_of .nil pass0 (pa_cons (pe_fldK (K := K) rfl (pv 3) (by rfl)) (pa_cons (pv 10) pa_nil))) pe_int (fun _ _ => rfl)) (pv 8) (nomark _))))))) (fun _ _ _ _ _ => (pv 10))) pa_nil))))))))), ?_⟩
  rintro ⟨self, u, d, _⟩
  show SimB _ _ _ _ _ _ [.rb (sl_AcrossLines T self), .sl (fz K (eI u)), .sl (fz K (eI d)), .un, .un, .un, .un, .un, .un, .un, .un] (p_AcrossLines_options self u d)
  unfold p_AcrossLines_options
  exact (sb_seq (sb_aliasF (i := 0) (S := sl_Grid T self) rfl T.cl_AcrossLines T.na_AcrossLines_grid (List.Mem.head _) (ltb rfl) (la_in (sb_seq (sb_par (i := 4) (j := 5) (e := (eT eI)) (e' := (eT eI)) (fun x => (x.1, x.2.1)) (es_f (ev_opLF (EvG.as (fun r : ((List Int) × Int × (Int × (List (Int × Int × Int))) × (List (List Int))) => r.2.2.2) (R' := fun r => RL _ (List.map (eT eI) r)) (EvG.bL (ev_fld (S := fun r : ((List Int) × Int × (Int × (List (Int × Int × Int))) × (List (List Int))) => ls K (List.map (eT eI) r.2.2.2)) (ev_B (S := fun r => sl_Grid T r) self (.inr rfl)) T.cl_Grid T.na_Grid_places (fun _ => (List.Mem.tail _ (List.Mem.tail _ (List.Mem.tail _ (List.Mem.head _))))))) (fun _ => rfl)) (ev_f (e := eI) u rfl) (fun _ _ => o_ixL _ _)) (es_f (ev_opLF (EvG.as (fun r : ((List Int) × Int × (Int × (List (Int × Int × Int))) × (List (List Int))) => r.2.2.2) (R' := fun r => RL _ (List.map (eT eI) r)) (EvG.bL (ev_fld (S := fun r : ((List Int) × Int × (Int × (List (Int × Int × Int))) × (List (List Int))) => ls K (List.map (eT eI) r.2.2.2)) (ev_B (S := fun r => sl_Grid T r) self (.inr rfl)) T.cl_Grid T.na_Grid_places (fun _ => (List.Mem.tail _ (List.Mem.tail _ (List.Mem.tail _ (List.Mem.head _))))))) (fun _ => rfl)) (ev_f (e := eI) d rfl) (fun _ _ => o_ixL _ _)) es_nil)) (fun _ => rfl) (by first | rfl | (simp only [ret_bnd, bnd_bnd, mapW_bnd, mapW_ret] <;> rfl)) (ltb rfl) (ltb rfl) (fun u1 => (la_in (sb_seq (sb_set (e := eI) (EvG.is (w' := (noX (p_first_other u1.1 u1.2))) (ev_callS eI (es_f (ev_f (e := (eT eI)) u1.1 rfl) (es_f (ev_f (e := (eT eI)) u1.2 rfl) es_nil)) (fun _ => rfl)) rfl) (ltb rfl) (fun at_4 => (la_in (sb_seq (sb_asg (e := (e2 eI eI)) (EvG.is (w' := (bnd (opt (atI self.1 at_4)) fun x5 => bnd (opt (atI u1.1 at_4)) fun x6 => bnd (opt (atI u1.2 at_4)) fun x7 => noX (p_dateline_choice x5 x6 x7))) (ev_callS (e2 eI eI) (es_f (ev_opF (EvG.as (fun r : ((List Int) × Int × (Int × (List (Int × Int × Int))) × (List (List Int))) => r.1) (R' := fun r => RF _ ((eT eI) r)) (EvG.bF (ev_fld (S := fun r : ((List Int) × Int × (Int × (List (Int × Int × Int))) × (List (List Int))) => fz K ((eT eI) r.1)) (ev_B (S := fun r => sl_Grid T r) self (.inr rfl)) T.cl_Grid T.na_Grid_sizes (fun _ => (List.Mem.head _)))) (fun _ => rfl)) (ev_f (e := eI) at_4 rfl) (fun _ _ => o_ixT _ _)) (es_f (ev_opF (ev_f (e := (eT eI)) u1.1 rfl) (ev_f (e := eI) at_4 rfl) (fun _ _ => o_ixT _ _)) (es_f (ev_opF (ev_f (e := (eT eI)) u1.2 rfl) (ev_f (e := eI) at_4 rfl) (fun _ _ => o_ixT _ _)) es_nil))) (fun _ => rfl)) (by simp only [ret_bnd, bnd_bnd, mapW_bnd, mapW_ret] <;> rfl)) (fun u8 => (tg_tup (ds := [eI (u8.1), eI (u8.2)]) (ts_cons (tg_name (ltb rfl)) (ts_cons (tg_name (ltb rfl)) ts_nil)) rfl rfl)) (fun u8 => (la_in (sb_seq (sb_setN (S := fun r => ls K (List.map eI r)) (EvG.is (w' := (noX (p_channels_from self.2.2.1 u))) (ev_callNS (fun r => ls K (List.map eI r)) (es_f (EvG.as (fun r : ((List Int) × Int × (Int × (List (Int × Int × Int))) × (List (List Int))) => r.2.2.1) (R' := fun r => RF _ ((e2 eI (eT (e3 eI eI eI))) r)) (EvG.bF (ev_fld (S := fun r : ((List Int) × Int × (Int × (List (Int × Int × Int))) × (List (List Int))) => fz K ((e2 eI (eT (e3 eI eI eI))) r.2.2.1)) (ev_B (S := fun r => sl_Grid T r) self (.inr rfl)) T.cl_Grid T.na_Grid_network (fun _ => (List.Mem.tail _ (List.Mem.tail _ (List.Mem.head _)))))) (fun _ => rfl)) (es_f (ev_f (e := eI) u rfl) es_nil)) (fun _ => rfl)) rfl) (ltb rfl) (fun own_9 => (la_in (sb_retF (EvG.is (w' := (bnd (ret own_9) fun l15 => lcG (fun c10 => (bnd (bnd (noX (p_Grid_step self c10)) fun x11 => eqW ((e2 eI eI) x11) ((e2 eI eI) (at_4, (u8.1)))) fun x14 => sel x14 (bnd (bnd (noX (p_link_of self.2.1 c10)) fun x12 => opt (atI x12 (2 : Int))) fun x13 => ret (decide (x13 = (u8.2)))) (ret false))) (fun c10 => (ret c10)) l15)) (ev_b1L (EvG.rl (ev_lc (e := eI) (c := fun c10 => (bnd (bnd (noX (p_Grid_step self c10)) fun x11 => eqW ((e2 eI eI) x11) ((e2 eI eI) (at_4, (u8.1)))) fun x14 => sel x14 (bnd (bnd (noX (p_link_of self.2.1 c10)) fun x12 => opt (atI x12 (2 : Int))) fun x13 => ret (decide (x13 = (u8.2)))) (ret false))) (f := fun c10 => (ret c10)) (ItG.is (w' := (ret own_9)) (it_var (e := eI) own_9 rfl) rfl) (fun c10 => (tg_name (ltb rfl))) (fun c10 => (EvT.is (w' := (bnd (bnd (noX (p_Grid_step self c10)) fun x11 => eqW ((e2 eI eI) x11) ((e2 eI eI) (at_4, (u8.1)))) fun x14 => sel x14 (bnd (bnd (noX (p_link_of self.2.1 c10)) fun x12 => opt (atI x12 (2 : Int))) fun x13 => ret (decide (x13 = (u8.2)))) (ret false))) (et_and (et_test (ev_opF (ev_methS (m := "step") (ag := fun y : Int × Unit => [Ag.d (eI y.1)]) (e2 eI eI) (ev_B (S := fun r => sl_Grid T r) self (.inr rfl)) (fun _ _ => nm_by ["sizes", "lanes", "network", "places"] rfl (by decide +kernel)) (es_f (ev_f (e := eI) c10 rfl) es_nil) (fun _ => rfl)) (ev_tupS (fun x => (x.1, x.2.1)) (e2 eI eI) (es_f (ev_f (e := eI) at_4 rfl) (es_f (ev_f (e := eI) (u8.1) rfl) es_nil)) (fun _ => (AllF.cons (AllF.cons AllF.nil))) (fun _ => rfl) (fun _ => rfl)) (fun _ _ => o_eqDW _ _))) (et_test (ev_opF (ev_opF (ev_callS (eT eI) (es_f (EvG.as (fun r : ((List Int) × Int × (Int × (List (Int × Int × Int))) × (List (List Int))) => r.2.1) (R' := fun r => RF _ (eI r)) (EvG.bF (ev_fld (S := fun r : ((List Int) × Int × (Int × (List (Int × Int × Int))) × (List (List Int))) => fz K (eI r.2.1)) (ev_B (S := fun r => sl_Grid T r) self (.inr rfl)) T.cl_Grid T.na_Grid_lanes (fun _ => (List.Mem.tail _ (List.Mem.head _))))) (fun _ => rfl)) (es_f (ev_f (e := eI) c10 rfl) es_nil)) (fun _ => rfl)) ev_int (fun _ _ => o_ixT _ _)) (ev_f (e := eI) (u8.2) rfl) (fun _ _ => o_eqI _ _)))) (by simp only [ret_bnd, bnd_bnd, mapW_bnd, mapW_ret] <;> rfl))) (fun c10 => (EvG.is (w' := (ret c10)) (ev_f (e := eI) c10 rfl) rfl)))) (fun _ => c_tupL _)) (by simp only [ret_bnd, bnd_bnd, mapW_bnd, mapW_ret] <;> rfl)) (fun _ => rfl)))))))))))))))))))))
end
end Cf
namespace Cf
open PySem PySem.Spec PyProof.Rows L2 WL GxR
section
variable {P : Program} {w : World} {K : PySem.W.Frag} [Tbs K] {mg : Str → Option Value} {base : Heap}
set_option maxHeartbeats 4000000
theorem ok_p_table_of_lines (T : Tx K mg base) : FnOk P w K mg base CX0 4 T.f_p_table_of T.d_p_table_of ["network", "chooser"] (spN K (fun x : (Int × (List (Int × Int × Int))) × ((List Int) × Int × (Int × (List (Int × Int × Int))) × (List (List Int))) × Unit => [.d ((e2 eI (eT (e3 eI eI eI))) x.1), .b (sl_AcrossLines T (x.2.1))]) (fun x => p_table_of_lines x.1 x.2.1) (fun r : (List (List (List Int))) => .fz ((eT (eT (eT eI))) r))) := by
  have S := sc_p_table_of
  refine fn_n (N := nn_p_table_of) T.F_p_table_of S (fun _ => rfl) (fun cdv A outer s H E hr => ?_)
  refine ⟨_, (pss_cons (ps_set (i := 2) S.nd rfl (by first | exact .inl rfl | exact .inr rfl) (pe_lst pa_nil))
      (pss_cons (ps_for PassesOwn.never rfl (pi_range1 (by rfl) T.z_range (pa_cons (pe_ix (ix_tupK (K := K) rfl) (pv 0) pe_int (fun _ _ => rfl)) pa_nil)) (pg_name (i := 3) S.nd rfl (by first | exact .inl rfl | exact .inr rfl)) (pss_one (ps_expr (pe_bm PySem.F.plainAttrs_list PySem.F.slot_list_append PySem.F.type_list_append mt_append (pv 2) (pa_cons (pe_callTy (call_tupK (K := K) rfl) (by rfl) T.z_tuple (by decide +kernel) (pa_cons (pe_lc (own := [("d", 4)]) rfl S.nd (pi_range1 (by rfl) T.z_range (pa_cons (pe_ix (ix_tupK (K := K) rfl) (pv 0) pe_int (fun _ _ => rfl)) pa_nil)) (blkOk_by (N := nn_p_table_of) (sc := (defScope s_p_table_of)) (own := [("d", 4)]) (by decide +kernel)) (fun _ _ _ _ _ => (pg_name (i := 4) S.nd rfl (by first | exact .inl rfl | exact .inr rfl))) (fun _ _ _ _ _ => pts_nil) (fun _ _ _ _ _ => (pe_ifExp (pt_cmpR op_eq (pv 3) (pv 4) (nomark _)) (pe_tup pa_nil) (pe_meth (pv 1) T.cl_AcrossLines T.me_p_AcrossLines_options (ok_p_AcrossLines_options T) (hr.mono (by decide)) T.b_p_AcrossLines_options .nil pass0 (pa_cons (pv 3) (pa_cons (pv 4) pa_nil)))))) pa_nil)) pa_nil)))))
      (pss_one (ps_ret (pe_callTy (call_tupK (K := K) rfl) (by rfl) T.z_tuple (by decide +kernel) (pa_cons (pv 2) pa_nil)))))), ?_⟩
  rintro ⟨network, chooser, _⟩
  show SimB _ _ _ _ _ _ [.sl (fz K ((e2 eI (eT (e3 eI eI eI))) network)), .rb (sl_AcrossLines T chooser), .un, .un, .un] (p_table_of_lines network chooser)
  unfold p_table_of_lines
  exact (sb_seq (sb_setN (S := fun r => ls K (List.map (eT (eT eI)) r)) (EvG.is (w' := (ret ([] : List (List (List Int))))) (ev_lstS (fun _ => ([] : List (List (List Int)))) (eT (eT eI)) es_nil (fun _ => AllF.nil) (fun _ => rfl) (fun _ => rfl)) rfl) (ltb rfl) (fun rows_1 => (la_in (sb_seq (sb_for (S := ((List (List (List Int))))) (e := eI) (Γh := fun s3 => [.sl (fz K ((e2 eI (eT (e3 eI eI eI))) network)), .rb (sl_AcrossLines T chooser), .sl (ls K (List.map (eT (eT eI)) s3)), .un, .un]) rows_1 (ItG.is (w' := (grd (Rng network.1) (ret (span 0 (network.1).toNat)))) (it_range1 (ev_ixW (e' := eI) (fun a => a.1) 0 (ev_f (e := (e2 eI (eT (e3 eI eI eI)))) network rfl) rfl (fun _ => ⟨_, rfl, rfl⟩))) rfl) (fun _ h => nomatch h) (wk_mask [true, true, true, true, true] _) (fun x2 s3 => (tg_name (ltb rfl))) (fun x2 s3 kc4 => (sb_appendK (e := (eT (eT eI))) (xs := s3) rfl (EvG.is (w' := (bnd (grd (Rng network.1) (ret (span 0 (network.1).toNat))) fun l8 => lcG (fun c7 => (ret true)) (fun c7 => (sel (decide (x2 = c7)) (ret ([] : (List Int))) (noX (p_AcrossLines_options chooser x2 c7)))) l8)) (ev_b1L (EvG.rl (ev_lc (e := eI) (c := fun c7 => (ret true)) (f := fun c7 => (sel (decide (x2 = c7)) (ret ([] : (List Int))) (noX (p_AcrossLines_options chooser x2 c7)))) (ItG.is (w' := (grd (Rng network.1) (ret (span 0 (network.1).toNat)))) (it_range1 (ev_ixW (e' := eI) (fun a => a.1) 0 (ev_f (e := (e2 eI (eT (e3 eI eI eI)))) network rfl) rfl (fun _ => ⟨_, rfl, rfl⟩))) rfl) (fun c7 => (tg_name (ltb rfl))) (fun c7 => (EvT.is (w' := (ret true)) et_yes rfl)) (fun c7 => (EvG.is (w' := (sel (decide (x2 = c7)) (ret ([] : (List Int))) (noX (p_AcrossLines_options chooser x2 c7)))) (ev_ifF (et_test (ev_opF (ev_f (e := eI) x2 rfl) (ev_f (e := eI) c7 rfl) (fun _ _ => o_eqI _ _))) (ev_tupS (fun x => []) (eT eI) es_nil (fun _ => AllF.nil) (fun _ => rfl) (fun _ => rfl)) (ev_methS (m := "options") (ag := fun y : Int × Int × Unit => [Ag.d (eI y.1), Ag.d (eI y.2.1)]) (eT eI) (ev_B (S := fun r => sl_AcrossLines T r) chooser (.inr rfl)) (fun _ _ => nm_by ["grid"] rfl (by decide +kernel)) (es_f (ev_f (e := eI) x2 rfl) (es_f (ev_f (e := eI) c7 rfl) es_nil)) (fun _ => rfl))) rfl)))) (fun _ => c_tupL _)) rfl) (fun s6 => (Lands.wk (la_at s6) (wk_mask [true, true, true, false, true] _))))) (fun s3 => (la_in (sb_retF (EvG.is (w' := (ret s3)) (ev_b1L (ev_l (e := (eT (eT eI))) s3 rfl) (fun _ => c_tupL _)) rfl) (fun _ => rfl))))))))))
end
end Cf
namespace Cf
open PySem PySem.Spec PyProof.Rows L2 WL GxR
section
variable {P : Program} {w : World} {K : PySem.W.Frag} [Tbs K] {mg : Str → Option Value} {base : Heap}
set_option maxHeartbeats 4000000
theorem ok_p_dateline (T : Tx K mg base) : FnOk P w K mg base (L2.CX P w) 7 T.f_p_dateline T.d_p_dateline ["sizes", "lanes"] (spX K (ctOf [T.xa_NotAllowed]) (fun x : (List Int) × Int × Unit => [.d ((eT eI) x.1), .d (eI x.2.1)]) (fun x => p_dateline x.1 x.2.1) (fun r : (List (List (List Int))) => .fz ((eT (eT (eT eI))) r))) := by
  have S := sc_p_dateline
  refine fn_x (N := nn_p_dateline) T.F_p_dateline S (fun _ => rfl) (fun cdv A outer s H E hr => ?_)
  refine ⟨_, (pss_cons (ps_if (pt_cmpR op_eq (pv 1) pe_int (nomark _)) (pss_one (ps_raiseC (K := K) rfl T.xc_NotAllowed rfl (takes_of rfl rfl rfl rfl) (by exact rfl))) pss_nil)
      (pss_cons (ps_set (i := 2) S.nd rfl (by first | exact .inl rfl | exact .inr rfl) (pe_make T.mk_Grid (ok_p_Grid_init T) (hr.mono (by decide)) (by rfl) T.xg_Grid T.b_p_Grid_init .nil pass0 (pa_cons (pv 0) (pa_cons (pv 1) (pa_cons pe_bl pa_nil)))))
      (pss_one (ps_ret (pe_call (ok_p_table_of_lines T) (hr.mono (by decide)) (by rfl) T.g_p_table_of T.F_p_table_of.kp T.b_p_table_of .nil pass0 (pa_cons (pe_fldK (K := K) rfl (pv 2) (by rfl)) (pa_cons (pe_make T.mk_AcrossLines (ok_p_AcrossLines_init T) (hr.mono (by decide)) (by rfl) T.xg_AcrossLines T.b_p_AcrossLines_init .nil pass0 (pa_cons (pv 2) pa_nil)) pa_nil))))))), ?_⟩
  rintro ⟨sizes, lanes, _⟩
  show SimB _ _ _ _ _ _ [.sl (fz K ((eT eI) sizes)), .sl (fz K (eI lanes)), .un] (p_dateline sizes lanes)
  unfold p_dateline
  exact (sb_seq (sb_if (EvT.is (w' := (ret (decide (lanes = (1 : Int))))) (et_test (ev_opF (ev_f (e := eI) lanes rfl) ev_int (fun _ _ => o_eqI _ _))) rfl) (sb_raise 0 rfl) (sb_next (la_in (sb_seq (sb_setN (S := fun r => sl_Grid T r) (EvG.is (w' := (noX (p_Grid_init sizes lanes true))) (ev_makeS (fs := fun r : ((List Int) × Int × (Int × (List (Int × Int × Int))) × (List (List Int))) => [("sizes", fz K ((eT eI) r.1)), ("lanes", fz K (eI r.2.1)), ("network", fz K ((e2 eI (eT (e3 eI eI eI))) r.2.2.1)), ("places", ls K (List.map (eT eI) r.2.2.2))]) (es_f (ev_f (e := (eT eI)) sizes rfl) (es_f (ev_f (e := eI) lanes rfl) (es_f ev_bl es_nil)))) rfl) (ltb rfl) (fun grid_2 => (la_in (sb_retF (EvG.is (w' := (noX (p_table_of_lines grid_2.2.2.1 grid_2))) (ev_callS (eT (eT (eT eI))) (es_f (EvG.as (fun r : ((List Int) × Int × (Int × (List (Int × Int × Int))) × (List (List Int))) => r.2.2.1) (R' := fun r => RF _ ((e2 eI (eT (e3 eI eI eI))) r)) (EvG.bF (ev_fld (S := fun r : ((List Int) × Int × (Int × (List (Int × Int × Int))) × (List (List Int))) => fz K ((e2 eI (eT (e3 eI eI eI))) r.2.2.1)) (ev_B (S := fun r => sl_Grid T r) grid_2 (.inl rfl)) T.cl_Grid T.na_Grid_network (fun _ => (List.Mem.tail _ (List.Mem.tail _ (List.Mem.head _)))))) (fun _ => rfl)) (es_b (S := fun r => sl_AcrossLines T r) (EvG.as (fun r => r.1) (R' := fun r => RB (sl_AcrossLines T r)) (ev_makeBS (S := fun r : ((List Int) × Int × (Int × (List (Int × Int × Int))) × (List (List Int))) × Unit => sl_Grid T (r.1)) (fl := "grid") (ag := fun r : ((List Int) × Int × (Int × (List (Int × Int × Int))) × (List (List Int))) × Unit => []) (ds := fun r : ((List Int) × Int × (Int × (List (Int × Int × Int))) × (List (List Int))) × Unit => []) (fun _ _ => nm_by [] rfl (by decide +kernel)) (es_b (S := fun r => sl_Grid T r) (ev_B (S := fun r => sl_Grid T r) grid_2 (.inl rfl)) es_nil)) (fun _ => rfl)) es_nil)) (fun _ => rfl)) rfl) (fun _ => rfl))))))))))
end
end Cf
namespace Cf
open PySem PySem.Spec PyProof.Rows L2 WL GxR
section
variable {P : Program} {w : World} {K : PySem.W.Frag} [Tbs K] {mg : Str → Option Value} {base : Heap}
set_option maxHeartbeats 4000000
theorem ok_p_InOrder_init (T : Tx K mg base) : FnOk P w K mg base CX0 1 T.f_p_InOrder_init T.d_p_InOrder_init ["self", "grid"] (spI K T.o_InOrder (fun y : (((List Int) × Int × (Int × (List (Int × Int × Int))) × (List (List Int))) × Unit) × V => [Ag.b (andS (sl_Grid T (y.1.1)) y.2)]) (fun y => ret y) (fun (r : (((List Int) × Int × (Int × (List (Int × Int × Int))) × (List (List Int))) × Unit) × V) _ => [("grid", eqS r.2)])) := by
  have S := sc_p_InOrder_init
  refine fn_init (N := nn_p_InOrder_init) T.F_p_InOrder_init S (fun _ => rfl) (fun cdv A outer s H E hr => ?_)
  refine ⟨_, (pss_one (ps_fldK (K := K) rfl (pv 0) (pv 1) rfl)), ?_⟩
  rintro ⟨⟨grid, _⟩, v⟩ a
  show SimB _ _ _ _ _ _ [.sl (insA T.o_InOrder a []), .rb (andS (sl_Grid T grid) v)] (ret ((grid, ()), v))
  exact SimB.is (m' := ret ((grid, ()), v)) (sb_fld (i := 0) (a := a) (fs := []) (S := fun _ : Unit => eqS v) rfl T.cl_InOrder T.na_InOrder_grid (fun _ => nm_by [] rfl (by decide +kernel)) (show 0 < 1000 by decide) (EvG.bE (ev_B (S := fun _ : Unit => andS (sl_Grid T grid) v) () (.inr rfl))) (fun _ => (la_init (i := 0) (fs := fun r : (((List Int) × Int × (Int × (List (Int × Int × Int))) × (List (List Int))) × Unit) × V => [("grid", eqS r.2)]) (out := ((grid, ()), v)) rfl))) rfl
end
end Cf
namespace Cf
open PySem PySem.Spec PyProof.Rows L2 WL GxR
section
variable {P : Program} {w : World} {K : PySem.W.Frag} [Tbs K] {mg : Str → Option Value} {base : Heap}
set_option maxHeartbeats 4000000
theorem ok_p_Grid_is_useful (T : Tx K mg base) : FnOk P w K mg base CX0 3 T.f_p_Grid_is_useful T.d_p_Grid_is_useful ["self", "u", "d", "c"] (spN K (fun x : ((List Int) × Int × (Int × (List (Int × Int × Int))) × (List (List Int))) × Int × Int × Int × Unit => [.b (sl_Grid T (x.1)), .d (eI x.2.1), .d (eI x.2.2.1), .d (eI x.2.2.2.1)]) (fun x => p_Grid_is_useful x.1 x.2.1 x.2.2.1 x.2.2.2.1) (fun r : Bool => .fz (eB r))) := by
  have S := sc_p_Grid_is_useful
  refine fn_n (N := nn_p_Grid_is_useful) T.F_p_Grid_is_useful S (fun _ => rfl) (fun cdv A outer s H E hr => ?_)
  refine ⟨_, (pss_cons (ps_asg (pe_meth (pv 0) T.cl_Grid T.me_p_Grid_step (ok_p_Grid_step T) (hr.mono (by decide)) T.b_p_Grid_step .nil pass0 (pa_cons (pv 3) pa_nil)) (pg_tupK (n := 2) (K := K) rfl rfl (pgs_cons (pg_name (i := 4) S.nd rfl (by first | exact .inl rfl | exact .inr rfl)) (pgs_cons (pg_name (i := 5) S.nd rfl (by first | exact .inl rfl | exact .inr rfl)) pgs_nil))))
      (pss_cons (ps_set (i := 6) S.nd rfl (by first | exact .inl rfl | exact .inr rfl) (pe_op op_sub (pe_ix (ix_tupK (K := K) rfl) (pe_ix (ix_listK (K := K) rfl) (pe_fldK (K := K) rfl (pv 0) (by rfl)) (pv 2) (fun _ _ => rfl)) (pv 4) (fun _ _ => rfl)) (pe_ix (ix_tupK (K := K) rfl) (pe_ix (ix_listK (K := K) rfl) (pe_fldK (K := K) rfl (pv 0) (by rfl)) (pv 1) (fun _ _ => rfl)) (pv 4) (fun _ _ => rfl))))
      (pss_one (ps_ret (pe_cmpR op_gt (pe_op op_mul (pv 6) (pv 5)) pe_int (nomark _)))))), ?_⟩
  rintro ⟨self, u, d, c, _⟩
  show SimB _ _ _ _ _ _ [.rb (sl_Grid T self), .sl (fz K (eI u)), .sl (fz K (eI d)), .sl (fz K (eI c)), .un, .un, .un] (p_Grid_is_useful self u d c)
  unfold p_Grid_is_useful
  exact (sb_seq (sb_asg (e := (e2 eI eI)) (EvG.is (w' := (noX (p_Grid_step self c))) (ev_methS (m := "step") (ag := fun y : Int × Unit => [Ag.d (eI y.1)]) (e2 eI eI) (ev_B (S := fun r => sl_Grid T r) self (.inr rfl)) (fun _ _ => nm_by ["sizes", "lanes", "network", "places"] rfl (by decide +kernel)) (es_f (ev_f (e := eI) c rfl) es_nil) (fun _ => rfl)) rfl) (fun u1 => (tg_tup (ds := [eI (u1.1), eI (u1.2)]) (ts_cons (tg_name (ltb rfl)) (ts_cons (tg_name (ltb rfl)) ts_nil)) rfl rfl)) (fun u1 => (la_in (sb_seq (sb_set (e := eI) (EvG.is (w' := (bnd (bnd (opt (atI self.2.2.2 d)) fun x2 => opt (atI x2 (u1.1))) fun x4 => bnd (bnd (opt (atI self.2.2.2 u)) fun x3 => opt (atI x3 (u1.1))) fun x5 => ret (x4 - x5))) (ev_opF (ev_opF (ev_opLF (EvG.as (fun r : ((List Int) × Int × (Int × (List (Int × Int × Int))) × (List (List Int))) => r.2.2.2) (R' := fun r => RL _ (List.map (eT eI) r)) (EvG.bL (ev_fld (S := fun r : ((List Int) × Int × (Int × (List (Int × Int × Int))) × (List (List Int))) => ls K (List.map (eT eI) r.2.2.2)) (ev_B (S := fun r => sl_Grid T r) self (.inr rfl)) T.cl_Grid T.na_Grid_places (fun _ => (List.Mem.tail _ (List.Mem.tail _ (List.Mem.tail _ (List.Mem.head _))))))) (fun _ => rfl)) (ev_f (e := eI) d rfl) (fun _ _ => o_ixL _ _)) (ev_f (e := eI) (u1.1) rfl) (fun _ _ => o_ixT _ _)) (ev_opF (ev_opLF (EvG.as (fun r : ((List Int) × Int × (Int × (List (Int × Int × Int))) × (List (List Int))) => r.2.2.2) (R' := fun r => RL _ (List.map (eT eI) r)) (EvG.bL (ev_fld (S := fun r : ((List Int) × Int × (Int × (List (Int × Int × Int))) × (List (List Int))) => ls K (List.map (eT eI) r.2.2.2)) (ev_B (S := fun r => sl_Grid T r) self (.inr rfl)) T.cl_Grid T.na_Grid_places (fun _ => (List.Mem.tail _ (List.Mem.tail _ (List.Mem.tail _ (List.Mem.head _))))))) (fun _ => rfl)) (ev_f (e := eI) u rfl) (fun _ _ => o_ixL _ _)) (ev_f (e := eI) (u1.1) rfl) (fun _ _ => o_ixT _ _)) (fun _ _ => o_sub _ _)) (by simp only [ret_bnd, bnd_bnd, mapW_bnd, mapW_ret] <;> rfl)) (ltb rfl) (fun left_6 => (la_in (sb_retF (EvG.is (w' := (bnd (grd (CMul left_6 (u1.2)) (ret (left_6 * (u1.2)))) fun x7 => ret (decide ((0 : Int) < x7)))) (ev_opF (ev_opF (ev_f (e := eI) left_6 rfl) (ev_f (e := eI) (u1.2) rfl) (fun _ _ => o_mul _ _)) ev_int (fun _ _ => o_gt _ _)) rfl) (fun _ => rfl))))))))))
end
end Cf
namespace Cf
open PySem PySem.Spec PyProof.Rows L2 WL GxR
section
variable {P : Program} {w : World} {K : PySem.W.Frag} [Tbs K] {mg : Str → Option Value} {base : Heap}
set_option maxHeartbeats 4000000
theorem ok_p_Grid_useful (T : Tx K mg base) : FnOk P w K mg base CX0 4 T.f_p_Grid_useful T.d_p_Grid_useful ["self", "u", "d"] (spN K (fun x : ((List Int) × Int × (Int × (List (Int × Int × Int))) × (List (List Int))) × Int × Int × Unit => [.b (sl_Grid T (x.1)), .d (eI x.2.1), .d (eI x.2.2.1)]) (fun x => p_Grid_useful x.1 x.2.1 x.2.2.1) (fun r : (List Int) => .nw (ls K (List.map eI r)))) := by
  have S := sc_p_Grid_useful
  refine fn_n (N := nn_p_Grid_useful) T.F_p_Grid_useful S (fun _ => rfl) (fun cdv A outer s H E hr => ?_)
  refine ⟨_, (pss_one (ps_ret (pe_lc (own := [("c", 3)]) rfl S.nd (pi_listK (K := K) rfl (pe_call (ok_p_channels_from T) (hr.mono (by decide)) (by rfl) T.g_p_channels_from T.F_p_channels_from.kp T.b_p_channels_from .nil pass0 (pa_cons (pe_fldK (K := K) rfl (pv 0) (by rfl)) (pa_cons (pv 1) pa_nil)))) (blkOk_by (N := nn_p_Grid_useful) (sc := (defScope s_p_Grid_useful)) (own := [("c", 3)]) (by decide +kernel)) (fun _ _ _ _ _ => (pg_name (i := 3) S.nd rfl (by first | exact .inl rfl | exact .inr rfl))) (fun _ _ _ _ _ => (pts_one (pt_val (pe_meth (pv 0) T.cl_Grid T.me_p_Grid_is_useful (ok_p_Grid_is_useful T) (hr.mono (by decide)) T.b_p_Grid_is_useful .nil pass0 (pa_cons (pv 1) (pa_cons (pv 2) (pa_cons (pv 3) pa_nil))))))) (fun _ _ _ _ _ => (pv 3))))), ?_⟩
  rintro ⟨self, u, d, _⟩
  show SimB _ _ _ _ _ _ [.rb (sl_Grid T self), .sl (fz K (eI u)), .sl (fz K (eI d)), .un] (p_Grid_useful self u d)
  unfold p_Grid_useful
  exact (sb_retSS (S := fun r => ls K (List.map eI r)) (ev_lc (e := eI) (c := fun c1 => (noX (p_Grid_is_useful self u d c1))) (f := fun c1 => (ret c1)) (ItG.is (w' := (noX (p_channels_from self.2.2.1 u))) (it_list (ev_callNS (fun r => ls K (List.map eI r)) (es_f (EvG.as (fun r : ((List Int) × Int × (Int × (List (Int × Int × Int))) × (List (List Int))) => r.2.2.1) (R' := fun r => RF _ ((e2 eI (eT (e3 eI eI eI))) r)) (EvG.bF (ev_fld (S := fun r : ((List Int) × Int × (Int × (List (Int × Int × Int))) × (List (List Int))) => fz K ((e2 eI (eT (e3 eI eI eI))) r.2.2.1)) (ev_B (S := fun r => sl_Grid T r) self (.inr rfl)) T.cl_Grid T.na_Grid_network (fun _ => (List.Mem.tail _ (List.Mem.tail _ (List.Mem.head _)))))) (fun _ => rfl)) (es_f (ev_f (e := eI) u rfl) es_nil)) (fun _ => rfl))) rfl) (fun c1 => (tg_name (ltb rfl))) (fun c1 => (EvT.is (w' := (noX (p_Grid_is_useful self u d c1))) (et_B (ev_methS (m := "is_useful") (ag := fun y : Int × Int × Int × Unit => [Ag.d (eI y.1), Ag.d (eI y.2.1), Ag.d (eI y.2.2.1)]) eB (ev_B (S := fun r => sl_Grid T r) self (.inr rfl)) (fun _ _ => nm_by ["sizes", "lanes", "network", "places"] rfl (by decide +kernel)) (es_f (ev_f (e := eI) u rfl) (es_f (ev_f (e := eI) d rfl) (es_f (ev_f (e := eI) c1 rfl) es_nil))) (fun _ => rfl))) rfl)) (fun c1 => (EvG.is (w' := (ret c1)) (ev_f (e := eI) c1 rfl) rfl))) (fun _ => rfl))
end
end Cf
namespace Cf
open PySem PySem.Spec PyProof.Rows L2 WL GxR
section
variable {P : Program} {w : World} {K : PySem.W.Frag} [Tbs K] {mg : Str → Option Value} {base : Heap}
set_option maxHeartbeats 4000000
theorem ok_p_InOrder_options (T : Tx K mg base) : FnOk P w K mg base CX0 5 T.f_p_InOrder_options T.d_p_InOrder_options ["self", "u", "d"] (spN K (fun x : ((List Int) × Int × (Int × (List (Int × Int × Int))) × (List (List Int))) × Int × Int × Unit => [.b (sl_InOrder T (x.1)), .d (eI x.2.1), .d (eI x.2.2.1)]) (fun x => p_InOrder_options x.1 x.2.1 x.2.2.1) (fun r : (List Int) => .fz ((eT eI) r))) := by
  have S := sc_p_InOrder_options
  refine fn_n (N := nn_p_InOrder_options) T.F_p_InOrder_options S (fun _ => rfl) (fun cdv A outer s H E hr => ?_)
  refine ⟨_, (pss_cons (ps_set (i := 3) S.nd rfl (by first | exact .inl rfl | exact .inr rfl) (pe_fldK (K := K) rfl (pv 0) (by rfl)))
      (pss_cons (ps_set (i := 4) S.nd rfl (by first | exact .inl rfl | exact .inr rfl) (pe_call (ok_p_first_other T) (hr.mono (by decide)) (by rfl) T.g_p_first_other T.F_p_first_other.kp T.b_p_first_other .nil pass0 (pa_cons (pe_ix (ix_listK (K := K) rfl) (pe_fldK (K := K) rfl (pv 3) (by rfl)) (pv 1) (fun _ _ => rfl)) (pa_cons (pe_ix (ix_listK (K := K) rfl) (pe_fldK (K := K) rfl (pv 3) (by rfl)) (pv 2) (fun _ _ => rfl)) pa_nil))))
      (pss_cons (ps_set (i := 5) S.nd rfl (by first | exact .inl rfl | exact .inr rfl) (pe_meth (pv 3) T.cl_Grid T.me_p_Grid_useful (ok_p_Grid_useful T) (hr.mono (by decide)) T.b_p_Grid_useful .nil pass0 (pa_cons (pv 1) (pa_cons (pv 2) pa_nil))))
      (pss_one (ps_ret (pe_callTy (call_tupK (K := K) rfl) (by rfl) T.z_tuple (by decide +kernel) (pa_cons (pe_lc (own := [("c", 6)]) rfl S.nd (pi_listK (K := K) rfl (pv 5)) (blkOk_by (N := nn_p_InOrder_options) (sc := (defScope s_p_InOrder_options)) (own := [("c", 6)]) (by decide +kernel)) (fun _ _ _ _ _ => (pg_name (i := 6) S.nd rfl (by first | exact .inl rfl | exact .inr rfl))) (fun _ _ _ _ _ => (pts_one (pt_cmpR op_eq (pe_ix (ix_tupK (K := K) rfl) (pe_meth (pv 3) T.cl_Grid T.me_p_Grid_step (ok_p_Grid_step T) (hr.mono (by decide)) T.b_p_Grid_step .nil pass0 (pa_cons (pv 6) pa_nil)) pe_int (fun _ _ => rfl)) (pv 4) (nomark _)))) (fun _ _ _ _ _ => (pv 6))) pa_nil))))))), ?_⟩
  rintro ⟨self, u, d, _⟩
  show SimB _ _ _ _ _ _ [.rb (sl_InOrder T self), .sl (fz K (eI u)), .sl (fz K (eI d)), .un, .un, .un, .un] (p_InOrder_options self u d)
  unfold p_InOrder_options
  exact (sb_seq (sb_aliasF (i := 0) (S := sl_Grid T self) rfl T.cl_InOrder T.na_InOrder_grid (List.Mem.head _) (ltb rfl) (la_in (sb_seq (sb_set (e := eI) (EvG.is (w' := (bnd (opt (atI self.2.2.2 u)) fun x1 => bnd (opt (atI self.2.2.2 d)) fun x2 => noX (p_first_other x1 x2))) (ev_callS eI (es_f (ev_opLF (EvG.as (fun r : ((List Int) × Int × (Int × (List (Int × Int × Int))) × (List (List Int))) => r.2.2.2) (R' := fun r => RL _ (List.map (eT eI) r)) (EvG.bL (ev_fld (S := fun r : ((List Int) × Int × (Int × (List (Int × Int × Int))) × (List (List Int))) => ls K (List.map (eT eI) r.2.2.2)) (ev_B (S := fun r => sl_Grid T r) self (.inr rfl)) T.cl_Grid T.na_Grid_places (fun _ => (List.Mem.tail _ (List.Mem.tail _ (List.Mem.tail _ (List.Mem.head _))))))) (fun _ => rfl)) (ev_f (e := eI) u rfl) (fun _ _ => o_ixL _ _)) (es_f (ev_opLF (EvG.as (fun r : ((List Int) × Int × (Int × (List (Int × Int × Int))) × (List (List Int))) => r.2.2.2) (R' := fun r => RL _ (List.map (eT eI) r)) (EvG.bL (ev_fld (S := fun r : ((List Int) × Int × (Int × (List (Int × Int × Int))) × (List (List Int))) => ls K (List.map (eT eI) r.2.2.2)) (ev_B (S := fun r => sl_Grid T r) self (.inr rfl)) T.cl_Grid T.na_Grid_places (fun _ => (List.Mem.tail _ (List.Mem.tail _ (List.Mem.tail _ (List.Mem.head _))))))) (fun _ => rfl)) (ev_f (e := eI) d rfl) (fun _ _ => o_ixL _ _)) es_nil)) (fun _ => rfl)) rfl) (ltb rfl) (fun at_3 => (la_in (sb_seq (sb_setN (S := fun r => ls K (List.map eI r)) (EvG.is (w' := (noX (p_Grid_useful self u d))) (ev_methNS (m := "useful") (ag := fun y : Int × Int × Unit => [Ag.d (eI y.1), Ag.d (eI y.2.1)]) (fun r => ls K (List.map eI r)) (ev_B (S := fun r => sl_Grid T r) self (.inr rfl)) (fun _ _ => nm_by ["sizes", "lanes", "network", "places"] rfl (by decide +kernel)) (es_f (ev_f (e := eI) u rfl) (es_f (ev_f (e := eI) d rfl) es_nil)) (fun _ => rfl)) rfl) (ltb rfl) (fun useful_4 => (la_in (sb_retF (EvG.is (w' := (bnd (ret useful_4) fun l8 => lcG (fun c5 => (bnd (bnd (noX (p_Grid_step self c5)) fun x6 => ret x6.1) fun x7 => ret (decide (x7 = at_3)))) (fun c5 => (ret c5)) l8)) (ev_b1L (EvG.rl (ev_lc (e := eI) (c := fun c5 => (bnd (bnd (noX (p_Grid_step self c5)) fun x6 => ret x6.1) fun x7 => ret (decide (x7 = at_3)))) (f := fun c5 => (ret c5)) (ItG.is (w' := (ret useful_4)) (it_var (e := eI) useful_4 rfl) rfl) (fun c5 => (tg_name (ltb rfl))) (fun c5 => (EvT.is (w' := (bnd (bnd (noX (p_Grid_step self c5)) fun x6 => ret x6.1) fun x7 => ret (decide (x7 = at_3)))) (et_test (ev_opF (ev_ixW (e' := eI) (fun a => a.1) 0 (ev_methS (m := "step") (ag := fun y : Int × Unit => [Ag.d (eI y.1)]) (e2 eI eI) (ev_B (S := fun r => sl_Grid T r) self (.inr rfl)) (fun _ _ => nm_by ["sizes", "lanes", "network", "places"] rfl (by decide +kernel)) (es_f (ev_f (e := eI) c5 rfl) es_nil) (fun _ => rfl)) rfl (fun _ => ⟨_, rfl, rfl⟩)) (ev_f (e := eI) at_3 rfl) (fun _ _ => o_eqI _ _))) rfl)) (fun c5 => (EvG.is (w' := (ret c5)) (ev_f (e := eI) c5 rfl) rfl)))) (fun _ => c_tupL _)) (by simp only [ret_bnd, bnd_bnd, mapW_bnd, mapW_ret] <;> rfl)) (fun _ => rfl)))))))))))))
end
end Cf
namespace Cf
open PySem PySem.Spec PyProof.Rows L2 WL GxR
section
variable {P : Program} {w : World} {K : PySem.W.Frag} [Tbs K] {mg : Str → Option Value} {base : Heap}
set_option maxHeartbeats 4000000
theorem ok_p_table_of_order (T : Tx K mg base) : FnOk P w K mg base CX0 6 T.f_p_table_of T.d_p_table_of ["network", "chooser"] (spN K (fun x : (Int × (List (Int × Int × Int))) × ((List Int) × Int × (Int × (List (Int × Int × Int))) × (List (List Int))) × Unit => [.d ((e2 eI (eT (e3 eI eI eI))) x.1), .b (sl_InOrder T (x.2.1))]) (fun x => p_table_of_order x.1 x.2.1) (fun r : (List (List (List Int))) => .fz ((eT (eT (eT eI))) r))) := by
  have S := sc_p_table_of
  refine fn_n (N := nn_p_table_of) T.F_p_table_of S (fun _ => rfl) (fun cdv A outer s H E hr => ?_)
  refine ⟨_, (pss_cons (ps_set (i := 2) S.nd rfl (by first | exact .inl rfl | exact .inr rfl) (pe_lst pa_nil))
      (pss_cons (ps_for PassesOwn.never rfl (pi_range1 (by rfl) T.z_range (pa_cons (pe_ix (ix_tupK (K := K) rfl) (pv 0) pe_int (fun _ _ => rfl)) pa_nil)) (pg_name (i := 3) S.nd rfl (by first | exact .inl rfl | exact .inr rfl)) (pss_one (ps_expr (pe_bm PySem.F.plainAttrs_list PySem.F.slot_list_append PySem.F.type_list_append mt_append (pv 2) (pa_cons (pe_callTy (call_tupK (K := K) rfl) (by rfl) T.z_tuple (by decide +kernel) (pa_cons (pe_lc (own := [("d", 4)]) rfl S.nd (pi_range1 (by rfl) T.z_range (pa_cons (pe_ix (ix_tupK (K := K) rfl) (pv 0) pe_int (fun _ _ => rfl)) pa_nil)) (blkOk_by (N := nn_p_table_of) (sc := (defScope s_p_table_of)) (own := [("d", 4)]) (by decide +kernel)) (fun _ _ _ _ _ => (pg_name (i := 4) S.nd rfl (by first | exact .inl rfl | exact .inr rfl))) (fun _ _ _ _ _ => pts_nil) (fun _ _ _ _ _ => (pe_ifExp (pt_cmpR op_eq (pv 3) (pv 4) (nomark _)) (pe_tup pa_nil) (pe_meth (pv 1) T.cl_InOrder T.me_p_InOrder_options (ok_p_InOrder_options T) (hr.mono (by decide)) T.b_p_InOrder_options .nil pass0 (pa_cons (pv 3) (pa_cons (pv 4) pa_nil)))))) pa_nil)) pa_nil)))))
      (pss_one (ps_ret (pe_callTy (call_tupK (K := K) rfl) (by rfl) T.z_tuple (by decide +kernel) (pa_cons (pv 2) pa_nil)))))), ?_⟩
  rintro ⟨network, chooser, _⟩
  show SimB _ _ _ _ _ _ [.sl (fz K ((e2 eI (eT (e3 eI eI eI))) network)), .rb (sl_InOrder T chooser), .un, .un, .un] (p_table_of_order network chooser)
  unfold p_table_of_order
  exact (sb_seq (sb_setN (S := fun r => ls K (List.map (eT (eT eI)) r)) (EvG.is (w' := (ret ([] : List (List (List Int))))) (ev_lstS (fun _ => ([] : List (List (List Int)))) (eT (eT eI)) es_nil (fun _ => AllF.nil) (fun _ => rfl) (fun _ => rfl)) rfl) (ltb rfl) (fun rows_1 => (la_in (sb_seq (sb_for (S := ((List (List (List Int))))) (e := eI) (Γh := fun s3 => [.sl (fz K ((e2 eI (eT (e3 eI eI eI))) network)), .rb (sl_InOrder T chooser), .sl (ls K (List.map (eT (eT eI)) s3)), .un, .un]) rows_1 (ItG.is (w' := (grd (Rng network.1) (ret (span 0 (network.1).toNat)))) (it_range1 (ev_ixW (e' := eI) (fun a => a.1) 0 (ev_f (e := (e2 eI (eT (e3 eI eI eI)))) network rfl) rfl (fun _ => ⟨_, rfl, rfl⟩))) rfl) (fun _ h => nomatch h) (wk_mask [true, true, true, true, true] _) (fun x2 s3 => (tg_name (ltb rfl))) (fun x2 s3 kc4 => (sb_appendK (e := (eT (eT eI))) (xs := s3) rfl (EvG.is (w' := (bnd (grd (Rng network.1) (ret (span 0 (network.1).toNat))) fun l8 => lcG (fun c7 => (ret true)) (fun c7 => (sel (decide (x2 = c7)) (ret ([] : (List Int))) (noX (p_InOrder_options chooser x2 c7)))) l8)) (ev_b1L (EvG.rl (ev_lc (e := eI) (c := fun c7 => (ret true)) (f := fun c7 => (sel (decide (x2 = c7)) (ret ([] : (List Int))) (noX (p_InOrder_options chooser x2 c7)))) (ItG.is (w' := (grd (Rng network.1) (ret (span 0 (network.1).toNat)))) (it_range1 (ev_ixW (e' := eI) (fun a => a.1) 0 (ev_f (e := (e2 eI (eT (e3 eI eI eI)))) network rfl) rfl (fun _ => ⟨_, rfl, rfl⟩))) rfl) (fun c7 => (tg_name (ltb rfl))) (fun c7 => (EvT.is (w' := (ret true)) et_yes rfl)) (fun c7 => (EvG.is (w' := (sel (decide (x2 = c7)) (ret ([] : (List Int))) (noX (p_InOrder_options chooser x2 c7)))) (ev_ifF (et_test (ev_opF (ev_f (e := eI) x2 rfl) (ev_f (e := eI) c7 rfl) (fun _ _ => o_eqI _ _))) (ev_tupS (fun x => []) (eT eI) es_nil (fun _ => AllF.nil) (fun _ => rfl) (fun _ => rfl)) (ev_methS (m := "options") (ag := fun y : Int × Int × Unit => [Ag.d (eI y.1), Ag.d (eI y.2.1)]) (eT eI) (ev_B (S := fun r => sl_InOrder T r) chooser (.inr rfl)) (fun _ _ => nm_by ["grid"] rfl (by decide +kernel)) (es_f (ev_f (e := eI) x2 rfl) (es_f (ev_f (e := eI) c7 rfl) es_nil)) (fun _ => rfl))) rfl)))) (fun _ => c_tupL _)) rfl) (fun s6 => (Lands.wk (la_at s6) (wk_mask [true, true, true, false, true] _))))) (fun s3 => (la_in (sb_retF (EvG.is (w' := (ret s3)) (ev_b1L (ev_l (e := (eT (eT eI))) s3 rfl) (fun _ => c_tupL _)) rfl) (fun _ => rfl))))))))))
end
end Cf
namespace Cf
open PySem PySem.Spec PyProof.Rows L2 WL GxR
section
variable {P : Program} {w : World} {K : PySem.W.Frag} [Tbs K] {mg : Str → Option Value} {base : Heap}
set_option maxHeartbeats 4000000
theorem ok_p_dimension_order (T : Tx K mg base) : FnOk P w K mg base (L2.CX P w) 7 T.f_p_dimension_order T.d_p_dimension_order ["sizes", "lanes"] (spX K (ctOf [T.xa_NotAllowed]) (fun x : (List Int) × Int × Unit => [.d ((eT eI) x.1), .d (eI x.2.1)]) (fun x => p_dimension_order x.1 x.2.1) (fun r : (List (List (List Int))) => .fz ((eT (eT (eT eI))) r))) := by
  have S := sc_p_dimension_order
  refine fn_x (N := nn_p_dimension_order) T.F_p_dimension_order S (fun _ => rfl) (fun cdv A outer s H E hr => ?_)
  refine ⟨_, (pss_cons (ps_set (i := 2) S.nd rfl (by first | exact .inl rfl | exact .inr rfl) (pe_make T.mk_Grid (ok_p_Grid_init T) (hr.mono (by decide)) (by rfl) T.xg_Grid T.b_p_Grid_init .nil pass0 (pa_cons (pv 0) (pa_cons (pv 1) (pa_cons pe_bl pa_nil)))))
      (pss_one (ps_ret (pe_call (ok_p_table_of_order T) (hr.mono (by decide)) (by rfl) T.g_p_table_of T.F_p_table_of.kp T.b_p_table_of .nil pass0 (pa_cons (pe_fldK (K := K) rfl (pv 2) (by rfl)) (pa_cons (pe_make T.mk_InOrder (ok_p_InOrder_init T) (hr.mono (by decide)) (by rfl) T.xg_InOrder T.b_p_InOrder_init .nil pass0 (pa_cons (pv 2) pa_nil)) pa_nil)))))), ?_⟩
  rintro ⟨sizes, lanes, _⟩
  show SimB _ _ _ _ _ _ [.sl (fz K ((eT eI) sizes)), .sl (fz K (eI lanes)), .un] (p_dimension_order sizes lanes)
  unfold p_dimension_order
  exact (sb_seq (sb_setN (S := fun r => sl_Grid T r) (EvG.is (w' := (noX (p_Grid_init sizes lanes false))) (ev_makeS (fs := fun r : ((List Int) × Int × (Int × (List (Int × Int × Int))) × (List (List Int))) => [("sizes", fz K ((eT eI) r.1)), ("lanes", fz K (eI r.2.1)), ("network", fz K ((e2 eI (eT (e3 eI eI eI))) r.2.2.1)), ("places", ls K (List.map (eT eI) r.2.2.2))]) (es_f (ev_f (e := (eT eI)) sizes rfl) (es_f (ev_f (e := eI) lanes rfl) (es_f ev_bl es_nil)))) rfl) (ltb rfl) (fun grid_1 => (la_in (sb_retF (EvG.is (w' := (noX (p_table_of_order grid_1.2.2.1 grid_1))) (ev_callS (eT (eT (eT eI))) (es_f (EvG.as (fun r : ((List Int) × Int × (Int × (List (Int × Int × Int))) × (List (List Int))) => r.2.2.1) (R' := fun r => RF _ ((e2 eI (eT (e3 eI eI eI))) r)) (EvG.bF (ev_fld (S := fun r : ((List Int) × Int × (Int × (List (Int × Int × Int))) × (List (List Int))) => fz K ((e2 eI (eT (e3 eI eI eI))) r.2.2.1)) (ev_B (S := fun r => sl_Grid T r) grid_1 (.inl rfl)) T.cl_Grid T.na_Grid_network (fun _ => (List.Mem.tail _ (List.Mem.tail _ (List.Mem.head _)))))) (fun _ => rfl)) (es_b (S := fun r => sl_InOrder T r) (EvG.as (fun r => r.1) (R' := fun r => RB (sl_InOrder T r)) (ev_makeBS (S := fun r : ((List Int) × Int × (Int × (List (Int × Int × Int))) × (List (List Int))) × Unit => sl_Grid T (r.1)) (fl := "grid") (ag := fun r : ((List Int) × Int × (Int × (List (Int × Int × Int))) × (List (List Int))) × Unit => []) (ds := fun r : ((List Int) × Int × (Int × (List (Int × Int × Int))) × (List (List Int))) × Unit => []) (fun _ _ => nm_by [] rfl (by decide +kernel)) (es_b (S := fun r => sl_Grid T r) (ev_B (S := fun r => sl_Grid T r) grid_1 (.inl rfl)) es_nil)) (fun _ => rfl)) es_nil)) (fun _ => rfl)) rfl) (fun _ => rfl))))))
end
end Cf
namespace Cf
open PySem PySem.Spec PyProof.Rows L2 WL GxR
section
variable {P : Program} {w : World} {K : PySem.W.Frag} [Tbs K] {mg : Str → Option Value} {base : Heap}
set_option maxHeartbeats 4000000
theorem ok_p_InTurn_init (T : Tx K mg base) : FnOk P w K mg base CX0 1 T.f_p_InTurn_init T.d_p_InTurn_init ["self", "grid", "kind"] (spI K T.o_InTurn (fun y : (((List Int) × Int × (Int × (List (Int × Int × Int))) × (List (List Int))) × Str × Unit) × V => [Ag.b (andS (sl_Grid T (y.1.1)) y.2), Ag.d (eS y.1.2.1)]) (fun y => ret y) (fun (r : (((List Int) × Int × (Int × (List (Int × Int × Int))) × (List (List Int))) × Str × Unit) × V) _ => [("grid", eqS r.2), ("kind", fz K (eS r.1.2.1))])) := by
  have S := sc_p_InTurn_init
  refine fn_init (N := nn_p_InTurn_init) T.F_p_InTurn_init S (fun _ => rfl) (fun cdv A outer s H E hr => ?_)
  refine ⟨_, (pss_cons (ps_fldK (K := K) rfl (pv 0) (pv 1) rfl)
      (pss_one (ps_fldK (K := K) rfl (pv 0) (pv 2) rfl))), ?_⟩
  rintro ⟨⟨grid, kind, _⟩, v⟩ a
  show SimB _ _ _ _ _ _ [.sl (insA T.o_InTurn a []), .rb (andS (sl_Grid T grid) v), .sl (fz K (eS kind))] (ret ((grid, kind, ()), v))
  exact SimB.is (m' := ret ((grid, kind, ()), v)) (sb_seq (sb_fld (i := 0) (a := a) (fs := []) (S := fun _ : Unit => eqS v) rfl T.cl_InTurn T.na_InTurn_grid (fun _ => nm_by [] rfl (by decide +kernel)) (show 0 < 1000 by decide) (EvG.bE (ev_B (S := fun _ : Unit => andS (sl_Grid T grid) v) () (.inr rfl))) (fun _ => (la_in (sb_fld (i := 0) (a := a) (fs := [("grid", eqS v)]) (S := fun r => fz K (eS r)) rfl T.cl_InTurn T.na_InTurn_kind (fun _ => nm_by ["grid"] rfl (by decide +kernel)) (show 1 < 1000 by decide) (EvG.fN (EvG.is (w' := (ret kind)) (ev_f (e := eS) kind rfl) rfl)) (fun kind_1 => (la_init (i := 0) (fs := fun r : (((List Int) × Int × (Int × (List (Int × Int × Int))) × (List (List Int))) × Str × Unit) × V => [("grid", eqS r.2), ("kind", fz K (eS r.1.2.1))]) (out := ((grid, kind_1, ()), v)) rfl))))))) rfl
end
end Cf
namespace Cf
open PySem PySem.Spec PyProof.Rows L2 WL GxR
section
variable {P : Program} {w : World} {K : PySem.W.Frag} [Tbs K] {mg : Str → Option Value} {base : Heap}
set_option maxHeartbeats 4000000
theorem ok_p_InTurn_is_first (T : Tx K mg base) : FnOk P w K mg base CX0 1 T.f_p_InTurn_is_first T.d_p_InTurn_is_first ["self", "step"] (spN K (fun x : (((List Int) × Int × (Int × (List (Int × Int × Int))) × (List (List Int))) × Str) × (Int × Int) × Unit => [.b (sl_InTurn T (x.1)), .d ((e2 eI eI) x.2.1)]) (fun x => p_InTurn_is_first x.1 x.2.1) (fun r : Bool => .fz (eB r))) := by
  have S := sc_p_InTurn_is_first
  refine fn_n (N := nn_p_InTurn_is_first) T.F_p_InTurn_is_first S (fun _ => rfl) (fun cdv A outer s H E hr => ?_)
  refine ⟨_, (pss_cons (ps_if (pt_cmpR op_eq (pe_fldK (K := K) rfl (pv 0) (by rfl)) pe_str (nomark _)) (pss_one (ps_ret (pe_cmpR op_lt (pe_ix (ix_tupK (K := K) rfl) (pv 1) pe_int (fun _ _ => rfl)) pe_int (nomark _)))) pss_nil)
      (pss_cons (ps_if (pt_cmpR op_eq (pe_fldK (K := K) rfl (pv 0) (by rfl)) pe_str (nomark _)) (pss_one (ps_ret (pe_cmpR (op_eqDK (K := K) rfl hr.units) (pv 1) (pe_tup (pa_cons pe_int (pa_cons (pe_un un_neg pe_int) pa_nil))) (nomark _)))) pss_nil)
      (pss_one (ps_ret (pe_cmpR (op_neDK (K := K) rfl hr.units) (pv 1) (pe_tup (pa_cons pe_int (pa_cons pe_int pa_nil))) (nomark _)))))), ?_⟩
  rintro ⟨self, step, _⟩
  show SimB _ _ _ _ _ _ [.rb (sl_InTurn T self), .sl (fz K ((e2 eI eI) step))] (p_InTurn_is_first self step)
  unfold p_InTurn_is_first
  exact (sb_seq (sb_if (EvT.is (w' := (ret (decide (self.2 = ("negative" : Str))))) (et_test (ev_opF (EvG.as (fun r : (((List Int) × Int × (Int × (List (Int × Int × Int))) × (List (List Int))) × Str) => r.2) (R' := fun r => RF _ (eS r)) (EvG.bF (ev_fld (S := fun r : (((List Int) × Int × (Int × (List (Int × Int × Int))) × (List (List Int))) × Str) => fz K (eS r.2)) (ev_B (S := fun r => sl_InTurn T r) self (.inr rfl)) T.cl_InTurn T.na_InTurn_kind (fun _ => (List.Mem.tail _ (List.Mem.head _))))) (fun _ => rfl)) ev_str (fun _ _ => o_eqS _ _))) rfl) (sb_retF (EvG.is (w' := (ret (decide (step.2 < (0 : Int))))) (ev_opF (ev_ixW (e' := eI) (fun a => a.2) 1 (ev_f (e := (e2 eI eI)) step rfl) rfl (fun _ => ⟨_, rfl, rfl⟩)) ev_int (fun _ _ => o_lt _ _)) rfl) (fun _ => rfl)) (sb_next (la_in (sb_seq (sb_if (EvT.is (w' := (ret (decide (self.2 = ("west" : Str))))) (et_test (ev_opF (EvG.as (fun r : (((List Int) × Int × (Int × (List (Int × Int × Int))) × (List (List Int))) × Str) => r.2) (R' := fun r => RF _ (eS r)) (EvG.bF (ev_fld (S := fun r : (((List Int) × Int × (Int × (List (Int × Int × Int))) × (List (List Int))) × Str) => fz K (eS r.2)) (ev_B (S := fun r => sl_InTurn T r) self (.inr rfl)) T.cl_InTurn T.na_InTurn_kind (fun _ => (List.Mem.tail _ (List.Mem.head _))))) (fun _ => rfl)) ev_str (fun _ _ => o_eqS _ _))) rfl) (sb_retF (EvG.is (w' := (eqW ((e2 eI eI) step) ((e2 eI eI) ((1 : Int), (-(1 : Int)))))) (ev_opF (ev_f (e := (e2 eI eI)) step rfl) (ev_tupS (fun x => (x.1, x.2.1)) (e2 eI eI) (es_f ev_int (es_f (ev_un ev_int (fun _ => u_neg _)) es_nil)) (fun _ => (AllF.cons (AllF.cons AllF.nil))) (fun _ => rfl) (fun _ => rfl)) (fun _ _ => o_eqDW _ _)) rfl) (fun _ => rfl)) (sb_next (la_in (sb_retF (EvG.is (w' := (eqWN ((e2 eI eI) step) ((e2 eI eI) ((0 : Int), (1 : Int))))) (ev_opF (ev_f (e := (e2 eI eI)) step rfl) (ev_tupS (fun x => (x.1, x.2.1)) (e2 eI eI) (es_f ev_int (es_f ev_int es_nil)) (fun _ => (AllF.cons (AllF.cons AllF.nil))) (fun _ => rfl) (fun _ => rfl)) (fun _ _ => o_neDW _ _)) rfl) (fun _ => rfl))))))))))
end
end Cf
namespace Cf
open PySem PySem.Spec PyProof.Rows L2 WL GxR
section
variable {P : Program} {w : World} {K : PySem.W.Frag} [Tbs K] {mg : Str → Option Value} {base : Heap}
set_option maxHeartbeats 4000000
theorem ok_p_InTurn_options (T : Tx K mg base) : FnOk P w K mg base CX0 5 T.f_p_InTurn_options T.d_p_InTurn_options ["self", "u", "d"] (spN K (fun x : (((List Int) × Int × (Int × (List (Int × Int × Int))) × (List (List Int))) × Str) × Int × Int × Unit => [.b (sl_InTurn T (x.1)), .d (eI x.2.1), .d (eI x.2.2.1)]) (fun x => p_InTurn_options x.1 x.2.1 x.2.2.1) (fun r : (List Int) => .fz ((eT eI) r))) := by
  have S := sc_p_InTurn_options
  refine fn_n (N := nn_p_InTurn_options) T.F_p_InTurn_options S (fun _ => rfl) (fun cdv A outer s H E hr => ?_)
  refine ⟨_, (pss_cons (ps_set (i := 3) S.nd rfl (by first | exact .inl rfl | exact .inr rfl) (pe_meth (pe_fldK (K := K) rfl (pv 0) (by rfl)) T.cl_Grid T.me_p_Grid_useful (ok_p_Grid_useful T) (hr.mono (by decide)) T.b_p_Grid_useful .nil pass0 (pa_cons (pv 1) (pa_cons (pv 2) pa_nil))))
      (pss_cons (ps_setLc (i := 4) (own := [("c", 5)]) rfl S.nd rfl rfl (sw_true rfl rfl rfl (by decide +kernel)) (pi_listK (K := K) rfl (pv 3)) (blkOk_by (N := nn_p_InTurn_options) (sc := (defScope s_p_InTurn_options)) (own := [("c", 5)]) (by decide +kernel)) (fun _ _ _ _ _ => (pg_name (i := 5) S.nd rfl (by first | exact .inl rfl | exact .inr rfl))) (fun _ _ _ _ _ => (pts_one (pt_val (pe_meth (pv 0) T.cl_InTurn T.me_p_InTurn_is_first (ok_p_InTurn_is_first T) (hr.mono (by decide)) T.b_p_InTurn_is_first .nil pass0 (pa_cons (pe_meth (pe_fldK (K := K) rfl (pv 0) (by rfl)) T.cl_Grid T.me_p_Grid_step (ok_p_Grid_step T) (hr.mono (by decide)) T.b_p_Grid_step .nil pass0 (pa_cons (pv 5) pa_nil)) pa_nil))))) (fun _ _ _ _ _ => (pv 5)))
      (pss_one (ps_ret (pe_callTy (call_tupK (K := K) rfl) (by rfl) T.z_tuple (by decide +kernel) (pa_cons (pe_ifExp (pt_truthK (K := K) rfl (pv 4) (by intro _; rfl)) (pv 4) (pv 3)) pa_nil)))))), ?_⟩
  rintro ⟨self, u, d, _⟩
  show SimB _ _ _ _ _ _ [.rb (sl_InTurn T self), .sl (fz K (eI u)), .sl (fz K (eI d)), .un, .un, .un] (p_InTurn_options self u d)
  unfold p_InTurn_options
  exact (sb_seq (sb_setN (S := fun r => ls K (List.map eI r)) (EvG.is (w' := (noX (p_Grid_useful self.1 u d))) (ev_methNS (m := "useful") (ag := fun y : Int × Int × Unit => [Ag.d (eI y.1), Ag.d (eI y.2.1)]) (fun r => ls K (List.map eI r)) (EvG.as (fun r : (((List Int) × Int × (Int × (List (Int × Int × Int))) × (List (List Int))) × Str) => r.1) (R' := fun r => RB (sl_Grid T r)) (ev_fld (S := fun r : (((List Int) × Int × (Int × (List (Int × Int × Int))) × (List (List Int))) × Str) => sl_Grid T (r.1)) (ev_B (S := fun r => sl_InTurn T r) self (.inr rfl)) T.cl_InTurn T.na_InTurn_grid (fun _ => (List.Mem.head _))) (fun _ => rfl)) (fun _ _ => nm_by ["sizes", "lanes", "network", "places"] rfl (by decide +kernel)) (es_f (ev_f (e := eI) u rfl) (es_f (ev_f (e := eI) d rfl) es_nil)) (fun _ => rfl)) rfl) (ltb rfl) (fun own_1 => (la_in (sb_seq (sb_setN (S := fun r => ls K (List.map eI r)) (ev_lc (e := eI) (c := fun c2 => (bnd (noX (p_Grid_step self.1 c2)) fun x3 => noX (p_InTurn_is_first self x3))) (f := fun c2 => (ret c2)) (ItG.is (w' := (ret own_1)) (it_var (e := eI) own_1 rfl) rfl) (fun c2 => (tg_name (ltb rfl))) (fun c2 => (EvT.is (w' := (bnd (noX (p_Grid_step self.1 c2)) fun x3 => noX (p_InTurn_is_first self x3))) (et_B (ev_methS (m := "is_first") (ag := fun y : (Int × Int) × Unit => [Ag.d ((e2 eI eI) y.1)]) eB (ev_B (S := fun r => sl_InTurn T r) self (.inr rfl)) (fun _ _ => nm_by ["grid", "kind"] rfl (by decide +kernel)) (es_f (ev_methS (m := "step") (ag := fun y : Int × Unit => [Ag.d (eI y.1)]) (e2 eI eI) (EvG.as (fun r : (((List Int) × Int × (Int × (List (Int × Int × Int))) × (List (List Int))) × Str) => r.1) (R' := fun r => RB (sl_Grid T r)) (ev_fld (S := fun r : (((List Int) × Int × (Int × (List (Int × Int × Int))) × (List (List Int))) × Str) => sl_Grid T (r.1)) (ev_B (S := fun r => sl_InTurn T r) self (.inr rfl)) T.cl_InTurn T.na_InTurn_grid (fun _ => (List.Mem.head _))) (fun _ => rfl)) (fun _ _ => nm_by ["sizes", "lanes", "network", "places"] rfl (by decide +kernel)) (es_f (ev_f (e := eI) c2 rfl) es_nil) (fun _ => rfl)) es_nil) (fun _ => rfl))) rfl)) (fun c2 => (EvG.is (w' := (ret c2)) (ev_f (e := eI) c2 rfl) rfl))) (ltb rfl) (fun first_5 => (la_in (sb_retF (EvG.is (w' := (sel (!first_5.isEmpty) (ret first_5) (ret own_1))) (ev_b1L (ev_ifR (et_truL (ev_l (e := eI) first_5 rfl)) (ev_l (e := eI) first_5 rfl) (ev_l (e := eI) own_1 rfl)) (fun _ => c_tupL _)) rfl) (fun _ => rfl))))))))))
end
end Cf
namespace Cf
open PySem PySem.Spec PyProof.Rows L2 WL GxR
section
variable {P : Program} {w : World} {K : PySem.W.Frag} [Tbs K] {mg : Str → Option Value} {base : Heap}
set_option maxHeartbeats 4000000
theorem ok_p_table_of_turn (T : Tx K mg base) : FnOk P w K mg base CX0 6 T.f_p_table_of T.d_p_table_of ["network", "chooser"] (spN K (fun x : (Int × (List (Int × Int × Int))) × (((List Int) × Int × (Int × (List (Int × Int × Int))) × (List (List Int))) × Str) × Unit => [.d ((e2 eI (eT (e3 eI eI eI))) x.1), .b (sl_InTurn T (x.2.1))]) (fun x => p_table_of_turn x.1 x.2.1) (fun r : (List (List (List Int))) => .fz ((eT (eT (eT eI))) r))) := by
  have S := sc_p_table_of
  refine fn_n (N := nn_p_table_of) T.F_p_table_of S (fun _ => rfl) (fun cdv A outer s H E hr => ?_)
  refine ⟨_, (pss_cons (ps_set (i := 2) S.nd rfl (by first | exact .inl rfl | exact .inr rfl) (pe_lst pa_nil))
      (pss_cons (ps_for PassesOwn.never rfl (pi_range1 (by rfl) T.z_range (pa_cons (pe_ix (ix_tupK (K := K) rfl) (pv 0) pe_int (fun _ _ => rfl)) pa_nil)) (pg_name (i := 3) S.nd rfl (by first | exact .inl rfl | exact .inr rfl)) (pss_one (ps_expr (pe_bm PySem.F.plainAttrs_list PySem.F.slot_list_append PySem.F.type_list_append mt_append (pv 2) (pa_cons (pe_callTy (call_tupK (K := K) rfl) (by rfl) T.z_tuple (by decide +kernel) (pa_cons (pe_lc (own := [("d", 4)]) rfl S.nd (pi_range1 (by rfl) T.z_range (pa_cons (pe_ix (ix_tupK (K := K) rfl) (pv 0) pe_int (fun _ _ => rfl)) pa_nil)) (blkOk_by (N := nn_p_table_of) (sc := (defScope s_p_table_of)) (own := [("d", 4)]) (by decide +kernel)) (fun _ _ _ _ _ => (pg_name (i := 4) S.nd rfl (by first | exact .inl rfl | exact .inr rfl))) (fun _ _ _ _ _ => pts_nil) (fun _ _ _ _ _ => (pe_ifExp (pt_cmpR op_eq (pv 3) (pv 4) (nomark _)) (pe_tup pa_nil) (pe_meth (pv 1) T.cl_InTurn T.me_p_InTurn_options (ok_p_InTurn_options T) (hr.mono (by decide)) T.b_p_InTurn_options .nil pass0 (pa_cons (pv 3) (pa_cons (pv 4) pa_nil)))))) pa_nil)) pa_nil)))))
      (pss_one (ps_ret (pe_callTy (call_tupK (K := K) rfl) (by rfl) T.z_tuple (by decide +kernel) (pa_cons (pv 2) pa_nil)))))), ?_⟩
  rintro ⟨network, chooser, _⟩
  show SimB _ _ _ _ _ _ [.sl (fz K ((e2 eI (eT (e3 eI eI eI))) network)), .rb (sl_InTurn T chooser), .un, .un, .un] (p_table_of_turn network chooser)
  unfold p_table_of_turn
  exact (sb_seq (sb_setN (S := fun r => ls K (List.map (eT (eT eI)) r)) (EvG.is (w' := (ret ([] : List (List (List Int))))) (ev_lstS (fun _ => ([] : List (List (List Int)))) (eT (eT eI)) es_nil (fun _ => AllF.nil) (fun _ => rfl) (fun _ => rfl)) rfl) (ltb rfl) (fun rows_1 => (la_in (sb_seq (sb_for (S := ((List (List (List Int))))) (e := eI) (Γh := fun s3 => [.sl (fz K ((e2 eI (eT (e3 eI eI eI))) network)), .rb (sl_InTurn T chooser), .sl (ls K (List.map (eT (eT eI)) s3)), .un, .un]) rows_1 (ItG.is (w' := (grd (Rng network.1) (ret (span 0 (network.1).toNat)))) (it_range1 (ev_ixW (e' := eI) (fun a => a.1) 0 (ev_f (e := (e2 eI (eT (e3 eI eI eI)))) network rfl) rfl (fun _ => ⟨_, rfl, rfl⟩))) rfl) (fun _ h => nomatch h) (wk_mask [true, true, true, true, true] _) (fun x2 s3 => (tg_name (ltb rfl))) (fun x2 s3 kc4 => (sb_appendK (e := (eT (eT eI))) (xs := s3) rfl (EvG.is (w' := (bnd (grd (Rng network.1) (ret (span 0 (network.1).toNat))) fun l8 => lcG (fun c7 => (ret true)) (fun c7 => (sel (decide (x2 = c7)) (ret ([] : (List Int))) (noX (p_InTurn_options chooser x2 c7)))) l8)) (ev_b1L (EvG.rl (ev_lc (e := eI) (c := fun c7 => (ret true)) (f := fun c7 => (sel (decide (x2 = c7)) (ret ([] : (List Int))) (noX (p_InTurn_options chooser x2 c7)))) (ItG.is (w' := (grd (Rng network.1) (ret (span 0 (network.1).toNat)))) (it_range1 (ev_ixW (e' := eI) (fun a => a.1) 0 (ev_f (e := (e2 eI (eT (e3 eI eI eI)))) network rfl) rfl (fun _ => ⟨_, rfl, rfl⟩))) rfl) (fun c7 => (tg_name (ltb rfl))) (fun c7 => (EvT.is (w' := (ret true)) et_yes rfl)) (fun c7 => (EvG.is (w' := (sel (decide (x2 = c7)) (ret ([] : (List Int))) (noX (p_InTurn_options chooser x2 c7)))) (ev_ifF (et_test (ev_opF (ev_f (e := eI) x2 rfl) (ev_f (e := eI) c7 rfl) (fun _ _ => o_eqI _ _))) (ev_tupS (fun x => []) (eT eI) es_nil (fun _ => AllF.nil) (fun _ => rfl) (fun _ => rfl)) (ev_methS (m := "options") (ag := fun y : Int × Int × Unit => [Ag.d (eI y.1), Ag.d (eI y.2.1)]) (eT eI) (ev_B (S := fun r => sl_InTurn T r) chooser (.inr rfl)) (fun _ _ => nm_by ["grid", "kind"] rfl (by decide +kernel)) (es_f (ev_f (e := eI) x2 rfl) (es_f (ev_f (e := eI) c7 rfl) es_nil)) (fun _ => rfl))) rfl)))) (fun _ => c_tupL _)) rfl) (fun s6 => (Lands.wk (la_at s6) (wk_mask [true, true, true, false, true] _))))) (fun s3 => (la_in (sb_retF (EvG.is (w' := (ret s3)) (ev_b1L (ev_l (e := (eT (eT eI))) s3 rfl) (fun _ => c_tupL _)) rfl) (fun _ => rfl))))))))))
end
end Cf
namespace Cf
open PySem PySem.Spec PyProof.Rows L2 WL GxR
section
variable {P : Program} {w : World} {K : PySem.W.Frag} [Tbs K] {mg : Str → Option Value} {base : Heap}
set_option maxHeartbeats 4000000
theorem ok_p_table_in_turn (T : Tx K mg base) : FnOk P w K mg base CX0 7 T.f_p_table_in_turn T.d_p_table_in_turn ["sizes", "lanes", "kind"] (spN K (fun x : (List Int) × Int × Str × Unit => [.d ((eT eI) x.1), .d (eI x.2.1), .d (eS x.2.2.1)]) (fun x => p_table_in_turn x.1 x.2.1 x.2.2.1) (fun r : (List (List (List Int))) => .fz ((eT (eT (eT eI))) r))) := by
  have S := sc_p_table_in_turn
  refine fn_n (N := nn_p_table_in_turn) T.F_p_table_in_turn S (fun _ => rfl) (fun cdv A outer s H E hr => ?_)
  refine ⟨_, (pss_cons (ps_set (i := 3) S.nd rfl (by first | exact .inl rfl | exact .inr rfl) (pe_make T.mk_Grid (ok_p_Grid_init T) (hr.mono (by decide)) (by rfl) T.xg_Grid T.b_p_Grid_init .nil pass0 (pa_cons (pv 0) (pa_cons (pv 1) (pa_cons pe_bl pa_nil)))))
      (pss_one (ps_ret (pe_call (ok_p_table_of_turn T) (hr.mono (by decide)) (by rfl) T.g_p_table_of T.F_p_table_of.kp T.b_p_table_of .nil pass0 (pa_cons (pe_fldK (K := K) rfl (pv 3) (by rfl)) (pa_cons (pe_make T.mk_InTurn (ok_p_InTurn_init T) (hr.mono (by decide)) (by rfl) T.xg_InTurn T.b_p_InTurn_init .nil pass0 (pa_cons (pv 3) (pa_cons (pv 2) pa_nil))) pa_nil)))))), ?_⟩
  rintro ⟨sizes, lanes, kind, _⟩
  show SimB _ _ _ _ _ _ [.sl (fz K ((eT eI) sizes)), .sl (fz K (eI lanes)), .sl (fz K (eS kind)), .un] (p_table_in_turn sizes lanes kind)
  unfold p_table_in_turn
  exact (sb_seq (sb_setN (S := fun r => sl_Grid T r) (EvG.is (w' := (noX (p_Grid_init sizes lanes false))) (ev_makeS (fs := fun r : ((List Int) × Int × (Int × (List (Int × Int × Int))) × (List (List Int))) => [("sizes", fz K ((eT eI) r.1)), ("lanes", fz K (eI r.2.1)), ("network", fz K ((e2 eI (eT (e3 eI eI eI))) r.2.2.1)), ("places", ls K (List.map (eT eI) r.2.2.2))]) (es_f (ev_f (e := (eT eI)) sizes rfl) (es_f (ev_f (e := eI) lanes rfl) (es_f ev_bl es_nil)))) rfl) (ltb rfl) (fun grid_1 => (la_in (sb_retF (EvG.is (w' := (noX (p_table_of_turn grid_1.2.2.1 (grid_1, kind)))) (ev_callS (eT (eT (eT eI))) (es_f (EvG.as (fun r : ((List Int) × Int × (Int × (List (Int × Int × Int))) × (List (List Int))) => r.2.2.1) (R' := fun r => RF _ ((e2 eI (eT (e3 eI eI eI))) r)) (EvG.bF (ev_fld (S := fun r : ((List Int) × Int × (Int × (List (Int × Int × Int))) × (List (List Int))) => fz K ((e2 eI (eT (e3 eI eI eI))) r.2.2.1)) (ev_B (S := fun r => sl_Grid T r) grid_1 (.inl rfl)) T.cl_Grid T.na_Grid_network (fun _ => (List.Mem.tail _ (List.Mem.tail _ (List.Mem.head _)))))) (fun _ => rfl)) (es_b (S := fun r => sl_InTurn T r) (EvG.as (fun r => (r.1, r.2.1)) (R' := fun r => RB (sl_InTurn T r)) (ev_makeBS (S := fun r : ((List Int) × Int × (Int × (List (Int × Int × Int))) × (List (List Int))) × Str × Unit => sl_Grid T (r.1)) (fl := "grid") (ag := fun r : ((List Int) × Int × (Int × (List (Int × Int × Int))) × (List (List Int))) × Str × Unit => [.d (eS r.2.1)]) (ds := fun r : ((List Int) × Int × (Int × (List (Int × Int × Int))) × (List (List Int))) × Str × Unit => [("kind", fz K (eS r.2.1))]) (fun _ _ => nm_by ["kind"] rfl (by decide +kernel)) (es_b (S := fun r => sl_Grid T r) (ev_B (S := fun r => sl_Grid T r) grid_1 (.inl rfl)) (es_f (ev_f (e := eS) kind rfl) es_nil))) (fun _ => rfl)) es_nil)) (fun _ => rfl)) rfl) (fun _ => rfl))))))
end
end Cf
namespace Cf
open PySem PySem.Spec PyProof.Rows L2 WL GxR
section
variable {P : Program} {w : World} {K : PySem.W.Frag} [Tbs K] {mg : Str → Option Value} {base : Heap}
set_option maxHeartbeats 4000000
theorem ok_p_negative_first (T : Tx K mg base) : FnOk P w K mg base (L2.CX P w) 8 T.f_p_negative_first T.d_p_negative_first ["sizes", "lanes"] (spX K (ctOf [T.xa_NotAllowed]) (fun x : (List Int) × Int × Unit => [.d ((eT eI) x.1), .d (eI x.2.1)]) (fun x => p_negative_first x.1 x.2.1) (fun r : (List (List (List Int))) => .fz ((eT (eT (eT eI))) r))) := by
  have S := sc_p_negative_first
  refine fn_x (N := nn_p_negative_first) T.F_p_negative_first S (fun _ => rfl) (fun cdv A outer s H E hr => ?_)
  refine ⟨_, (pss_one (ps_ret (pe_call (ok_p_table_in_turn T) (hr.mono (by decide)) (by rfl) T.g_p_table_in_turn T.F_p_table_in_turn.kp T.b_p_table_in_turn .nil pass0 (pa_cons (pv 0) (pa_cons (pv 1) (pa_cons pe_str pa_nil)))))), ?_⟩
  rintro ⟨sizes, lanes, _⟩
  show SimB _ _ _ _ _ _ [.sl (fz K ((eT eI) sizes)), .sl (fz K (eI lanes))] (p_negative_first sizes lanes)
  unfold p_negative_first
  exact (sb_retF (EvG.is (w' := (noX (p_table_in_turn sizes lanes ("negative" : Str)))) (ev_callS (eT (eT (eT eI))) (es_f (ev_f (e := (eT eI)) sizes rfl) (es_f (ev_f (e := eI) lanes rfl) (es_f ev_str es_nil))) (fun _ => rfl)) rfl) (fun _ => rfl))
end
end Cf
namespace Cf
open PySem PySem.Spec PyProof.Rows L2 WL GxR
section
variable {P : Program} {w : World} {K : PySem.W.Frag} [Tbs K] {mg : Str → Option Value} {base : Heap}
set_option maxHeartbeats 4000000
theorem ok_p_check_two (T : Tx K mg base) : FnOk P w K mg base (L2.CX P w) 1 T.f_p_check_two T.d_p_check_two ["sizes"] (spX K (ctOf [T.xa_NotAllowed]) (fun x : (List Int) × Unit => [.d ((eT eI) x.1)]) (fun x => p_check_two x.1) (fun r : Unit => .fz (eU r))) := by
  have S := sc_p_check_two
  refine fn_x (N := nn_p_check_two) T.F_p_check_two S (fun _ => rfl) (fun cdv A outer s H E hr => ?_)
  refine ⟨_, (pss_one (ps_if (pt_cmpR op_ne (pe_callB (call_lenK (K := K) rfl) (by rfl) T.z_len (by decide +kernel) (pa_cons (pv 0) pa_nil)) pe_int (nomark _)) (pss_one (ps_raiseC (K := K) rfl T.xc_NotAllowed rfl (takes_of rfl rfl rfl rfl) (by exact rfl))) pss_nil)), ?_⟩
  rintro ⟨sizes, _⟩
  show SimB _ _ _ _ _ _ [.sl (fz K ((eT eI) sizes))] (p_check_two sizes)
  unfold p_check_two
  exact (sb_if (EvT.is (w' := (ret (!decide ((sizes.length : Int) = (2 : Int))))) (et_test (ev_opF (ev_b1F (ev_f (e := (eT eI)) sizes rfl) (fun _ => c_lenT _)) ev_int (fun _ _ => o_neI _ _))) rfl) (sb_raise 0 rfl) (sb_next (la_end (out := ()) rfl)))
end
end Cf
namespace Cf
open PySem PySem.Spec PyProof.Rows L2 WL GxR
section
variable {P : Program} {w : World} {K : PySem.W.Frag} [Tbs K] {mg : Str → Option Value} {base : Heap}
set_option maxHeartbeats 4000000
theorem ok_p_north_last (T : Tx K mg base) : FnOk P w K mg base (L2.CX P w) 8 T.f_p_north_last T.d_p_north_last ["sizes", "lanes"] (spX K (ctOf [T.xa_NotAllowed]) (fun x : (List Int) × Int × Unit => [.d ((eT eI) x.1), .d (eI x.2.1)]) (fun x => p_north_last x.1 x.2.1) (fun r : (List (List (List Int))) => .fz ((eT (eT (eT eI))) r))) := by
  have S := sc_p_north_last
  refine fn_x (N := nn_p_north_last) T.F_p_north_last S (fun _ => rfl) (fun cdv A outer s H E hr => ?_)
  refine ⟨_, (pss_cons (ps_expr (pe_callS (ok_p_check_two T) (hr.mono (by decide)) (by rfl) T.g_p_check_two T.F_p_check_two.kp T.b_p_check_two (fun σ => passAt (takes_of rfl rfl rfl rfl) σ) (pa_cons (pv 0) pa_nil)))
      (pss_one (ps_ret (pe_call (ok_p_table_in_turn T) (hr.mono (by decide)) (by rfl) T.g_p_table_in_turn T.F_p_table_in_turn.kp T.b_p_table_in_turn .nil pass0 (pa_cons (pv 0) (pa_cons (pv 1) (pa_cons pe_str pa_nil))))))), ?_⟩
  rintro ⟨sizes, lanes, _⟩
  show SimB _ _ _ _ _ _ [.sl (fz K ((eT eI) sizes)), .sl (fz K (eI lanes))] (p_north_last sizes lanes)
  unfold p_north_last
  exact (sb_seq (sb_drop (EvG.is (w' := (p_check_two sizes)) (ev_callXS eU (es_f (ev_f (e := (eT eI)) sizes rfl) es_nil) (fun _ => rfl)) rfl) (fun u1 => (la_in (sb_retF (EvG.is (w' := (noX (p_table_in_turn sizes lanes ("north" : Str)))) (ev_callS (eT (eT (eT eI))) (es_f (ev_f (e := (eT eI)) sizes rfl) (es_f (ev_f (e := eI) lanes rfl) (es_f ev_str es_nil))) (fun _ => rfl)) rfl) (fun _ => rfl))))))
end
end Cf
namespace Cf
open PySem PySem.Spec PyProof.Rows L2 WL GxR
section
variable {P : Program} {w : World} {K : PySem.W.Frag} [Tbs K] {mg : Str → Option Value} {base : Heap}
set_option maxHeartbeats 4000000
theorem ok_p_west_first (T : Tx K mg base) : FnOk P w K mg base (L2.CX P w) 8 T.f_p_west_first T.d_p_west_first ["sizes", "lanes"] (spX K (ctOf [T.xa_NotAllowed]) (fun x : (List Int) × Int × Unit => [.d ((eT eI) x.1), .d (eI x.2.1)]) (fun x => p_west_first x.1 x.2.1) (fun r : (List (List (List Int))) => .fz ((eT (eT (eT eI))) r))) := by
  have S := sc_p_west_first
  refine fn_x (N := nn_p_west_first) T.F_p_west_first S (fun _ => rfl) (fun cdv A outer s H E hr => ?_)
  refine ⟨_, (pss_cons (ps_expr (pe_callS (ok_p_check_two T) (hr.mono (by decide)) (by rfl) T.g_p_check_two T.F_p_check_two.kp T.b_p_check_two (fun σ => passAt (takes_of rfl rfl rfl rfl) σ) (pa_cons (pv 0) pa_nil)))
      (pss_one (ps_ret (pe_call (ok_p_table_in_turn T) (hr.mono (by decide)) (by rfl) T.g_p_table_in_turn T.F_p_table_in_turn.kp T.b_p_table_in_turn .nil pass0 (pa_cons (pv 0) (pa_cons (pv 1) (pa_cons pe_str pa_nil))))))), ?_⟩
  rintro ⟨sizes, lanes, _⟩
  show SimB _ _ _ _ _ _ [.sl (fz K ((eT eI) sizes)), .sl (fz K (eI lanes))] (p_west_first sizes lanes)
  unfold p_west_first
  exact (sb_seq (sb_drop (EvG.is (w' := (p_check_two sizes)) (ev_callXS eU (es_f (ev_f (e := (eT eI)) sizes rfl) es_nil) (fun _ => rfl)) rfl) (fun u1 => (la_in (sb_retF (EvG.is (w' := (noX (p_table_in_turn sizes lanes ("west" : Str)))) (ev_callS (eT (eT (eT eI))) (es_f (ev_f (e := (eT eI)) sizes rfl) (es_f (ev_f (e := eI) lanes rfl) (es_f ev_str es_nil))) (fun _ => rfl)) rfl) (fun _ => rfl))))))
end
end Cf
namespace Cf
open PySem PySem.Spec PyProof.Rows L2 WL GxR
section
variable {P : Program} {w : World} {K : PySem.W.Frag} [Tbs K] {mg : Str → Option Value} {base : Heap}
set_option maxHeartbeats 4000000
theorem ok_l_told25 (T : Tx K mg base) : FnOk P w K mg base CX0 9 T.f_l_told25 T.d_l_told25 ["_law_word", "_law_sizes_here", "_law_lanes"] (spN K (fun x : Str × (List Int) × Int × Unit => [.d (eS x.1), .d ((eT eI) x.2.1), .d (eI x.2.2.1)]) (fun x => l_told25 x.1 x.2.1 x.2.2.1) (fun r : (Option (List (List (List Int)))) => .fz ((eO (eT (eT (eT eI)))) r))) := by
  have S := sc_l_told25
  refine fn_n (N := nn_l_told25) T.F_l_told25 S (fun _ => rfl) (fun cdv A outer s H E hr => ?_)
  refine ⟨_, (pss_one (ps_tryO (K := K) rfl rfl rfl ⟨by exact rfl, by decide, Or.inl T.xc_NotAllowed.g⟩ (fun W pn xe tk => (pss_cons (ps_if (pt_cmpR op_eq (pv 0) pe_str (nomark _)) (pss_one (ps_ret (pe_callS (ok_p_dimension_order T) (hr.mono (by decide)) (by rfl) T.g_p_dimension_order T.F_p_dimension_order.kp T.b_p_dimension_order (fun σ => passAt tk σ) (pa_cons (pv 1) (pa_cons (pv 2) pa_nil))))) pss_nil)
      (pss_cons (ps_if (pt_cmpR op_eq (pv 0) pe_str (nomark _)) (pss_one (ps_ret (pe_callS (ok_p_dateline T) (hr.mono (by decide)) (by rfl) T.g_p_dateline T.F_p_dateline.kp T.b_p_dateline (fun σ => passAt tk σ) (pa_cons (pv 1) (pa_cons (pv 2) pa_nil))))) pss_nil)
      (pss_cons (ps_if (pt_cmpR op_eq (pv 0) pe_str (nomark _)) (pss_one (ps_ret (pe_callS (ok_p_negative_first T) (hr.mono (by decide)) (by rfl) T.g_p_negative_first T.F_p_negative_first.kp T.b_p_negative_first (fun σ => passAt tk σ) (pa_cons (pv 1) (pa_cons (pv 2) pa_nil))))) pss_nil)
      (pss_one (ps_ret (pe_ifExp (pt_cmpR op_eq (pv 0) pe_str (nomark _)) (pe_callS (ok_p_west_first T) (hr.mono (by decide)) (by rfl) T.g_p_west_first T.F_p_west_first.kp T.b_p_west_first (fun σ => passAt tk σ) (pa_cons (pv 1) (pa_cons (pv 2) pa_nil))) (pe_callS (ok_p_north_last T) (hr.mono (by decide)) (by rfl) T.g_p_north_last T.F_p_north_last.kp T.b_p_north_last (fun σ => passAt tk σ) (pa_cons (pv 1) (pa_cons (pv 2) pa_nil)))))))))) (fun _ _ _ => (pss_one (ps_ret pe_non))))), ?_⟩
  rintro ⟨word, sizes_here, lanes, _⟩
  show SimB _ _ _ _ _ _ [.sl (fz K (eS word)), .sl (fz K ((eT eI) sizes_here)), .sl (fz K (eI lanes))] (l_told25 word sizes_here lanes)
  unfold l_told25
  exact (SimB.is (m' := tryW (bnd (ret (decide (word = ("order" : Str)))) fun b1 => sel b1
  (bnd (p_dimension_order sizes_here lanes) fun y => ret (some y))
  (bnd (ret (decide (word = ("dateline" : Str)))) fun b2 => sel b2
  (bnd (p_dateline sizes_here lanes) fun y => ret (some y))
  (bnd (ret (decide (word = ("negative" : Str)))) fun b3 => sel b3
  (bnd (p_negative_first sizes_here lanes) fun y => ret (some y))
  (sel (decide (word = ("west" : Str))) (bnd (p_west_first sizes_here lanes) fun y => ret (some y)) (bnd (p_north_last sizes_here lanes) fun y => ret (some y)))))) (ret (none : (Option (List (List (List Int))))))) (sb_tryO (ct := ctOf [T.xa_NotAllowed]) (af_cons fe_fz (af_cons fe_fz (af_cons fe_fz af_nil))) (fun _ => ⟨_, rfl⟩) (ct1 T.xc_NotAllowed.e) (WInv.eq (wi_if (wi_if (wi_if wi_ife)))) (fun E' => (sb_seq (sb_if (EvT.is (w' := (ret (decide (word = ("order" : Str))))) (et_test (ev_opF (ev_f (e := eS) word rfl) ev_str (fun _ _ => o_eqS _ _))) rfl) (sb_retF (EvG.is (w' := (bnd (p_dimension_order sizes_here lanes) fun y => ret (some y))) (ev_some (ev_callXS (eT (eT (eT eI))) (es_f (ev_f (e := (eT eI)) sizes_here rfl) (es_f (ev_f (e := eI) lanes rfl) es_nil)) (fun _ => rfl))) rfl) (fun _ => rfl)) (sb_next (la_in (sb_seq (sb_if (EvT.is (w' := (ret (decide (word = ("dateline" : Str))))) (et_test (ev_opF (ev_f (e := eS) word rfl) ev_str (fun _ _ => o_eqS _ _))) rfl) (sb_retF (EvG.is (w' := (bnd (p_dateline sizes_here lanes) fun y => ret (some y))) (ev_some (ev_callXS (eT (eT (eT eI))) (es_f (ev_f (e := (eT eI)) sizes_here rfl) (es_f (ev_f (e := eI) lanes rfl) es_nil)) (fun _ => rfl))) rfl) (fun _ => rfl)) (sb_next (la_in (sb_seq (sb_if (EvT.is (w' := (ret (decide (word = ("negative" : Str))))) (et_test (ev_opF (ev_f (e := eS) word rfl) ev_str (fun _ _ => o_eqS _ _))) rfl) (sb_retF (EvG.is (w' := (bnd (p_negative_first sizes_here lanes) fun y => ret (some y))) (ev_some (ev_callXS (eT (eT (eT eI))) (es_f (ev_f (e := (eT eI)) sizes_here rfl) (es_f (ev_f (e := eI) lanes rfl) es_nil)) (fun _ => rfl))) rfl) (fun _ => rfl)) (sb_next (la_in (sb_retF (EvG.is (w' := (sel (decide (word = ("west" : Str))) (bnd (p_west_first sizes_here lanes) fun y => ret (some y)) (bnd (p_north_last sizes_here lanes) fun y => ret (some y)))) (ev_ifF (et_test (ev_opF (ev_f (e := eS) word rfl) ev_str (fun _ _ => o_eqS _ _))) (ev_some (ev_callXS (eT (eT (eT eI))) (es_f (ev_f (e := (eT eI)) sizes_here rfl) (es_f (ev_f (e := eI) lanes rfl) es_nil)) (fun _ => rfl))) (ev_some (ev_callXS (eT (eT (eT eI))) (es_f (ev_f (e := (eT eI)) sizes_here rfl) (es_f (ev_f (e := eI) lanes rfl) es_nil)) (fun _ => rfl)))) rfl) (fun _ => rfl))))))))))))))) (sb_retF (EvG.is (w' := (ret (none : (Option (List (List (List Int))))))) (ev_nonO (e := (eT (eT (eT eI))))) rfl) (fun _ => rfl))) rfl)
end
end Cf
namespace Cf
open PySem PySem.Spec PyProof.Rows L2 WL GxR
section
variable {P : Program} {w : World} {K : PySem.W.Frag} [Tbs K] {mg : Str → Option Value} {base : Heap}
set_option maxHeartbeats 4000000
theorem ok_law25 (T : Tx K mg base) (hm : law25 (fun b => b = true) (fun _ => False)) : FnOk P w K mg base CX0 10 T.f_law25 T.d_law25 ["_law_script"] (spLawT K T.Ps) := by
  have S := sc_law25
  refine T.F_law25.ok S (fun vs H Q E h => by obtain ⟨p, ns, rfl, _⟩ := h; rfl) (fun cdv A outer s H vs Q E hr h => ?_)
  obtain ⟨p, ns, rfl, hs, hT, q⟩ := h
  refine ⟨_, (pss_cons (ps_set (i := 1) S.nd rfl (by first | exact .inl rfl | exact .inr rfl) (pe_call (ok_l_tape T) (hr.mono (by decide)) (by rfl) T.g_l_tape T.F_l_tape.kp T.b_l_tape .nil pass0 (pa_cons (pv 0) (pa_cons pe_int pa_nil))))
    (pss_cons (ps_set (i := 2) S.nd rfl (by first | exact .inl rfl | exact .inr rfl) (pe_call (ok_l_sizes25 T) (hr.mono (by decide)) (by rfl) T.g_l_sizes25 T.F_l_sizes25.kp T.b_l_sizes25 .nil pass0 (pa_cons (pv 1) (pa_cons (pe_ix (ix_listK (K := K) rfl) (pe_lst (pa_cons pe_int (pa_cons pe_int (pa_cons pe_int (pa_cons pe_int (pa_cons pe_int pa_nil)))))) (pe_call (ok_l_take T) (hr.mono (by decide)) (by rfl) T.g_l_take T.F_l_take.kp T.b_l_take .nil pass0 (pa_cons (pv 1) (pa_cons pe_int pa_nil))) (fun _ _ => rfl)) pa_nil))))
      (pss_cons (ps_set (i := 3) S.nd rfl (by first | exact .inl rfl | exact .inr rfl) (pe_op op_add pe_int (pe_call (ok_l_take T) (hr.mono (by decide)) (by rfl) T.g_l_take T.F_l_take.kp T.b_l_take .nil pass0 (pa_cons (pv 1) (pa_cons pe_int pa_nil)))))
      (pss_cons (ps_for PassesOwn.never rfl (pi_listK (K := K) rfl (pe_lst (pa_cons pe_str (pa_cons pe_str (pa_cons pe_str (pa_cons pe_str (pa_cons pe_str pa_nil))))))) (pg_name (i := 4) S.nd rfl (by first | exact .inl rfl | exact .inr rfl)) (pss_cons (ps_set (i := 5) S.nd rfl (by first | exact .inl rfl | exact .inr rfl) (pe_call (ok_l_table T) (hr.mono (by decide)) (by rfl) T.g_l_table T.F_l_table.kp T.b_l_table .nil pass0 (pa_cons (pv 4) (pa_cons (pv 2) (pa_cons (pv 3) pa_nil)))))
      (pss_cons (ps_if (PW.pt (pw_or (PW.pt (pw_and (pt_cmpR op_eq (pv 4) pe_str (nomark _)) (pw_and1 (pt_cmpR op_eq (pv 3) pe_int (nomark _))))) (pw_or1 (PW.pt (pw_and (pt_cmpR (op_inTDK (K := K) rfl (units65 hr)) (pv 4) (pe_tup (pa_cons pe_str (pa_cons pe_str pa_nil))) (by rfl)) (pw_and1 (pt_cmpR op_ne (pe_callB (call_lenK (K := K) rfl) (by rfl) T.z_len (by decide +kernel) (pa_cons (pv 2) pa_nil)) pe_int (nomark _)))))))) (pss_one (ps_set (i := 5) S.nd rfl (by first | exact .inl rfl | exact .inr rfl) pe_non)) pss_nil)
      (pss_one (ps_if (pt_cmpR (op_neDK (K := K) rfl hr.units) (pe_call (ok_l_told25 T) (hr.mono (by decide)) (by rfl) T.g_l_told25 T.F_l_told25.kp T.b_l_told25 .nil pass0 (pa_cons (pv 4) (pa_cons (pv 2) (pa_cons (pv 3) pa_nil)))) (pv 5) (nomark _)) (pss_one (ps_ret pe_bl)) pss_nil)))))
      (pss_one (ps_ret (pe_and (pe_call (ok_l_shortest_fine T) (hr.mono (by decide)) (by rfl) T.g_l_shortest_fine T.F_l_shortest_fine.kp T.b_l_shortest_fine .nil pass0 (pa_cons (pe_call (ok_l_drawn_network T) (hr.mono (by decide)) (by rfl) T.g_l_drawn_network T.F_l_drawn_network.kp T.b_l_drawn_network .nil pass0 (pa_cons (pv 1) (pa_cons pe_int (pa_cons pe_int pa_nil)))) pa_nil)) (pe_one (pe_call (ok_l_shortest_fine T) (hr.mono (by decide)) (by rfl) T.g_l_shortest_fine T.F_l_shortest_fine.kp T.b_l_shortest_fine .nil pass0 (pa_cons (pe_call (ok_l_network T) (hr.mono (by decide)) (by rfl) T.g_l_network T.F_l_network.kp T.b_l_network .nil pass0 (pa_cons (pv 2) (pa_cons (pv 3) (pa_cons pe_bl (pa_cons pe_int pa_nil))))) pa_nil)))))))))), ?_⟩
  refine seq_via (fun σ' H' => ∃ a fq, σ' = some (.ref p) :: some (.ref a) :: List.replicate 4 none ∧ (tpG tape1 T.Ps).own H' (.ref a) fq ∧ ∀ P ∈ T.Ps, HasTab P ((tpG tape1 T.Ps), .ref a, fq)) (fun N hN => ⟨_, rfl, p, ns, (0 : Int), rfl, hs, fun H' a b k ho => hN _ _ ⟨a, _, rfl, tape1_tabs hT k ho⟩⟩) ?_
  rintro σ' H' ⟨a, fq, rfl, ho, hP⟩
  refine law_runS (S := (tpG tape1 T.Ps)) (K := K) (n := 4) (m := law25) ?_ hm (T.tba _ hP) ho q
  show SimB _ _ _ _ _ _ [.un, .tp (tpG tape1 T.Ps), .un, .un, .un, .un] (law25)
  unfold law25
  exact (sb_seq (sb_set (e := (eT eI)) (EvG.is (w' := (bnd (bnd (noX (l_take (5 : Int))) fun x1 => opt (atI [(1 : Int), (2 : Int), (2 : Int), (2 : Int), (3 : Int)] x1)) fun x2 => noX (l_sizes25 x2))) (ev_callS (eT eI) (es_t (ev_t (S := (tpG tape1 T.Ps)) rfl) (es_f (ev_opLF (EvG.rl (ev_lstS (fun x => [x.1, x.2.1, x.2.2.1, x.2.2.2.1, x.2.2.2.2.1]) eI (es_f ev_int (es_f ev_int (es_f ev_int (es_f ev_int (es_f ev_int es_nil))))) (fun _ => (AllF.cons (AllF.cons (AllF.cons (AllF.cons (AllF.cons AllF.nil)))))) (fun _ => rfl) (fun _ => rfl))) (ev_callS eI (es_t (ev_t (S := (tpG tape1 T.Ps)) rfl) (es_f ev_int es_nil)) (fun _ => rfl)) (fun _ _ => o_ixL _ _)) es_nil)) (fun _ => rfl)) (by first | rfl | (simp only [ret_bnd, bnd_bnd, mapW_bnd, mapW_ret] <;> rfl))) (ltb rfl) (fun sizes_here_3 => (la_in (sb_seq (sb_set (e := eI) (EvG.is (w' := (bnd (noX (l_take (3 : Int))) fun x4 => ret ((1 : Int) + x4))) (ev_opF ev_int (ev_callS eI (es_t (ev_t (S := (tpG tape1 T.Ps)) rfl) (es_f ev_int es_nil)) (fun _ => rfl)) (fun _ _ => o_add _ _)) rfl) (ltb rfl) (fun lanes_5 => (la_in (sb_seq (sb_for (S := Unit) (e := eS) (Γh := fun s7 => [.un, .tp (tpG tape1 T.Ps), .sl (fz K ((eT eI) sizes_here_3)), .sl (fz K (eI lanes_5)), .un, .un]) () (ItG.is (w' := (ret [("order" : Str), ("dateline" : Str), ("negative" : Str), ("west" : Str), ("north" : Str)])) (it_list (ev_lstS (fun x => [x.1, x.2.1, x.2.2.1, x.2.2.2.1, x.2.2.2.2.1]) eS (es_f ev_str (es_f ev_str (es_f ev_str (es_f ev_str (es_f ev_str es_nil))))) (fun _ => (AllF.cons (AllF.cons (AllF.cons (AllF.cons (AllF.cons AllF.nil)))))) (fun _ => rfl) (fun _ => rfl))) rfl) (fun _ h => nomatch h) (wk_mask [true, true, true, true, true, true] _) (fun x6 s7 => (tg_name (ltb rfl))) (fun x6 s7 kc8 => (sb_seq (sb_set (e := (eO (eT (eT (eT eI))))) (EvG.is (w' := (bnd (noX (l_table x6 sizes_here_3 lanes_5)) fun y => ret (some y))) (ev_some (ev_callS (eT (eT (eT eI))) (es_f (ev_f (e := eS) x6 rfl) (es_f (ev_f (e := (eT eI)) sizes_here_3 rfl) (es_f (ev_f (e := eI) lanes_5 rfl) es_nil))) (fun _ => rfl))) rfl) (ltb rfl) (fun due_10 => (la_in (sb_join (S := ((Option (List (List (List Int)))))) (Γf := fun s14 => [.un, .tp (tpG tape1 T.Ps), .sl (fz K ((eT eI) sizes_here_3)), .sl (fz K (eI lanes_5)), .sl (fz K (eS x6)), .sl (fz K ((eO (eT (eT (eT eI)))) s14))]) (k := fun s14 => _) (sb_if (EvT.is (w' := (bnd (sel (decide (x6 = ("dateline" : Str))) (ret (decide (lanes_5 = (1 : Int)))) (ret false)) fun x12 => sel x12 (ret true) (bnd (inD (eS x6) (List.map eS [("west" : Str), ("north" : Str)])) fun x11 => sel x11 (ret (!decide ((sizes_here_3.length : Int) = (2 : Int)))) (ret false)))) (et_or (et_and (et_test (ev_opF (ev_f (e := eS) x6 rfl) ev_str (fun _ _ => o_eqS _ _))) (et_test (ev_opF (ev_f (e := eI) lanes_5 rfl) ev_int (fun _ _ => o_eqI _ _)))) (et_and (et_test (ev_opF (ev_f (e := eS) x6 rfl) (ev_tupS (fun x => [x.1, x.2.1]) (eT eS) (es_f ev_str (es_f ev_str es_nil)) (fun _ => (AllF.cons (AllF.cons AllF.nil))) (fun _ => rfl) (fun _ => rfl)) (fun _ _ => o_inTD _ _))) (et_test (ev_opF (ev_b1F (ev_f (e := (eT eI)) sizes_here_3 rfl) (fun _ => c_lenT _)) ev_int (fun _ _ => o_neI _ _))))) (by simp only [ret_bnd, bnd_bnd, mapW_bnd, mapW_ret] <;> rfl)) (sb_set (e := (eO (eT (eT (eT eI))))) (EvG.is (w' := (ret (none : (Option (List (List (List Int))))))) (ev_nonO (e := (eT (eT (eT eI))))) rfl) (ltb rfl) (fun due_16 => (Lands.wk (la_at due_16) (wk_mask [true, true, true, true, true, true] _)))) (sb_next (Lands.wk (la_at due_10) (wk_mask [true, true, true, true, true, true] _)))) (fun s14 => (sb_if (EvT.is (w' := (bnd (noX (l_told25 x6 sizes_here_3 lanes_5)) fun x17 => eqWN ((eO (eT (eT (eT eI)))) x17) ((eO (eT (eT (eT eI)))) s14))) (et_test (ev_opF (ev_callS (eO (eT (eT (eT eI)))) (es_f (ev_f (e := eS) x6 rfl) (es_f (ev_f (e := (eT eI)) sizes_here_3 rfl) (es_f (ev_f (e := eI) lanes_5 rfl) es_nil))) (fun _ => rfl)) (ev_f (e := (eO (eT (eT (eT eI))))) s14 rfl) (fun _ _ => o_neDW _ _))) rfl) (sb_retF (EvG.is (w' := (ret false)) ev_bl rfl) (fun _ => rfl)) (sb_next (Lands.wk (la_at ()) (wk_mask [true, true, true, true, false, false] _))))))))))) (fun s7 => (la_in (sb_retF (EvG.is (w' := (bnd (bnd (noX (l_drawn_network (7 : Int) (16 : Int))) fun x19 => noX (l_shortest_fine x19)) fun x21 => sel x21 (bnd (noX (l_network sizes_here_3 lanes_5 true (2 : Int))) fun x20 => noX (l_shortest_fine x20)) (ret false))) (ev_andV (ev_callS eB (es_f (ev_callS (e2 eI (eT (e3 eI eI eI))) (es_t (ev_t (S := (tpG tape1 T.Ps)) rfl) (es_f ev_int (es_f ev_int es_nil))) (fun _ => rfl)) es_nil) (fun _ => rfl)) (ev_callS eB (es_f (ev_callS (e2 eI (eT (e3 eI eI eI))) (es_f (ev_f (e := (eT eI)) sizes_here_3 rfl) (es_f (ev_f (e := eI) lanes_5 rfl) (es_f ev_bl (es_f ev_int es_nil)))) (fun _ => rfl)) es_nil) (fun _ => rfl))) (by simp only [ret_bnd, bnd_bnd, mapW_bnd, mapW_ret] <;> rfl)) (fun _ => rfl))))))))))))))
end
end Cf
namespace Cf
open PySem PySem.Spec PyProof.Rows L2 WL
/-! nested lists of the def's own, at their addresses -/
theorem All2.snoc {α β : Type} {R : α → β → Prop} : ∀ {a : List α} {b : List β} {x : α} {y : β}, All2 R a b → R x y → All2 R (a ++ [x]) (b ++ [y])
  | _, _, _, _, .nil, h => .cons h .nil
  | _, _, _, _, .cons h t, h' => .cons h (All2.snoc t h')
theorem All2.mono {α β : Type} {R R' : α → β → Prop} (m : ∀ x y, R x y → R' x y) : ∀ {a : List α} {b : List β}, All2 R a b → All2 R' a b
  | _, _, .nil => .nil
  | _, _, .cons h t => .cons (m _ _ h) (All2.mono m t)
theorem All2.length {α β : Type} {R : α → β → Prop} : ∀ {a : List α} {b : List β}, All2 R a b → a.length = b.length
  | _, _, .nil => rfl
  | _, _, .cons _ t => congrArg Nat.succ (All2.length t)
theorem All2.get {α β : Type} {R : α → β → Prop} : ∀ {a : List α} {b : List β} {i : Nat} {y : β}, All2 R a b → b[i]? = some y → ∃ x, a[i]? = some x ∧ R x y
  | _, _, 0, _, .cons h _, e => ⟨_, rfl, by cases e; exact h⟩
  | _, _, i + 1, _, .cons _ t, e => All2.get (i := i) t e
  | _, _, 0, _, .nil, e => by cases e
  | _, _, _ + 1, _, .nil, e => by cases e
/-- a cell: a list of the def's own, with part of e -/
def Ent (H0 H : Hp) (o : Addr) (e : List Int) : Prop := H0 o = none ∧ H o = some (.lst (e.map V.int))
def RowR (H0 H : Hp) (z : Addr × List Addr) (row : List (List Int)) : Prop := H0 z.1 = none ∧ H z.1 = some (.lst (z.2.map V.ref)) ∧ All2 (Ent H0 H) z.2 row
def Old (H0 H : Hp) : Prop := ∀ x o, H0 x = some o → H x = some o
theorem Ent.set {H0 H : Hp} {o D : Addr} {e : List Int} {ob ox : HO} (hD : H0 D = some ob) (h : Ent H0 H o e) : Ent H0 (upd H D ox) o e := ⟨h.1, by rw [upd_ne (ne_of_none hD h.1).symm]; exact h.2⟩
theorem RowR.set {H0 H : Hp} {z : Addr × List Addr} {D : Addr} {e : List (List Int)} {ob ox : HO} (hD : H0 D = some ob) (h : RowR H0 H z e) : RowR H0 (upd H D ox) z e := ⟨h.1, by rw [upd_ne (ne_of_none hD h.1).symm]; exact h.2.1, h.2.2.mono fun _ _ => Ent.set hD⟩
theorem Old.new {H : Hp} {a : Addr} {o : HO} (h : H a = none) : Old H (upd H a o) := fun x o' e => by
  rw [upd_ne (ne_of_none e h)]
  exact e
theorem Old.trans {H H' H'' : Hp} (h : Old H H') (k : Old H' H'') : Old H H'' := fun x o e => k x o (h x o e)
theorem Old.stay {H H' : Hp} (h : Old H H') : Stay H H' := fun x o e _ => h x o e
/-! tables by their cells -/
theorem getD_lt {α : Type} {l : List α} {i : Nat} {z : α} (h : i < l.length) : l.getD i z = l[i] := by
  rw [List.getD_eq_getElem?_getD, List.getElem?_eq_getElem h]
  rfl
end Cf
namespace Cf
open PySem WL L2
open Classical
abbrev Tab := List (List (List Int))
abbrev Chs := List (Int × Int × Int)
structure NG (n : Nat) (chs : Chs) : Prop where
  n5 : n ≤ 8
  ml : chs.length ≤ 18
  ch : ∀ c ∈ chs, 0 ≤ c.1 ∧ c.1 < n ∧ 0 ≤ c.2.1 ∧ c.2.1 < n ∧ 0 ≤ c.2.2 ∧ c.2.2 ≤ 3
structure TG (n : Nat) (chs : Chs) (t : Tab) : Prop where
  shp : Shp n t
  nd : ∀ i j, i < n → j < n → (cell t i j).Nodup
  len : ∀ i j, i < n → j < n → (cell t i j).length ≤ 18
  rng : ∀ i j, i < n → j < n → ∀ c ∈ cell t i j, 0 ≤ c ∧ c < chs.length
theorem getD_mem {α : Type} {xs : List α} {i : Nat} (z : α) (h : i < xs.length) : xs.getD i z ∈ xs := by
  rw [getD_lt h]
  exact List.getElem_mem h
theorem span_at : ∀ {n : Nat} {lo x : Int} {pre post : List Int}, span lo n = pre ++ x :: post → x = lo + pre.length := fun {n lo x pre post} e => by
  have h : (span lo n)[pre.length]? = some x := by
    rw [e, List.getElem?_append_right (Nat.le_refl _)]
    simp
  unfold span at h
  rw [List.getElem?_map] at h
  have hl : pre.length < n := by
    have := congrArg List.length e
    rw [span_length, List.length_append, List.length_cons] at this
    omega
  rw [List.getElem?_range hl] at h
  exact (Option.some.inj h).symm
theorem span_nodup (lo : Int) (n : Nat) : (span lo n).Nodup := by
  unfold span
  induction n with
  | zero => simp
  | succ n ih =>
    rw [List.range_succ, List.map_append, List.nodup_append]
    refine ⟨ih, by simp, fun a ha b hb e => ?_⟩
    obtain ⟨k, hk, rfl⟩ := List.mem_map.mp ha
    rw [List.mem_range] at hk
    have : b = lo + (n : Nat) := by simpa using hb
    omega
theorem sub_eq {α : Type} : ∀ {l a b : List α}, l.Nodup → a.Sublist l → b.Sublist l → (∀ x, x ∈ a ↔ x ∈ b) → a = b
  | [], a, b, _, ha, hb, _ => by
    rw [List.sublist_nil.mp ha, List.sublist_nil.mp hb]
  | x :: l, a, b, hn, ha, hb, h => by
    obtain ⟨hx, hn⟩ := List.nodup_cons.mp hn
    cases ha with
    | cons _ ha =>
      have hxa : x ∉ a := fun m => hx (ha.subset m)
      cases hb with
      | cons _ hb => exact sub_eq hn ha hb h
      | cons_cons _ hb => exact absurd ((h x).mpr List.mem_cons_self) hxa
    | cons_cons _ ha =>
      rename_i a
      cases hb with
      | cons _ hb => exact absurd (hb.subset ((h x).mp List.mem_cons_self)) hx
      | cons_cons _ hb =>
        rename_i b
        have : a = b := sub_eq hn ha hb fun y => by
          have hy := h y
          rw [List.mem_cons, List.mem_cons] at hy
          by_cases e : y = x
          · subst e
            exact ⟨fun m => absurd (ha.subset m) hx, fun m => absurd (hb.subset m) hx⟩
          · exact ⟨fun m => (hy.mp (.inr m)).resolve_left e, fun m => (hy.mpr (.inr m)).resolve_left e⟩
        rw [this]
theorem tab_ext {n : Nat} {s t : Tab} (hs : Shp n s) (ht : Shp n t) (h : ∀ i j, i < n → j < n → cell s i j = cell t i j) : s = t := by
  refine List.ext_getElem (by rw [hs.len, ht.len]) fun i h1 h2 => ?_
  have hi : i < n := by rw [← hs.len]; exact h1
  refine List.ext_getElem (by rw [hs.row _ (List.getElem_mem h1), ht.row _ (List.getElem_mem h2)]) fun j h3 h4 => ?_
  have hj : j < n := by rw [← hs.row _ (List.getElem_mem h1)]; exact h3
  have := h i j hi hj
  unfold cell at this
  rwa [getD_lt h1, getD_lt h2, getD_lt h3, getD_lt h4] at this
theorem ThMax.uniq {chs : Chs} {s t tab : Tab} (hn : ∀ i j, i < tab.length → j < tab.length → (cell tab i j).Nodup) (h : ThMax chs s tab) (h' : ThMax chs t tab) : s = t :=
  tab_ext h.shp h'.shp fun i j hi hj => sub_eq (hn i j hi hj) (h.sub i j hi hj) (h'.sub i j hi hj) fun x =>
    ⟨h'.max s (fun i j hi hj c hc => (h.sub i j hi hj).subset hc) h.live i j hi hj x, h.max t (fun i j hi hj c hc => (h'.sub i j hi hj).subset hc) h'.live i j hi hj x⟩
theorem sum_le {l : List Nat} {B : Nat} (h : ∀ x ∈ l, x ≤ B) : l.sum ≤ l.length * B := by
  induction l with
  | nil => simp
  | cons a l ih =>
    have h1 := h a List.mem_cons_self
    have h2 := ih fun x hx => h x (List.mem_cons_of_mem _ hx)
    rw [List.sum_cons, List.length_cons, Nat.succ_mul]
    omega
theorem size_le {n B : Nat} {t : Tab} (s : Shp n t) (h : ∀ i j, i < n → j < n → (cell t i j).length ≤ B) : sizeT t ≤ n * (n * B) := by
  unfold sizeT
  have h1 := sum_le (l := t.map fun r => (r.map List.length).sum) (B := n * B) fun x hx => by
    obtain ⟨r, hr, rfl⟩ := List.mem_map.mp hx
    have h2 := sum_le (l := r.map List.length) (B := B) fun y hy => by
      obtain ⟨e, he, rfl⟩ := List.mem_map.mp hy
      obtain ⟨i, hi, rfl⟩ := List.getElem_of_mem hr
      obtain ⟨j, hj, rfl⟩ := List.getElem_of_mem he
      have h3 := h i j (by rw [← s.len]; exact hi) (by rw [← s.row _ hr]; exact hj)
      unfold cell at h3
      rwa [getD_lt hi, getD_lt hj] at h3
    rw [List.length_map, s.row r hr] at h2
    exact h2
  rw [List.length_map, s.len] at h1
  exact h1
theorem TG.size {n : Nat} {chs : Chs} {t : Tab} (h : TG n chs t) (hn : n ≤ 8) : sizeT t ≤ 1200 := by
  have := size_le h.shp h.len
  have h1 : n * (n * 18) ≤ 8 * (8 * 18) := Nat.mul_le_mul hn (Nat.mul_le_mul hn (Nat.le_refl _))
  omega
section
variable {n : Nat} {chs : Chs} {t : Tab} (g : NG n chs) (ht : TG n chs t)
include g ht
omit g ht in
theorem fm_bound {α : Type} {f : Int → List α} {B : Nat} : ∀ xs : List Int, (∀ x ∈ xs, (f x).length ≤ B) → (xs.flatMap f).length ≤ xs.length * B
  | [], _ => by simp
  | x :: xs, h => by
    rw [List.flatMap_cons, List.length_append, List.length_cons, Nat.succ_mul]
    have := fm_bound xs fun y hy => h y (List.mem_cons_of_mem _ hy)
    have := h x List.mem_cons_self
    omega
end
end Cf
namespace Cf
open PySem WL L2
open Classical
theorem cut_lo {α : Type} (xs : List α) {d : Int} (h0 : 0 ≤ d) : cutA xs none (some d) = xs.take d.toNat := by
  have e : d = ((d.toNat : Nat) : Int) := by omega
  unfold cutA
  rw [e, HT.sIx_nat, HT.sIx_none, List.drop_zero, Nat.sub_zero, Int.toNat_natCast]
  rcases Nat.le_total d.toNat xs.length with h | h
  · rw [Nat.min_eq_left h]
  · rw [Nat.min_eq_right h, List.take_length, List.take_of_length_le h]
theorem cut_hi {α : Type} (xs : List α) {d : Int} (h0 : 0 ≤ d) : cutA xs (some d) none = xs.drop d.toNat := by
  have e : d = ((d.toNat : Nat) : Int) := by omega
  unfold cutA
  rw [e, HT.sIx_nat, HT.sIx_none, Int.toNat_natCast]
  rcases Nat.le_total d.toNat xs.length with h | h
  · rw [Nat.min_eq_left h, List.take_of_length_le (by rw [List.length_drop]; exact Nat.le_refl _)]
  · rw [Nat.min_eq_right h, Nat.sub_self, List.take_zero, List.drop_of_length_le h]
end Cf
namespace Cf
open PySem WL L2
open Classical
theorem en_take {n : Int} (h0 : 0 < n) (h1 : n < 1073741824) : Ens (noX (l_take n)) (fun v => 0 ≤ v ∧ v < n) := en_noX (en_grd ⟨h0, h1⟩ (en_any fun a h => h))
theorem fmod_in {a n : Int} (h : 0 < n) : 0 ≤ Int.fmod a n ∧ Int.fmod a n < n := by
  rw [Int.fmod_eq_emod_of_nonneg _ (by omega)]
  exact ⟨Int.emod_nonneg _ (by omega), Int.emod_lt_of_pos _ h⟩
def srcC (chs : Chs) (c : Int) : Int := (chs.getD c.toNat (0, 0, 0)).1
structure EnOk (chs : Chs) (u : Int) (e : List Int) : Prop where
  len : e.length ≤ 12
  nd : e.Nodup
  ok : ∀ c ∈ e, 0 ≤ c ∧ c < chs.length ∧ srcC chs c = u
structure TbOk (n : Nat) (chs : Chs) (tab : Tab) : Prop where
  row : ∀ (i : Nat) row, tab[i]? = some row → row.length = n ∧ ∀ e ∈ row, EnOk chs i e
theorem TbOk.snoc {n : Nat} {chs : Chs} {tab : Tab} {row : List (List Int)} (h : TbOk n chs tab) (hl : row.length = n) (he : ∀ e ∈ row, EnOk chs tab.length e) : TbOk n chs (tab ++ [row]) := ⟨fun i r hr => by
  by_cases hi : i < tab.length
  · rw [List.getElem?_append_left hi] at hr
    exact h.row i r hr
  · rw [List.getElem?_append_right (by omega)] at hr
    by_cases e : i = tab.length
    · subst e
      rw [Nat.sub_self] at hr
      have : row = r := by simpa using hr
      subst this
      exact ⟨hl, he⟩
    · rw [List.getElem?_eq_none (by rw [List.length_singleton]; omega)] at hr
      cases hr⟩
theorem TbOk.cell {n : Nat} {chs : Chs} {tab : Tab} (h : TbOk n chs tab) (hl : tab.length = n) {i j : Nat} (hi : i < n) (hj : j < n) : EnOk chs i (cell tab i j) := by
  have hi' : i < tab.length := by omega
  obtain ⟨h1, h2⟩ := h.row i _ (List.getElem?_eq_getElem hi')
  unfold Cf.cell
  rw [getD_lt hi', getD_lt (by omega)]
  exact h2 _ (List.getElem_mem _)
end Cf
/-! GL: helpers of the plain laws. -/
namespace WL
open PySem L2
/-! ### a typed thing as data: its form, equality -/
structure EE {α : Type} [DecidableEq α] (e : α → PyData) (k : Nat) : Prop where
  lay : ∀ x, (e x).canLay0 = true
  dep : ∀ x, (e x).depth ≤ k
  eq : ∀ x y, PyData.eqv (e x) (e y) = decide (x = y)
section
variable {α β γ δ : Type} [DecidableEq α] [DecidableEq β] [DecidableEq γ] [DecidableEq δ]
theorem ee_I : EE eI 0 := ⟨fun x => by simp [eI, PyData.canLay0], fun x => by simp [eI, PyData.depth], fun x y => by
  by_cases h : x = y
  · simp [eI, PyData.eqv, h]
  · simp [eI, PyData.eqv, h]⟩
theorem ee_all {e : α → PyData} {k : Nat} (h : EE e k) : ∀ l : List α, PyData.canLayAll0 (l.map e) = true ∧ PyData.depthAll (l.map e) ≤ k
  | [] => by simp [PyData.canLayAll0, PyData.depthAll]
  | a :: l => by
    obtain ⟨i1, i2⟩ := ee_all h l
    have h1 := h.lay a
    have h2 := h.dep a
    rw [List.map_cons]
    constructor
    · simp [PyData.canLayAll0, i1, h1]
    · simp only [PyData.depthAll]
      omega
theorem ee_eqAll {e : α → PyData} {k : Nat} (h : EE e k) : ∀ l m : List α, PyData.eqvAll (l.map e) (m.map e) = decide (l = m)
  | [], [] => by simp [PyData.eqvAll]
  | [], _ :: _ => by simp [PyData.eqvAll]
  | _ :: _, [] => by simp [PyData.eqvAll]
  | a :: l, b :: m => by
    rw [List.map_cons, List.map_cons, PyData.eqvAll, h.eq, ee_eqAll h l m]
    by_cases e1 : a = b
    · by_cases e2 : l = m
      · simp [e1, e2]
      · simp [e1, e2]
    · simp [e1]
theorem ee_T {e : α → PyData} {k : Nat} (h : EE e k) : EE (eT e) (k + 1) := ⟨fun x => by
  have := (ee_all h x).1
  simp [eT, PyData.canLay0, this], fun x => by
  have := (ee_all h x).2
  simp only [eT, PyData.depth]
  omega, fun x y => by
  have := ee_eqAll h x y
  simp [eT, PyData.eqv, this]⟩
theorem ee_2 {a : α → PyData} {b : β → PyData} {k : Nat} (ha : EE a k) (hb : EE b k) : EE (e2 a b) (k + 1) := ⟨fun x => by
  simp [e2, PyData.canLay0, PyData.canLayAll0, ha.lay, hb.lay], fun x => by
  have := ha.dep x.1
  have := hb.dep x.2
  simp only [e2, PyData.depth, PyData.depthAll]
  omega, fun x y => by
  obtain ⟨x1, x2⟩ := x
  obtain ⟨y1, y2⟩ := y
  simp only [e2, PyData.eqv, PyData.eqvAll, ha.eq, hb.eq, Prod.mk.injEq, Bool.and_true]
  simp⟩
theorem ee_O {e : α → PyData} {k : Nat} (h : EE e k) (hn : ∀ x, PyData.eqv .none (e x) = false) (hn' : ∀ x, PyData.eqv (e x) .none = false) : EE (eO e) k := ⟨fun x => by
  cases x with
  | none => simp [eO, PyData.canLay0]
  | some a => exact h.lay a, fun x => by
  cases x with
  | none => simp [eO, PyData.depth]
  | some a => exact h.dep a, fun x y => by
  cases x with
  | none =>
    cases y with
    | none => simp [eO, PyData.eqv]
    | some b => simp [eO, hn]
  | some a =>
    cases y with
    | none => simp [eO, hn']
    | some b => simp [eO, h.eq]⟩
theorem EE.sh {e : α → PyData} {k : Nat} (h : EE e k) (hk : k ≤ 64) (x : α) : SeqAt.shaped (e x) = true := by
  show ((e x).canLay0 && decide ((e x).depth ≤ 64)) = true
  rw [h.lay x, decide_eq_true (by have := h.dep x; omega)]
  rfl
theorem en_eqW {e : α → PyData} {k : Nat} (h : EE e k) (hk : k ≤ 64) (x y : α) : Ens (eqW (e x) (e y)) (fun v => v = decide (x = y)) := en_grd ⟨h.sh hk x, h.sh hk y⟩ (en_ret (h.eq x y))
theorem en_eqWN {e : α → PyData} {k : Nat} (h : EE e k) (hk : k ≤ 64) (x y : α) : Ens (eqWN (e x) (e y)) (fun v => v = !decide (x = y)) := en_grd ⟨h.sh hk x, h.sh hk y⟩ (en_ret (by rw [h.eq x y]))
end
/-! ### what a transformer is sure of -/
section
variable {α β γ S F : Type}
theorem en_setW {xs : List α} {w : Wp α} {wi : Wp Int} {k : List α → Wp F} {Q : F → Prop} {R : α → Prop} {i : Int} (h : Ens w R) (hi : Ens wi (fun v => v = i)) (h0 : 0 ≤ i) (h1 : i < xs.length) (hk : ∀ a, R a → Ens (k (xs.set i.toNat a)) Q) : Ens (setW xs w wi k) Q :=
  en_bnd h fun a ha => en_bndE hi (en_bndE (en_optE (a := i.toNat) (by unfold ixN; rw [if_pos h0, if_pos h1])) (hk a ha))
theorem ft {l : List α} : l.filter (fun _ => true) = l := List.filter_eq_self.mpr fun _ _ => rfl
/-- [g x for x in xs] -/
theorem en_lcM {f : α → Wp β} (g : α → β) (xs : List α) (hl : xs.length ≤ 16777216) (h2 : ∀ x ∈ xs, Ens (f x) (fun v => v = g x)) : Ens (lcG (fun _ => ret true) f xs) (fun v => v = xs.map g) :=
  (en_lc (fun _ => true) g xs hl (fun _ _ => en_eq _) fun x hx _ => h2 x hx).mono fun v e => by rw [e, ft]
/-- the items' property, all kept -/
theorem en_lcWA {f : α → Wp β} {R : α → β → Prop} : ∀ (xs : List α), (∀ x ∈ xs, Ens (f x) (R x)) → Ens (lcW (fun _ => ret true) f xs) (fun ys => ys.length = xs.length ∧ ∀ (i : Nat) x, xs[i]? = some x → ∃ y, ys[i]? = some y ∧ R x y)
  | [], _ => en_ret ⟨rfl, fun i x h => by simp at h⟩
  | x :: xs, h2 => by
    have ih := en_lcWA xs fun y hy => h2 y (List.mem_cons_of_mem _ hy)
    refine en_bndE (en_eq _) (en_sel (fun _ => en_bnd (h2 x List.mem_cons_self) fun y hy => en_bnd ih fun ys ⟨hl, hm⟩ => en_ret ⟨by rw [List.length_cons, List.length_cons, hl], fun i z hz => ?_⟩) (fun h => by cases h))
    cases i with
    | zero => cases hz; exact ⟨y, rfl, hy⟩
    | succ i => exact hm i z hz
theorem en_lcA {f : α → Wp β} {R : α → β → Prop} (xs : List α) (hl : xs.length ≤ 16777216) (h2 : ∀ x ∈ xs, Ens (f x) (R x)) : Ens (lcG (fun _ => ret true) f xs) (fun ys => ys.length = xs.length ∧ ∀ (i : Nat) x, xs[i]? = some x → ∃ y, ys[i]? = some y ∧ R x y) :=
  en_grd hl (en_noX (en_lcWA xs h2))
end
section
variable {α S F : Type}
/-- while, its end by a break too -/
theorem en_whileT {c : S → Wp Bool} {body : S → (S → Wp F) → (S → Wp F) → Wp F} {exit : S → Wp F} {Q : F → Prop} (I J : S → Prop) (b : S → Bool) (μ : S → Nat) {s : S} (h0 : I s) (hc : ∀ s, I s → Ens (c s) (fun v => v = b s))
    (hb : ∀ s k kx, I s → b s = true → (∀ s', I s' → μ s' < μ s → Ens (k s') Q) → (∀ s', J s' → Ens (kx s') Q) → Ens (body s k kx) Q) (hj : ∀ s, I s → b s = false → J s) (hx : ∀ s, J s → Ens (exit s) Q) : Ens (whileW c body exit s) Q :=
  en_while I b μ h0 hc (fun s k hI hb' hk => hb s k exit hI hb' hk hx) fun s hI hb' => hx s (hj s hI hb')
/-- for, its end by a break too -/
theorem en_forT {body : α → S → (S → Wp F) → (S → Wp F) → Wp F} {exit : S → Wp F} {Q : F → Prop} (I : List α → S → Prop) (J : S → Prop) (xs : List α) {s : S} (h0 : I [] s)
    (hb : ∀ pre x post s k kx, xs = pre ++ x :: post → I pre s → (∀ s', I (pre ++ [x]) s' → Ens (k s') Q) → (∀ s', J s' → Ens (kx s') Q) → Ens (body x s k kx) Q) (hj : ∀ s, I xs s → J s) (hx : ∀ s, J s → Ens (exit s) Q) : Ens (forK body exit xs s) Q :=
  en_for I xs h0 (fun pre x post s k e hI hk => hb pre x post s k exit e hI hk hx) fun s hI => hx s (hj s hI)
end
/-! ### lists, dicts -/
theorem nd_le : ∀ {a b : List Int}, a.Nodup → (∀ x ∈ a, x ∈ b) → a.length ≤ b.length
  | [], _, _, _ => Nat.zero_le _
  | x :: a, b, hn, h => by
    rw [List.nodup_cons] at hn
    have hx := h x List.mem_cons_self
    have ih := nd_le (b := b.erase x) hn.2 fun z hz => (List.mem_erase_of_ne (fun e => hn.1 (by rw [← e]; exact hz))).mpr (h z (List.mem_cons_of_mem _ hz))
    rw [List.length_erase_of_mem hx] at ih
    have := List.length_pos_iff.mpr (List.ne_nil_of_mem hx)
    rw [List.length_cons]
    omega
section
variable {α : Type}
theorem getD_lt' {l : List α} {i : Nat} {z : α} (h : i < l.length) : l.getD i z = l[i] := by
  rw [List.getD_eq_getElem?_getD, List.getElem?_eq_getElem h]
  rfl
theorem getD_set' {l : List α} {i j : Nat} {x z : α} (h : i < l.length) : (l.set i x).getD j z = if i = j then x else l.getD j z := by
  rw [List.getD_eq_getElem?_getD, List.getD_eq_getElem?_getD, List.getElem?_set]
  by_cases e : i = j
  · subst e
    rw [if_pos rfl, if_pos h, if_pos rfl]
    rfl
  · rw [if_neg e, if_neg e]
theorem at_getD {xs : List α} {i : Int} (z : α) (h0 : 0 ≤ i) (h1 : i < xs.length) : atI xs i = some (xs.getD i.toNat z) := by
  have hi : i.toNat < xs.length := by omega
  have := atI_nat (xs := xs) (j := i.toNat) (v := xs.getD i.toNat z) (by rw [List.getD_eq_getElem?_getD, List.getElem?_eq_getElem hi]; rfl)
  rwa [show ((i.toNat : Nat) : Int) = i by omega] at this
theorem at_zero (a : α) (l : List α) : atI (a :: l) 0 = some a := atI_nat (j := 0) rfl
theorem enum_len (xs : List α) : (enumI xs).length = xs.length := by
  unfold enumI
  rw [List.length_zip, span_length, Nat.min_self]
theorem span_get {lo : Int} {n i : Nat} (h : i < n) : (span lo n)[i]? = some (lo + i) := by
  unfold span
  rw [List.getElem?_map, List.getElem?_range h]
  rfl
theorem enum_get {xs : List α} {i : Nat} (h : i < xs.length) : (enumI xs)[i]? = some ((i : Int), xs[i]) := by
  unfold enumI
  rw [List.getElem?_zip_eq_some]
  exact ⟨by rw [span_get h]; simp, List.getElem?_eq_getElem h⟩
end
end WL
/-! for i in range(n), by the number of turns. -/
namespace Cf
open PySem WL L2
/-- for i in range(n) -/
theorem en_forNat {S F : Type} {body : Int → S → (S → Wp F) → (S → Wp F) → Wp F} {exit : S → Wp F} {Q : F → Prop} {n : Nat} (I : Nat → S → Prop) {s : S} (h0 : I 0 s)
    (hb : ∀ i s k kx, i < n → I i s → (∀ s', I (i + 1) s' → Ens (k s') Q) → Ens (body (i : Int) s k kx) Q) (hx : ∀ s, I n s → Ens (exit s) Q) : Ens (forK body exit (span 0 n) s) Q := by
  refine en_forT (fun pre s => I pre.length s) (I n) (span 0 n) h0 (fun pre x post s k kx e hI hk _ => ?_) (fun s h => by rwa [span_length] at h) hx
  have hp : pre.length < n := by
    have := congrArg List.length e
    rw [span_length, List.length_append, List.length_cons] at this
    omega
  have hx : x = (pre.length : Int) := by
    have h1 := span_get (lo := 0) hp
    rw [show span 0 n = pre ++ x :: post from e, List.getElem?_append_right (Nat.le_refl _), Nat.sub_self] at h1
    have h1 : some x = some (0 + (pre.length : Int)) := h1
    have := Option.some.inj h1
    omega
  subst hx
  exact hb _ s k kx hp hI fun s' h => hk s' (by rw [List.length_append, List.length_singleton]; exact h)
end Cf
/-! k21: places of a mesh and their numbers. -/
namespace Cf
open PySem WL L2
/-- the product of sizes -/
def pr : List Int → Int
  | [] => 1
  | k :: ss => k * pr ss
/-- a place within sizes -/
def Vp : List Int → List Int → Prop
  | [], [] => True
  | k :: ss, x :: xs => (0 ≤ x ∧ x < k) ∧ Vp ss xs
  | _, _ => False
/-- its number -/
def no : List Int → List Int → Int
  | k :: ss, x :: xs => x * pr ss + no ss xs
  | _, _ => 0
def pl : List Int → Int → List Int
  | [], _ => []
  | k :: ss, u => (u / pr ss) :: pl ss (u % pr ss)
def Pos (ss : List Int) : Prop := ∀ k ∈ ss, (1 : Int) ≤ k
theorem pr_pos : ∀ {ss : List Int}, Pos ss → 1 ≤ pr ss
  | [], _ => Int.le_refl _
  | k :: ss, h => by
    have h1 := h k (List.mem_cons_self)
    have h2 := pr_pos (ss := ss) fun x hx => h x (List.mem_cons_of_mem _ hx)
    show 1 ≤ k * pr ss
    have : (1 : Int) * 1 ≤ k * pr ss := Int.mul_le_mul h1 h2 (by decide) (by omega)
    omega
theorem Pos.tail {k : Int} {ss : List Int} (h : Pos (k :: ss)) : Pos ss := fun x hx => h x (List.mem_cons_of_mem _ hx)
theorem Vp.len : ∀ {ss p : List Int}, Vp ss p → p.length = ss.length
  | [], [], _ => rfl
  | _ :: _, _ :: _, h => by rw [List.length_cons, List.length_cons, h.2.len]
theorem no_lt : ∀ {ss p : List Int}, Pos ss → Vp ss p → 0 ≤ no ss p ∧ no ss p < pr ss
  | [], [], _, _ => ⟨Int.le_refl _, by decide⟩
  | k :: ss, x :: xs, hp, h => by
    obtain ⟨a, b⟩ := no_lt hp.tail h.2
    have h2 := pr_pos hp.tail
    obtain ⟨x0, x1⟩ := h.1
    show 0 ≤ x * pr ss + no ss xs ∧ x * pr ss + no ss xs < k * pr ss
    have e1 : 0 ≤ x * pr ss := Int.mul_nonneg x0 (by omega)
    have e2 : (x + 1) * pr ss ≤ k * pr ss := Int.mul_le_mul_of_nonneg_right (by omega) (by omega)
    rw [Int.add_mul, Int.one_mul] at e2
    omega
theorem no_inj : ∀ {ss p q : List Int}, Pos ss → Vp ss p → Vp ss q → no ss p = no ss q → p = q
  | [], [], [], _, _, _, _ => rfl
  | k :: ss, x :: xs, y :: ys, hp, h1, h2, e => by
    obtain ⟨a0, a1⟩ := no_lt hp.tail h1.2
    obtain ⟨b0, b1⟩ := no_lt hp.tail h2.2
    have e : x * pr ss + no ss xs = y * pr ss + no ss ys := e
    have d1 : (x * pr ss + no ss xs) / pr ss = x := by
      rw [Int.add_comm, Int.add_mul_ediv_right _ _ (by omega), Int.ediv_eq_zero_of_lt a0 a1, Int.zero_add]
    have d2 : (y * pr ss + no ss ys) / pr ss = y := by
      rw [Int.add_comm, Int.add_mul_ediv_right _ _ (by omega), Int.ediv_eq_zero_of_lt b0 b1, Int.zero_add]
    have exy : x = y := by rw [← d1, e, d2]
    subst exy
    rw [no_inj hp.tail h1.2 h2.2 (by omega)]
theorem pl_ok : ∀ {ss : List Int} {u : Int}, Pos ss → 0 ≤ u → u < pr ss → Vp ss (pl ss u) ∧ no ss (pl ss u) = u
  | [], u, _, h0, h1 => by
    have h1 : u < 1 := h1
    exact ⟨trivial, by show (0 : Int) = u; omega⟩
  | k :: ss, u, hp, h0, h1 => by
    have h2 := pr_pos hp.tail
    have h1 : u < k * pr ss := h1
    have m0 := Int.emod_nonneg u (show pr ss ≠ 0 by omega)
    have m1 := Int.emod_lt_of_pos u (show 0 < pr ss by omega)
    obtain ⟨a, b⟩ := pl_ok (ss := ss) hp.tail m0 m1
    refine ⟨⟨⟨Int.ediv_nonneg h0 (by omega), Int.ediv_lt_of_lt_mul (by omega) h1⟩, a⟩, ?_⟩
    show u / pr ss * pr ss + no ss (pl ss (u % pr ss)) = u
    rw [b]
    exact Int.ediv_mul_add_emod u (pr ss)
theorem pl_uniq {ss p : List Int} {u : Int} (hp : Pos ss) (hv : Vp ss p) (e : no ss p = u) : p = pl ss u := by
  obtain ⟨a, b⟩ := no_lt hp hv
  obtain ⟨c, d⟩ := pl_ok (u := u) hp (by omega) (by omega)
  exact no_inj hp hv c (by rw [d, e])
theorem pr_snoc (k : Int) : ∀ ss : List Int, pr (ss ++ [k]) = pr ss * k
  | [] => by show k * 1 = 1 * k; omega
  | j :: ss => by
    show j * pr (ss ++ [k]) = j * pr ss * k
    rw [pr_snoc k ss, Int.mul_assoc]
theorem Vp.snoc {k x : Int} (hx : 0 ≤ x ∧ x < k) : ∀ {ss p : List Int}, Vp ss p → Vp (ss ++ [k]) (p ++ [x])
  | [], [], _ => ⟨hx, trivial⟩
  | _ :: _, _ :: _, h => ⟨h.1, h.2.snoc hx⟩
theorem no_snoc {k x : Int} : ∀ {ss p : List Int}, Vp ss p → no (ss ++ [k]) (p ++ [x]) = no ss p * k + x
  | [], [], _ => by show x * 1 + 0 = 0 * k + x; omega
  | j :: ss, y :: p, h => by
    show y * pr (ss ++ [k]) + no (ss ++ [k]) (p ++ [x]) = (y * pr ss + no ss p) * k + x
    rw [no_snoc h.2, pr_snoc, Int.add_mul, Int.mul_assoc]
    omega
/-- one place of p changed -/
theorem Vp.set : ∀ {ss p : List Int} {i : Nat} {y : Int}, Vp ss p → 0 ≤ y → (∀ k, ss[i]? = some k → y < k) → Vp ss (p.set i y)
  | [], [], _, _, _, _, _ => trivial
  | k :: ss, x :: xs, 0, y, h, y0, h1 => ⟨⟨y0, h1 k rfl⟩, h.2⟩
  | k :: ss, x :: xs, i + 1, y, h, y0, h1 => ⟨h.1, h.2.set (i := i) y0 fun k' e => h1 k' (by rw [List.getElem?_cons_succ]; exact e)⟩
theorem no_set : ∀ {ss p : List Int} {i : Nat} {x y : Int}, Pos ss → Vp ss p → p[i]? = some x → ∃ w, 1 ≤ w ∧ no ss (p.set i y) = no ss p + (y - x) * w
  | [], [], i, x, y, _, _, e => by cases e
  | k :: ss, z :: xs, 0, x, y, hp, h, e => by
    cases e
    refine ⟨pr ss, pr_pos hp.tail, ?_⟩
    show y * pr ss + no ss xs = z * pr ss + no ss xs + (y - z) * pr ss
    rw [Int.sub_mul]
    omega
  | k :: ss, z :: xs, i + 1, x, y, hp, h, e => by
    rw [List.getElem?_cons_succ] at e
    obtain ⟨w, hw, ew⟩ := no_set (y := y) hp.tail h.2 e
    refine ⟨w, hw, ?_⟩
    show z * pr ss + no ss (xs.set i y) = z * pr ss + no ss xs + (y - x) * w
    rw [ew]
    omega
theorem Vp.at : ∀ {ss p : List Int} {i : Nat} {k : Int}, Vp ss p → ss[i]? = some k → ∃ x, p[i]? = some x ∧ 0 ≤ x ∧ x < k
  | [], [], i, k, _, e => by cases e
  | j :: ss, x :: xs, 0, k, h, e => by
    cases e
    exact ⟨x, rfl, h.1⟩
  | j :: ss, x :: xs, i + 1, k, h, e => by
    rw [List.getElem?_cons_succ] at e ⊢
    exact h.2.at e
theorem Vp.lt {ss p : List Int} (h : Vp ss p) {i : Nat} : i < p.length ↔ i < ss.length := by rw [h.len]
/-- the lists of sizes that are let pass -/
structure Sz (ss : List Int) : Prop where
  pos : Pos ss
  le : ∀ k ∈ ss, k ≤ 64
  len : ss.length ≤ 6
  p2 : 2 ≤ pr ss
  p64 : pr ss ≤ 64
variable {ss : List Int}
theorem en_node (hs : ∀ k ∈ ss, 1 ≤ k ∧ k ≤ 64) {p : List Int} (hl : p.length = ss.length) : Ens (noX (p_node_at ss p)) (fun v => v = no ss p) := by
  refine en_noX (en_bndE (en_eq _) (en_bndE (en_eq _) ?_))
  have gen : ∀ (ss p : List Int) (acc : Int), p.length = ss.length → (∀ k ∈ ss, 1 ≤ k ∧ k ≤ 64) → Ens (forK (fun x2 (s3 : Int) kc4 kb5 => bnd (bnd (grd (CMul s3 x2.1) (ret (s3 * x2.1))) fun x6 => ret (x6 + x2.2)) fun node_7 => kc4 node_7) (fun s3 : Int => ret s3) (List.zip ss p) acc) (fun v => v = acc * pr ss + no ss p) := by
    intro ss
    induction ss with
    | nil =>
      intro p acc hl _
      cases p with
      | nil => exact en_ret (by show acc = acc * 1 + 0; omega)
      | cons x xs => cases hl
    | cons k ss ih =>
      intro p acc hl hs
      cases p with
      | nil => cases hl
      | cons x xs =>
        have hk := hs k (List.mem_cons_self)
        show Ens (bnd (bnd (grd (CMul acc k) (ret (acc * k))) fun x6 => ret (x6 + x)) fun node => forK _ _ (List.zip ss xs) node) _
        refine en_bndE (en_bndE (en_grd (.inr ⟨by show -(2 ^ 64) < k; omega, by show k < 2 ^ 64; omega⟩) (en_eq _)) (en_eq _)) ((ih xs (acc * k + x) (by simpa using hl) fun j hj => hs j (List.mem_cons_of_mem _ hj)).mono fun v hv => ?_)
        rw [hv]
        show (acc * k + x) * pr ss + no ss xs = acc * (k * pr ss) + (x * pr ss + no ss xs)
        rw [Int.add_mul, Int.mul_assoc]
        omega
  exact (gen ss p 0 hl hs).mono fun v hv => by rw [hv]; omega
theorem en_place (g : Sz ss) {u : Int} (h0 : 0 ≤ u) (h1 : u < pr ss) : Ens (noX (p_place_of ss u)) (fun v => v = pl ss u) := by
  have hlen := g.len
  refine en_noX (en_bndE (en_eq _) (en_bndE (en_eq _) ?_))
  refine en_for (fun (pre : List Int) (s : List Int × Int) => s.1.length = pre.length ∧ Vp pre.reverse s.1.reverse ∧ 0 ≤ s.2 ∧ u = s.2 * pr pre.reverse + no pre.reverse s.1.reverse) _ (s := (([] : List Int), u)) ⟨rfl, trivial, h0, by show u = u * 1 + 0; omega⟩ (fun pre k post s kk e ⟨i0, i1, i2, i3⟩ hk => ?_) (fun s ⟨i0, i1, i2, i3⟩ => en_ret ?_)
  · have hkm : k ∈ ss := by
      have : k ∈ ss.reverse := by rw [e]; simp
      exact List.mem_reverse.mp this
    have k1 := g.pos k hkm
    have k64 := g.le k hkm
    have hpl := congrArg List.length e
    rw [List.length_reverse, List.length_append, List.length_cons] at hpl
    have fm : Int.fmod s.2 k = s.2 % k := Int.fmod_eq_emod_of_nonneg _ (by omega)
    refine en_app (en_grd (by omega) (en_eq _)) (by omega) fun a ea => en_bndE (en_grd ⟨by omega, by omega⟩ (en_eq _)) (hk _ ⟨?_, ?_, Int.ediv_nonneg i2 (by omega), ?_⟩)
    · show (s.1 ++ [a]).length = _
      rw [List.length_append, List.length_append, i0]; rfl
    · show Vp (pre ++ [k]).reverse (s.1 ++ [a]).reverse
      rw [List.reverse_append, List.reverse_append]
      exact ⟨by rw [ea, fm]; exact ⟨Int.emod_nonneg _ (by omega), Int.emod_lt_of_pos _ (by omega)⟩, i1⟩
    · show u = s.2 / k * pr (pre ++ [k]).reverse + no (pre ++ [k]).reverse (s.1 ++ [a]).reverse
      rw [List.reverse_append, List.reverse_append]
      show u = s.2 / k * (k * pr pre.reverse) + (a * pr pre.reverse + no pre.reverse s.1.reverse)
      have e1 := Int.ediv_mul_add_emod s.2 k
      rw [ea, fm, ← Int.mul_assoc, ← Int.add_assoc, ← Int.add_mul, e1]
      exact i3
  · rw [List.reverse_reverse] at i1 i3
    obtain ⟨b0, b1⟩ := no_lt g.pos i1
    have hp := pr_pos g.pos
    refine pl_uniq g.pos i1 ?_
    have : s.2 = 0 := by
      rcases Int.lt_or_le 0 s.2 with z | z
      · have : 1 * pr ss ≤ s.2 * pr ss := Int.mul_le_mul_of_nonneg_right (by omega) (by omega)
        omega
      · omega
    rw [this, Int.zero_mul, Int.zero_add] at i3
    exact i3.symm
end Cf
/-! k21: all places in their order; which are linked. -/
namespace Cf
open PySem WL L2
variable {ss : List Int}
theorem pr_app : ∀ a b : List Int, pr (a ++ b) = pr a * pr b
  | [], b => by show pr b = 1 * pr b; omega
  | k :: a, b => by
    show k * pr (a ++ b) = k * pr a * pr b
    rw [pr_app a b, Int.mul_assoc]
structure PL (ss : List Int) (L : List (List Int)) : Prop where
  len : (L.length : Int) = pr ss
  at' : ∀ i : Nat, i < L.length → ∃ p, L[i]? = some p ∧ Vp ss p ∧ no ss p = i
theorem PL.get {L : List (List Int)} (h : PL ss L) (hp : Pos ss) {u : Int} (h0 : 0 ≤ u) (h1 : u < pr ss) : atI L u = some (pl ss u) := by
  have hl := h.len
  obtain ⟨p, e, hv, en⟩ := h.at' u.toNat (by omega)
  rw [at_getD [] h0 (by omega), List.getD_eq_getElem?_getD, e]
  show some p = _
  rw [pl_uniq hp hv (u := u) (by omega)]
set_option maxHeartbeats 1000000 in
theorem en_places (g : Sz ss) : Ens (noX (l_places ss)) (PL ss) := by
  refine en_noX (en_bndE (en_eq _) (en_bndE (en_eq _) ?_))
  refine en_for (fun (pre : List Int) (s : List (List Int)) => PL pre s) ss ⟨rfl, fun i hi => ?_⟩ (fun pre k post s kk e hI hk => ?_) (fun s h => en_ret h)
  · have : i = 0 := by
      have : i < 1 := hi
      omega
    subst this
    exact ⟨[], rfl, trivial, rfl⟩
  · have hkm : k ∈ ss := by rw [e]; simp
    have k1 := g.pos k hkm
    have k64 := g.le k hkm
    have ppost : Pos post := fun x hx => g.pos x (by rw [e]; simp [hx])
    have ppre : Pos pre := fun x hx => g.pos x (by rw [e]; simp [hx])
    have hpr : pr pre * k ≤ 64 := by
      have e1 : pr ss = pr pre * k * pr post := by
        rw [e, pr_app]
        show pr pre * (k * pr post) = _
        rw [Int.mul_assoc]
      have h1 := pr_pos ppost
      have h2 := pr_pos ppre
      have h3 : 0 ≤ pr pre * k := Int.mul_nonneg (by omega) (by omega)
      have h4 : pr pre * k * 1 ≤ pr pre * k * pr post := Int.mul_le_mul_of_nonneg_left h1 h3
      have h5 := g.p64
      omega
    have hl := hI.len
    have hl64 : s.length ≤ 64 := by
      have h2 := pr_pos ppre
      have : pr pre * 1 ≤ pr pre * k := Int.mul_le_mul_of_nonneg_left k1 (by omega)
      omega
    refine en_bndE (en_eq _) (en_for (fun (pre2 : List (List Int)) (t : List (List Int)) => t.length = pre2.length * k.toNat ∧ ∀ i : Nat, i < t.length → ∃ p, t[i]? = some p ∧ Vp (pre ++ [k]) p ∧ no (pre ++ [k]) p = i) s ⟨by simp, fun i hi => absurd hi (Nat.not_lt_zero _)⟩ (fun pre2 x post2 t k2 e2 ⟨i1, i2⟩ hk2 => ?_) (fun t ⟨i1, i2⟩ => hk _ ⟨?_, i2⟩))
    · have hpl := congrArg List.length e2
      rw [List.length_append, List.length_cons] at hpl
      obtain ⟨x', ex, hv, hn⟩ := hI.at' pre2.length (by omega)
      have exx : x' = x := by
        rw [e2, List.getElem?_append_right (Nat.le_refl _), Nat.sub_self] at ex
        exact (Option.some.inj ex).symm
      subst exx
      have hxl := hv.len
      have hprl : pre.length ≤ 6 := by
        have := congrArg List.length e
        rw [List.length_append, List.length_cons] at this
        have := g.len
        omega
      have hm : pre2.length * k.toNat ≤ 64 * 64 := Nat.mul_le_mul (by omega) (by omega)
      refine en_ext (R := fun ys => ys = (span 0 k.toNat).map fun c => x' ++ [c]) (en_bndE (en_grd (rng_small (by omega) (by omega)) (en_eq _)) (en_lcM (fun c => x' ++ [c]) _ (by rw [span_length]; omega) fun c _ => en_grd (by rw [List.length_singleton]; omega) (en_eq _))) (fun ys ey => by rw [ey, List.length_map, span_length]; omega) fun ys ey => hk2 _ ⟨?_, fun i hi => ?_⟩
      · rw [ey, List.length_append, List.length_map, span_length, i1, List.length_append, List.length_singleton, Nat.add_mul, Nat.one_mul]
      · by_cases q : i < t.length
        · rw [List.getElem?_append_left q]
          exact i2 i q
        · rw [ey, List.length_append, List.length_map, span_length] at hi
          rw [List.getElem?_append_right (by omega), ey, List.getElem?_map, span_get (by omega)]
          refine ⟨x' ++ [0 + ((i - t.length : Nat) : Int)], rfl, hv.snoc ⟨by omega, by omega⟩, ?_⟩
          rw [no_snoc hv, hn]
          have e3 : (t.length : Int) = (pre2.length : Int) * k := by
            rw [i1]
            push_cast
            rw [Int.toNat_of_nonneg (by omega)]
          omega
    · rw [i1, pr_snoc, ← hl]
      push_cast
      rw [Int.toNat_of_nonneg (by omega)]
/-- two places that have a link -/
def Lk (ss : List Int) (w : Bool) (p q : List Int) : Prop := ∃ i : Nat, i < ss.length ∧ p.getD i 0 ≠ q.getD i 0 ∧ (∀ j : Nat, j < ss.length → j ≠ i → p.getD j 0 = q.getD j 0) ∧
  ((if p.getD i 0 - q.getD i 0 < 0 then -(p.getD i 0 - q.getD i 0) else p.getD i 0 - q.getD i 0) = 1 ∨ (w = true ∧ 2 < ss.getD i 0 ∧ (if p.getD i 0 - q.getD i 0 < 0 then -(p.getD i 0 - q.getD i 0) else p.getD i 0 - q.getD i 0) = ss.getD i 0 - 1))
end Cf
/-! k21: links as steps from a place. -/
namespace Cf
open PySem WL L2
variable {ss : List Int}
/-- a step from place a at the j-th coordinate leads to b -/
def Es (ss : List Int) (w : Bool) (a : Int) (j : Nat) (b : Int) : Prop := ∃ k x y, ss[j]? = some k ∧ (pl ss a)[j]? = some x ∧ x < y ∧ 0 ≤ x ∧ y < k ∧ b = no ss ((pl ss a).set j y) ∧ (y = x + 1 ∨ (w = true ∧ 2 < k ∧ x = 0 ∧ y = k - 1))
theorem set_ok {p : List Int} {j : Nat} {k y : Int} (hv : Vp ss p) (hk : ss[j]? = some k) (y0 : 0 ≤ y) (y1 : y < k) : Vp ss (p.set j y) := hv.set y0 fun k' e => by rw [hk] at e; cases e; exact y1
theorem getD_some {l : List Int} {i : Nat} {x : Int} (h : l[i]? = some x) : l.getD i 0 = x := by rw [List.getD_eq_getElem?_getD, h]; rfl
theorem link_iff (g : Sz ss) {w : Bool} {a b : Int} (a0 : 0 ≤ a) (a1 : a < pr ss) : (∃ j, Es ss w a j b) ↔ (a < b ∧ b < pr ss) ∧ Lk ss w (pl ss a) (pl ss b) := by
  obtain ⟨va, na⟩ := pl_ok g.pos a0 a1
  constructor
  · rintro ⟨j, k, x, y, hk, hx, hxy, x0, yk, eb, h⟩
    have vb := set_ok va hk (show 0 ≤ y by omega) yk
    obtain ⟨b0, b1⟩ := no_lt g.pos vb
    have eq : (pl ss a).set j y = pl ss b := pl_uniq g.pos vb eb.symm
    obtain ⟨wt, w1, ew⟩ := no_set (y := y) g.pos va hx
    have hj : j < ss.length := (List.getElem?_eq_some_iff.mp hk).1
    have hjp : j < (pl ss a).length := by rw [va.len]; exact hj
    refine ⟨⟨?_, by omega⟩, j, hj, ?_, fun i hi hij => ?_, ?_⟩
    · rw [eb, ew, na]
      have : 1 * 1 ≤ (y - x) * wt := Int.mul_le_mul (by omega) w1 (by decide) (by omega)
      omega
    · rw [← eq, getD_some hx, getD_set' hjp, if_pos rfl]
      omega
    · rw [← eq, getD_set' hjp, if_neg (Ne.symm hij)]
    · rw [← eq, getD_some hx, getD_set' hjp, if_pos rfl, getD_some hk, if_pos (by omega)]
      rcases h with h | ⟨h1, h2, h3, h4⟩
      · exact .inl (by omega)
      · exact .inr ⟨h1, h2, by omega⟩
  · rintro ⟨⟨hab, hb⟩, i, hi, hne, hoth, h⟩
    obtain ⟨vb, nb⟩ := pl_ok g.pos (show 0 ≤ b by omega) hb
    have hk : ss[i]? = some (ss.getD i 0) := by rw [List.getElem?_eq_getElem hi, getD_lt' hi]
    obtain ⟨x, hx, x0, xk⟩ := va.at hk
    obtain ⟨y, hy, y0, yk⟩ := vb.at hk
    rw [getD_some hx, getD_some hy] at hne h
    have hia : i < (pl ss a).length := by rw [va.len]; exact hi
    have eq : pl ss b = (pl ss a).set i y := by
      refine List.ext_getElem (by rw [List.length_set, va.len, vb.len]) fun j h1 h2 => ?_
      have hj : j < ss.length := by rw [← vb.len]; exact h1
      have e1 : (pl ss b)[j] = (pl ss b).getD j 0 := (getD_lt' h1).symm
      have e2 : ((pl ss a).set i y)[j] = ((pl ss a).set i y).getD j 0 := (getD_lt' h2).symm
      rw [e1, e2, getD_set' hia]
      by_cases z : i = j
      · rw [if_pos z, ← z, getD_some hy]
      · rw [if_neg z]
        exact (hoth j hj (Ne.symm z)).symm
    obtain ⟨wt, w1, ew⟩ := no_set (y := y) g.pos va hx
    have ebb : b = a + (y - x) * wt := by rw [← nb, eq, ew, na]
    have hxy : x < y := by
      rcases Int.lt_or_le x y with z | z
      · exact z
      · have : (y - x) * wt ≤ 0 := Int.mul_nonpos_of_nonpos_of_nonneg (by omega) (by omega)
        omega
    rw [if_pos (show x - y < 0 by omega)] at h
    refine ⟨i, _, x, y, hk, hx, hxy, x0, yk, by rw [← eq, nb], ?_⟩
    rcases h with h | ⟨h1, h2, h3⟩
    · exact .inl (by omega)
    · exact .inr ⟨h1, h2, by omega, by omega⟩
/-- two different steps lead to different places -/
theorem step_ne (g : Sz ss) {p : List Int} (hv : Vp ss p) {i j : Nat} {k k' x y z : Int} (hij : j ≠ i) (hx : p[j]? = some x) (hk : ss[j]? = some k) (hk' : ss[i]? = some k') (y0 : 0 ≤ y) (yk : y < k) (z0 : 0 ≤ z) (zk : z < k') (hxy : x ≠ y) : no ss (p.set j y) ≠ no ss (p.set i z) := fun e => by
  have := no_inj g.pos (set_ok hv hk y0 yk) (set_ok hv hk' z0 zk) e
  have hj : j < p.length := (List.getElem?_eq_some_iff.mp hx).1
  have h1 := congrArg (fun l => l[j]?) this
  have h1 : (p.set j y)[j]? = (p.set i z)[j]? := h1
  rw [List.getElem?_set_self hj, List.getElem?_set_ne (Ne.symm hij), hx] at h1
  exact hxy (Option.some.inj h1).symm
theorem step_ne2 (g : Sz ss) {p : List Int} (hv : Vp ss p) {i : Nat} {k x y z : Int} (hx : p[i]? = some x) (hk : ss[i]? = some k) (y0 : 0 ≤ y) (yk : y < k) (z0 : 0 ≤ z) (zk : z < k) (hyz : y ≠ z) : no ss (p.set i y) ≠ no ss (p.set i z) := fun e => by
  have := no_inj g.pos (set_ok hv hk y0 yk) (set_ok hv hk z0 zk) e
  have hj : i < p.length := (List.getElem?_eq_some_iff.mp hx).1
  have h1 := congrArg (fun l => l[i]?) this
  have h1 : (p.set i y)[i]? = (p.set i z)[i]? := h1
  rw [List.getElem?_set_self hj, List.getElem?_set_self hj] at h1
  exact hyz (Option.some.inj h1)
theorem en_stepped {p : List Int} {i : Nat} {x b : Int} (hx : p[i]? = some x) (hl : p.length ≤ 6) : Ens (noX (p_stepped p (i : Int) b)) (fun v => v = p.set i (x + b)) := by
  have hi : i < p.length := (List.getElem?_eq_some_iff.mp hx).1
  have ex : atI p (i : Int) = some x := by
    rw [at_getD 0 (by omega) (by omega)]
    show some (p.getD i 0) = _
    rw [getD_some hx]
  have c1 : cutA p none (some (i : Int)) = p.take i := cut_lo _ (by omega)
  have c2 : cutA p (some ((i : Int) + 1)) none = p.drop (i + 1) := by
    rw [cut_hi _ (by omega)]
    rfl
  have lt := List.length_take_le i p
  have ld : (p.drop (i + 1)).length ≤ p.length := by rw [List.length_drop]; omega
  refine en_noX ?_
  unfold p_stepped
  rw [c1, c2]
  refine en_bndE (en_bndE (en_bndE (en_bndE (en_optE ex) (en_eq _)) (en_eq _)) (en_grd (by rw [List.length_singleton]; omega) (en_eq _))) (en_grd (by rw [List.length_append, List.length_singleton]; omega) (en_ret ?_))
  rw [List.set_eq_take_append_cons_drop, if_pos hi, List.append_assoc]
  rfl
theorem en_nodes (g : Sz ss) : Ens (p_nodes_of ss) (fun v => v = pr ss) := by
  have h6 := g.len
  have h1 : 1 ≤ ss.length := by
    rcases Nat.lt_or_ge 0 ss.length with z | z
    · exact z
    · have : ss = [] := List.eq_nil_of_length_eq_zero (by omega)
      have h2 := g.p2
      rw [this] at h2
      exact absurd h2 (by decide)
  refine en_bndE (a := false) (en_bndE (a := false) (en_bndE (a := true) (en_sel (fun _ => en_ret (decide_eq_true (by omega))) fun z => absurd (of_decide_eq_false z) (by omega)) (en_eq _)) (en_sel (fun h => by cases h) fun _ => ?_)) (en_sel (fun h => by cases h) fun _ => ?_)
  · refine en_bndE (a := true) (en_bndE (en_bndE (en_eq _) (en_lcM (fun _ => true) _ (by omega) fun k hk => en_noX ?_)) (en_ret ?_)) (en_eq _)
    · show Ens (sel (decide ((1 : Int) ≤ k)) (ret (decide (k ≤ 64))) (ret false)) _
      exact en_sel (fun _ => en_ret (decide_eq_true (g.le k hk))) fun z => absurd (of_decide_eq_false z) (by have := g.pos k hk; omega)
    · rw [List.all_map]
      exact List.all_eq_true.mpr fun _ _ => rfl
  · refine en_bndE (en_eq _) (en_bndE (en_eq _) (en_for (fun (pre : List Int) (s : Int) => s = pr pre) ss rfl (fun pre k post s kk e hI hk => ?_) (fun s hI => ?_)))
    · have hkm : k ∈ ss := by rw [e]; simp
      have k1 := g.pos k hkm
      have k64 := g.le k hkm
      exact en_bndE (en_grd (.inr ⟨by omega, by omega⟩) (en_eq _)) (hk _ (by rw [hI, pr_snoc]))
    · have h2 := g.p2
      have h3 := g.p64
      refine en_bndE (a := false) (en_bndE (a := true) (en_sel (fun _ => en_ret (decide_eq_true (by omega))) fun z => absurd (of_decide_eq_false z) (by omega)) (en_eq _)) (en_sel (fun h => by cases h) fun _ => en_ret hI)
end Cf
/-! k21: the program's list of links. -/
namespace Cf
open PySem WL L2
variable {ss : List Int}
theorem es_at {w : Bool} {u b k x : Int} {i : Nat} (hk : ss[i]? = some k) (hx : (pl ss u)[i]? = some x) (x0 : 0 ≤ x) (x1 : x < k) : Es ss w u i b ↔ (x + 1 < k ∧ b = no ss ((pl ss u).set i (x + 1))) ∨ ((w = true ∧ 2 < k ∧ x = 0) ∧ b = no ss ((pl ss u).set i (k - 1))) := by
  constructor
  · rintro ⟨k', x', y, h1, h2, h3, h4, h5, h6, h7⟩
    rw [hk] at h1
    rw [hx] at h2
    cases h1
    cases h2
    rcases h7 with h7 | ⟨h7, h8, h9, h10⟩
    · exact .inl ⟨by omega, by rw [h6, h7]⟩
    · exact .inr ⟨⟨h7, h8, h9⟩, by rw [h6, h10]⟩
  · rintro (⟨h1, h2⟩ | ⟨⟨h1, h2, h3⟩, h4⟩)
    · exact ⟨k, x, x + 1, hk, hx, by omega, x0, h1, h2, .inl rfl⟩
    · exact ⟨k, x, k - 1, hk, hx, by omega, x0, by omega, h4, .inr ⟨h1, h2, h3, rfl⟩⟩
theorem add_ok {M : List (Int × Int)} {P : Int → Int → Prop} {z : Int × Int} (nd : M.Nodup) (hm : ∀ a b, (a, b) ∈ M ↔ P a b) (hz : ¬ P z.1 z.2) : (M ++ [z]).Nodup ∧ ∀ a b, (a, b) ∈ M ++ [z] ↔ P a b ∨ (a = z.1 ∧ b = z.2) := by
  refine ⟨List.nodup_append.mpr ⟨nd, by simp, fun a ha b hb e => ?_⟩, fun a b => ?_⟩
  · rw [List.mem_singleton.mp hb] at e
    rw [e] at ha
    exact hz ((hm z.1 z.2).mp ha)
  · rw [List.mem_append, List.mem_singleton, hm]
    constructor
    · rintro (h | h)
      · exact .inl h
      · rw [← h]; exact .inr ⟨rfl, rfl⟩
    · rintro (h | ⟨rfl, rfl⟩)
      · exact .inl h
      · exact .inr rfl
def PO (ss : List Int) (w : Bool) (u : Int) (i : Nat) (a b : Int) : Prop := ((0 ≤ a ∧ a < u) ∧ ∃ j, Es ss w a j b) ∨ (a = u ∧ ∃ j, j < i ∧ Es ss w u j b)
structure LI (M : List (Int × Int)) (P : Int → Int → Prop) (m : Nat) : Prop where
  nd : M.Nodup
  mem : ∀ a b, (a, b) ∈ M ↔ P a b
  len : M.length ≤ m
set_option maxHeartbeats 1000000 in
theorem en_mesh_links (g : Sz ss) (w : Bool) : Ens (p_mesh_links ss w) (fun M => LI M (fun a b => (0 ≤ a ∧ a < pr ss) ∧ ∃ j, Es ss w a j b) 800) := by
  have h6 := g.len
  have h64 := g.p64
  have h2 := g.p2
  refine en_bndE (en_eq _) (en_bndE (en_bndE (en_nodes g) (en_grd (rng_small (by omega) (by omega)) (en_eq _))) ?_)
  obtain ⟨N, hN⟩ : ∃ N : Nat, pr ss = (N : Int) := ⟨(pr ss).toNat, by omega⟩
  have eN : (pr ss).toNat = N := by omega
  rw [eN]
  refine en_forNat (n := N) (fun u M => LI M (fun a b => (0 ≤ a ∧ a < (u : Int)) ∧ ∃ j, Es ss w a j b) (12 * u)) ⟨by simp, fun a b => ⟨fun h => (by cases h), fun h => by have := h.1; omega⟩, Nat.le_refl _⟩ (fun u M k kx hu hI hk => ?_) (fun M h => en_ret ⟨h.nd, fun a b => by rw [h.mem, hN], by have := h.len; omega⟩)
  have u1 : (u : Int) < pr ss := by omega
  obtain ⟨vp, np⟩ := pl_ok g.pos (show (0 : Int) ≤ (u : Int) by omega) u1
  refine en_bndE (en_place g (by omega) u1) (en_bndE (en_eq _) ?_)
  have vl := vp.len
  refine en_for (fun (pre : List (Int × Int)) (M : List (Int × Int)) => LI M (PO ss w u pre.length) (12 * u + 2 * pre.length)) (enumI ss) ⟨hI.nd, fun a b => ?_, hI.len⟩ (fun pre z post M kk e hM hkk => ?_) (fun M hM => hk M ⟨hM.nd, fun a b => ?_, ?_⟩)
  · rw [hI.mem]
    constructor
    · exact fun h => .inl h
    · rintro (h | ⟨_, j, hj, _⟩)
      · exact h
      · exact absurd hj (Nat.not_lt_zero _)
  · have hpl := congrArg List.length e
    rw [enum_len, List.length_append, List.length_cons] at hpl
    have hi : pre.length < ss.length := by omega
    have ez : z = ((pre.length : Int), ss[pre.length]) := by
      have h1 := enum_get hi
      rw [e, List.getElem?_append_right (Nat.le_refl _), Nat.sub_self] at h1
      exact Option.some.inj h1
    have hk' : ss[pre.length]? = some ss[pre.length] := List.getElem?_eq_getElem hi
    generalize ss[pre.length] = kz at ez hk'
    subst ez
    obtain ⟨x, hx, x0, x1⟩ := vp.at hk'
    have ex : atI (pl ss (u : Int)) (pre.length : Int) = some x := by
      rw [at_getD 0 (by omega) (by omega)]
      show some ((pl ss (u : Int)).getD pre.length 0) = _
      rw [getD_some hx]
    have hs64 : ∀ k ∈ ss, 1 ≤ k ∧ k ≤ 64 := fun k hk => ⟨g.pos k hk, g.le k hk⟩
    have nodeOf : ∀ b : Int, Ens (bnd (bnd (noX (p_stepped (pl ss (u : Int)) (pre.length : Int) b)) fun x18 => noX (p_node_at ss x18)) fun x19 => ret ((u : Int), x19)) (fun v => v = ((u : Int), no ss ((pl ss (u : Int)).set pre.length (x + b)))) := fun b => en_bndE (en_bndE (en_stepped hx (by omega)) (en_node hs64 (by rw [List.length_set]; exact vl))) (en_eq _)
    -- no earlier step leads there
    have fresh : ∀ y, x ≠ y → 0 ≤ y → y < kz → ¬ PO ss w u pre.length (u : Int) (no ss ((pl ss (u : Int)).set pre.length y)) := fun y hxy y0 y1 h => by
      rcases h with h | ⟨_, j, hj, k2, x2, y2, q1, q2, q3, q4, q5, q6, _⟩
      · omega
      · exact step_ne g vp (Nat.ne_of_lt hj) q2 q1 hk' (by omega) q5 y0 y1 (by omega) q6.symm
    have fin : ∀ M', LI M' (fun a b => (PO ss w u pre.length a b ∨ (x + 1 < kz ∧ a = u ∧ b = no ss ((pl ss (u : Int)).set pre.length (x + 1)))) ∨ ((w = true ∧ 2 < kz ∧ x = 0) ∧ a = u ∧ b = no ss ((pl ss (u : Int)).set pre.length (kz - 1)))) (12 * u + 2 * pre.length + 2) → LI M' (PO ss w u (pre ++ [((pre.length : Int), kz)]).length) (12 * u + 2 * (pre ++ [((pre.length : Int), kz)]).length) := fun M' h => by
      have el : (pre ++ [((pre.length : Int), kz)]).length = pre.length + 1 := by rw [List.length_append, List.length_singleton]
      rw [el]
      refine ⟨h.nd, fun a b => ?_, by have := h.len; omega⟩
      rw [h.mem]
      constructor
      · rintro ((h | ⟨h1, rfl, h2⟩) | ⟨h1, rfl, h2⟩)
        · rcases h with h | ⟨h1, j, hj, h2⟩
          · exact .inl h
          · exact .inr ⟨h1, j, by omega, h2⟩
        · exact .inr ⟨rfl, pre.length, by omega, (es_at hk' hx x0 x1).mpr (.inl ⟨h1, h2⟩)⟩
        · exact .inr ⟨rfl, pre.length, by omega, (es_at hk' hx x0 x1).mpr (.inr ⟨h1, h2⟩)⟩
      · rintro (h | ⟨rfl, j, hj, h2⟩)
        · exact .inl (.inl (.inl h))
        · by_cases ej : j = pre.length
          · subst ej
            rcases (es_at hk' hx x0 x1).mp h2 with ⟨q1, q2⟩ | ⟨q1, q2⟩
            · exact .inl (.inr ⟨q1, rfl, q2⟩)
            · exact .inr ⟨q1, rfl, q2⟩
          · exact .inl (.inl (.inr ⟨rfl, j, by omega, h2⟩))
    refine en_letK (I := fun M' => LI M' (fun a b => PO ss w u pre.length a b ∨ (x + 1 < kz ∧ a = u ∧ b = no ss ((pl ss (u : Int)).set pre.length (x + 1)))) (12 * u + 2 * pre.length + 1)) (fun M' hM' => ?_) (fun k' hk2 => ?_)
    · refine en_bndE (a := decide (w = true ∧ 2 < kz ∧ x = 0)) (en_sel (fun hw => en_sel (fun h2 => en_bndE (en_optE ex) (en_ret ?_)) fun h2 => en_ret ?_) fun hw => en_ret ?_) (en_sel (fun q => ?_) fun q => ?_)
      · have h2 := of_decide_eq_true h2
        exact decide_eq_decide.mpr ⟨fun z => ⟨hw, h2, z⟩, fun z => z.2.2⟩
      · have h2 := of_decide_eq_false h2
        exact (decide_eq_false fun z => h2 z.2.1).symm
      · exact (decide_eq_false fun z => by rw [hw] at z; cases z.1).symm
      · have q := of_decide_eq_true q
        have ekz : x + (kz - 1) = kz - 1 := by omega
        have nf : ¬ (PO ss w u pre.length (u : Int) (no ss ((pl ss (u : Int)).set pre.length (kz - 1))) ∨ (x + 1 < kz ∧ (u : Int) = u ∧ no ss ((pl ss (u : Int)).set pre.length (kz - 1)) = no ss ((pl ss (u : Int)).set pre.length (x + 1)))) := by
          rintro (h | ⟨h1, _, h2⟩)
          · exact fresh (kz - 1) (by omega) (by omega) (by omega) h
          · exact step_ne2 g vp hx hk' (by omega) (by omega) (by omega) h1 (by omega) h2
        obtain ⟨nd, mm⟩ := add_ok (z := ((u : Int), no ss ((pl ss (u : Int)).set pre.length (kz - 1)))) hM'.nd hM'.mem nf
        have hl := hM'.len
        refine en_app (R := fun v => v = ((u : Int), no ss ((pl ss (u : Int)).set pre.length (kz - 1)))) ((nodeOf (kz - 1)).mono fun v hv => by rw [hv, ekz]) (by omega) fun a ea => hkk _ (fin _ ?_)
        rw [ea]
        refine ⟨nd, fun a b => ?_, by rw [List.length_append, List.length_singleton]; omega⟩
        rw [mm]
        constructor
        · rintro (h | ⟨h1, h2⟩)
          · exact .inl h
          · exact .inr ⟨q, h1, h2⟩
        · rintro (h | ⟨_, h1, h2⟩)
          · exact .inl h
          · exact .inr ⟨h1, h2⟩
      · have q := of_decide_eq_false q
        have hl := hM'.len
        refine hkk _ (fin _ ⟨hM'.nd, fun a b => ?_, by omega⟩)
        rw [hM'.mem]
        constructor
        · exact fun h => .inl h
        · rintro (h | h)
          · exact h
          · exact absurd h.1 q
    · have hl := hM.len
      refine en_bndE (a := decide (x + 1 < kz)) (en_bndE (en_bndE (en_optE ex) (en_eq _)) (en_eq _)) (en_sel (fun q => ?_) fun q => ?_)
      · have q := of_decide_eq_true q
        obtain ⟨nd, mm⟩ := add_ok (z := ((u : Int), no ss ((pl ss (u : Int)).set pre.length (x + 1)))) hM.nd hM.mem (fresh (x + 1) (by omega) (by omega) q)
        refine en_app (nodeOf 1) (by omega) fun a ea => hk2 _ ?_
        rw [ea]
        refine ⟨nd, fun a b => ?_, by rw [List.length_append, List.length_singleton]; omega⟩
        rw [mm]
        constructor
        · rintro (h | ⟨h1, h2⟩)
          · exact .inl h
          · exact .inr ⟨q, h1, h2⟩
        · rintro (h | ⟨_, h1, h2⟩)
          · exact .inl h
          · exact .inr ⟨h1, h2⟩
      · have q := of_decide_eq_false q
        refine hk2 _ ⟨hM.nd, fun a b => ?_, by omega⟩
        rw [hM.mem]
        constructor
        · exact fun h => .inl h
        · rintro (h | h)
          · exact h
          · exact absurd h.1 q
  · rw [hM.mem]
    have el : (enumI ss).length = ss.length := enum_len ss
    constructor
    · rintro (h | ⟨rfl, j, _, h⟩)
      · exact ⟨by omega, h.2⟩
      · exact ⟨by omega, j, h⟩
    · rintro ⟨h1, j, h⟩
      by_cases ea : a = u
      · subst ea
        have hj : j < ss.length := by
          obtain ⟨_, _, _, q1, _⟩ := h
          exact (List.getElem?_eq_some_iff.mp q1).1
        exact .inr ⟨rfl, j, by omega, h⟩
      · exact .inl ⟨by omega, j, h⟩
  · have := hM.len
    rw [enum_len] at this
    omega
end Cf
/-! the least of pairs of ints -/
namespace Cf
open PySem WL L2
theorem le_rowP : PySem.W.dataLe false (eT eI) = fun p q : List Int => decide (p ≤ q) := PySem.W.dataLe_rows (fun x : List Int => x)
end Cf
/-! k21: sorted lists of pairs; made; refused; the law. -/
namespace Cf
open PySem WL L2
variable {ss : List Int}
theorem uniq_r {α : Type} {r : α → α → Prop} (irr : ∀ a, ¬ r a a) (tr : ∀ a b c, r a b → r b c → r a c) : ∀ {l m : List α}, l.Pairwise r → m.Pairwise r → (∀ x, x ∈ l ↔ x ∈ m) → l = m
  | [], [], _, _, _ => rfl
  | [], b :: m, _, _, h => by have := (h b).mpr (by simp); cases this
  | a :: l, [], _, _, h => by have := (h a).mp (by simp); cases this
  | a :: l, b :: m, h1, h2, h => by
    obtain ⟨p1, q1⟩ := List.pairwise_cons.mp h1
    obtain ⟨p2, q2⟩ := List.pairwise_cons.mp h2
    have e : a = b := by
      rcases List.mem_cons.mp ((h a).mp (by simp)) with z | z
      · exact z
      · rcases List.mem_cons.mp ((h b).mpr (by simp)) with z' | z'
        · exact z'.symm
        · exact absurd (tr _ _ _ (p1 b z') (p2 a z)) (irr a)
    subst e
    rw [uniq_r irr tr q1 q2 fun x => ⟨fun hx => ?_, fun hx => ?_⟩]
    · rcases List.mem_cons.mp ((h x).mp (List.mem_cons_of_mem _ hx)) with z | z
      · rw [z] at hx; exact absurd (p1 a hx) (irr a)
      · exact z
    · rcases List.mem_cons.mp ((h x).mpr (List.mem_cons_of_mem _ hx)) with z | z
      · rw [z] at hx; exact absurd (p2 a hx) (irr a)
      · exact z
def lt2 (p q : Int × Int) : Prop := p.1 < q.1 ∨ (p.1 = q.1 ∧ p.2 < q.2)
theorem lt2_irr (a : Int × Int) : ¬ lt2 a a := fun h => by rcases h with h | h <;> omega
theorem lt2_tr (a b c : Int × Int) (h1 : lt2 a b) (h2 : lt2 b c) : lt2 a c := by
  unfold lt2 at *
  omega
theorem le_pair (p q : Int × Int) : PySem.W.dataLe false (e2 eI eI) p q = decide (p.1 < q.1 ∨ (p.1 = q.1 ∧ p.2 ≤ q.2)) := by
  have h : PySem.W.dataLe false (e2 eI eI) p q = decide ([p.1, p.2] ≤ [q.1, q.2]) := congrFun (congrFun le_rowP [p.1, p.2]) [q.1, q.2]
  rw [h]
  refine decide_eq_decide.mpr ?_
  rw [List.cons_le_cons_iff, List.cons_le_cons_iff]
  constructor
  · rintro (z | ⟨z, z' | z'⟩)
    · exact .inl z
    · exact .inr ⟨z, by omega⟩
    · exact .inr ⟨z, by omega⟩
  · rintro (z | ⟨z, z'⟩)
    · exact .inl z
    · rcases Int.lt_or_eq_of_le z' with y | y
      · exact .inr ⟨z, .inl y⟩
      · exact .inr ⟨z, .inr ⟨y, Std.le_refl _⟩⟩
theorem en_sortQ {l : List (Int × Int)} (hl : l.length ≤ 16777216) (nd : l.Nodup) : Ens (sortW (e2 eI eI) l) (fun v => v.Perm l ∧ v.Pairwise lt2) := by
  have hp : (l.mergeSort (PySem.W.dataLe false (e2 eI eI))).Perm l := List.mergeSort_perm _ _
  refine en_grd ⟨fun a ha b hb => ?_, .inl fun a ha => ?_, hl, fun x _ => ?_⟩ (en_ret ⟨hp, ?_⟩)
  · obtain ⟨x, _, rfl⟩ := List.mem_map.mp ha
    obtain ⟨y, _, rfl⟩ := List.mem_map.mp hb
    simp [e2, eI, PySem.W.alike, PySem.W.alikeAll]
  · obtain ⟨x, hx, rfl⟩ := List.mem_map.mp ha
    exact ⟨_, _, rfl⟩
  · simp [e2, eI, PyData.depth, PyData.depthAll]
  · have hs := List.pairwise_mergeSort (le := PySem.W.dataLe false (e2 eI eI)) (fun a b c h1 h2 => by
      rw [le_pair] at h1 h2 ⊢
      have h1 := of_decide_eq_true h1
      have h2 := of_decide_eq_true h2
      exact decide_eq_true (by omega)) (fun a b => by
      rw [le_pair, le_pair]
      by_cases h : a.1 < b.1 ∨ (a.1 = b.1 ∧ a.2 ≤ b.2)
      · rw [decide_eq_true h]; rfl
      · rw [decide_eq_false h, decide_eq_true (by omega)]; rfl) l
    have hn : (l.mergeSort (PySem.W.dataLe false (e2 eI eI))).Nodup := hp.nodup_iff.mpr nd
    refine (hs.and hn).imp fun {a b} h => ?_
    obtain ⟨h1, h2⟩ := h
    rw [le_pair] at h1
    have h1 := of_decide_eq_true h1
    have h2 : ¬ (a.1 = b.1 ∧ a.2 = b.2) := fun z => h2 (Prod.ext z.1 z.2)
    unfold lt2
    omega
def All1 (ss : List Int) : Prop := (1 ≤ (ss.length : Int) ∧ (ss.length : Int) ≤ 6) ∧ ∀ k ∈ ss, 1 ≤ k ∧ k ≤ 64
def Ok (ss : List Int) : Prop := All1 ss ∧ 2 ≤ pr ss ∧ pr ss ≤ 64
instance : Decidable (All1 ss) := by unfold All1; infer_instance
instance : Decidable (Ok ss) := by unfold Ok; infer_instance
theorem Ok.sz (h : Ok ss) : Sz ss := ⟨fun k hk => (h.1.2 k hk).1, fun k hk => (h.1.2 k hk).2, by have := h.1.1.2; omega, h.2.1, h.2.2⟩
structure Ls (ss : List Int) (w : Bool) (D : List (Int × Int)) : Prop where
  asc : D.Pairwise lt2
  mem : ∀ a b, (a, b) ∈ D ↔ (0 ≤ a ∧ a < pr ss) ∧ ∃ j, Es ss w a j b
theorem Ls.uniq {w : Bool} {D D' : List (Int × Int)} (h : Ls ss w D) (h' : Ls ss w D') : D = D' := uniq_r lt2_irr lt2_tr h.asc h'.asc fun x => by rw [h.mem x.1 x.2, h'.mem x.1 x.2]
theorem en_rg (a l m : Int) : Ens (sel (decide (l ≤ a)) (ret (decide (a ≤ m))) (ret false)) (fun b => b = decide (l ≤ a ∧ a ≤ m)) := by
  refine en_sel (fun q => en_ret ?_) fun q => en_ret ?_
  · have := of_decide_eq_true q
    exact decide_eq_decide.mpr ⟨fun h => ⟨this, h⟩, fun h => h.2⟩
  · have := of_decide_eq_false q
    exact (decide_eq_false fun h => this h.1).symm
theorem en_isnum (a l m : Int) : Ens (noX (p_is_numberI a l m)) (fun b => b = decide (l ≤ a ∧ a ≤ m)) := en_noX (en_rg a l m)
theorem bnd_go {α β : Type} {m : Wp α} {k : α → Wp β} {a : α} {P : β → Prop} {X : Xn → Prop} (h : Ens m (fun v => v = a)) (h2 : k a P X) : bnd m k P X := h _ X fun b e => e ▸ h2
theorem bnd_goR {α β : Type} {m : Wp α} {k : α → Wp β} {R : α → Prop} {P : β → Prop} {X : Xn → Prop} (h : Ens m R) (h2 : ∀ a, R a → k a P X) : bnd m k P X := h _ X fun b e => h2 b e
end Cf
/-! k21: what is due, what is made. -/
namespace Cf
open PySem WL L2
variable {ss : List Int}
theorem one_step (g : Sz ss) (w : Bool) : ∃ a b, (0 ≤ a ∧ a < pr ss) ∧ ∃ j, Es ss w a j b := by
  obtain ⟨i, k, hk, k2⟩ : ∃ (i : Nat) (k : Int), ss[i]? = some k ∧ 2 ≤ k := by
    refine Classical.byContradiction fun hn => ?_
    have h1 : ∀ k ∈ ss, k = 1 := fun k hk => by
      obtain ⟨i, hi, rfl⟩ := List.mem_iff_getElem.mp hk
      have := g.pos _ (List.getElem_mem hi)
      rcases Int.lt_or_le 1 ss[i] with z | z
      · exact absurd ⟨i, _, List.getElem?_eq_getElem hi, z⟩ hn
      · omega
    have h2 : ∀ l : List Int, (∀ k ∈ l, k = 1) → pr l = 1 := fun l => by
      induction l with
      | nil => exact fun _ => rfl
      | cons j l ih =>
        intro h
        show j * pr l = 1
        rw [ih fun k hk => h k (List.mem_cons_of_mem _ hk), h j (by simp)]
        rfl
    have := g.p2
    rw [h2 ss h1] at this
    omega
  have h2 := g.p2
  obtain ⟨v0, _⟩ := pl_ok g.pos (Int.le_refl 0) (show 0 < pr ss by omega)
  have va := set_ok v0 hk (Int.le_refl 0) (show 0 < k by omega)
  obtain ⟨x, hx, _⟩ := v0.at hk
  have hi : i < (pl ss 0).length := (List.getElem?_eq_some_iff.mp hx).1
  have ea := pl_uniq g.pos va rfl
  exact ⟨_, _, no_lt g.pos va, i, k, 0, 1, hk, by rw [← ea, List.getElem?_set_self hi], by decide, by decide, by omega, rfl, .inl rfl⟩
theorem en_made (g : Sz ss) {w : Bool} {M : List (Int × Int)} (h : LI M (fun a b => (0 ≤ a ∧ a < pr ss) ∧ ∃ j, Es ss w a j b) 800) (P : Int × List (Int × Int) → Prop) (X : Xn → Prop) (h1 : ∀ D, Ls ss w D → D.length ≤ 200 → P (pr ss, D)) (h2 : ∀ D, Ls ss w D → ¬ D.length ≤ 200 → X (.plain 0)) : p_made (pr ss) M P X := by
  have hl := h.len
  obtain ⟨a, b, hab⟩ := one_step g w
  have hne : M ≠ [] := fun z => by
    have := (h.mem a b).mpr hab
    rw [z] at this
    cases this
  have hemp : M.isEmpty = false := by
    cases M with
    | nil => exact absurd rfl hne
    | cons _ _ => rfl
  have hD : ∀ D, D.Perm M ∧ D.Pairwise lt2 → Ls ss w D := fun D hD => ⟨hD.2, fun a b => by rw [hD.1.mem_iff, h.mem]⟩
  have hsort := en_sortQ (l := M) (by omega) h.nd
  unfold p_made
  refine bnd_go (a := decide ((400 : Int) < 2 * (M.length : Int))) (en_bndE (en_bndE (en_isnum _ _ _) (en_eq _)) ?_) ?_
  · rw [decide_eq_true (show (2 : Int) ≤ pr ss ∧ pr ss ≤ 64 from ⟨g.p2, g.p64⟩)]
    refine en_sel (fun h => by cases h) fun _ => ?_
    rw [hemp]
    exact en_sel (fun h => by cases h) fun _ => en_eq _
  · by_cases q : (400 : Int) < 2 * (M.length : Int)
    · rw [decide_eq_true q]
      have hp : (M.mergeSort (PySem.W.dataLe false (e2 eI eI))).Perm M := List.mergeSort_perm _ _
      have hq := hsort (fun v => v.Perm M ∧ v.Pairwise lt2) (fun _ => False) fun _ h => h
      obtain ⟨_, hq⟩ := hq
      exact h2 _ (hD _ hq) (by rw [hp.length_eq]; omega)
    · rw [decide_eq_false q]
      refine bnd_goR hsort fun D hp => ?_
      exact h1 D (hD D hp) (by rw [hp.1.length_eq]; omega)
end Cf
/-! k22: walks in a graph, their least lengths; loops over range(n). -/
namespace Cf
open PySem WL L2
section
variable {E : Nat → Nat → Prop} {u v w a b L k n : Nat}
inductive Wk (E : Nat → Nat → Prop) : Nat → Nat → Nat → Prop
  | nil (u : Nat) : Wk E 0 u u
  | snoc {L u v w : Nat} : Wk E L u v → E v w → Wk E (L + 1) u w
theorem Wk.add (h : Wk E a u v) (k : Wk E b v w) : Wk E (a + b) u w := by
  induction k with
  | nil => exact h
  | snoc _ e ih => exact .snoc (ih h) e
def Tk (E : Nat → Nat → Prop) : Nat → Nat → Nat → Nat → Prop
  | 0, u, v, L => (u = v ∧ L = 0) ∨ (E u v ∧ L = 1)
  | k + 1, u, v, L => Tk E k u v L ∨ ∃ a b, Tk E k u k a ∧ Tk E k k v b ∧ L = a + b
theorem Tk.up {j : Nat} : Tk E k u v L → Tk E (k + j) u v L := fun h => by
  induction j with
  | zero => exact h
  | succ j ih => exact .inl ih
theorem Tk.le : ∀ {k u v L : Nat}, Tk E k u v L → L ≤ 2 ^ k
  | 0, _, _, _, h => by rcases h with ⟨_, rfl⟩ | ⟨_, rfl⟩ <;> decide
  | k + 1, _, _, _, h => by
    have e : 2 ^ (k + 1) = 2 ^ k + 2 ^ k := by rw [Nat.pow_succ]; omega
    rcases h with h | ⟨a, b, h1, h2, rfl⟩
    · have := h.le; omega
    · have := h1.le; have := h2.le; omega
theorem Tk.comp : ∀ {k u v w a b : Nat}, v < k → Tk E k u v a → Tk E k v w b → ∃ c, c ≤ a + b ∧ Tk E k u w c
  | 0, _, _, _, _, _, hv, _, _ => absurd hv (Nat.not_lt_zero _)
  | k + 1, u, v, w, a, b, hv, h1, h2 => by
    by_cases e : v = k
    · subst e
      have x1 : ∃ a', a' ≤ a ∧ Tk E v u v a' := by
        rcases h1 with h | ⟨a1, a2, p, _, rfl⟩
        · exact ⟨a, Nat.le_refl _, h⟩
        · exact ⟨a1, Nat.le_add_right _ _, p⟩
      have x2 : ∃ b', b' ≤ b ∧ Tk E v v w b' := by
        rcases h2 with h | ⟨b1, b2, _, p, rfl⟩
        · exact ⟨b, Nat.le_refl _, h⟩
        · exact ⟨b2, Nat.le_add_left _ _, p⟩
      obtain ⟨a', la, pa⟩ := x1
      obtain ⟨b', lb, pb⟩ := x2
      exact ⟨a' + b', by omega, .inr ⟨a', b', pa, pb, rfl⟩⟩
    · have hv : v < k := by omega
      rcases h1 with h1 | ⟨a1, a2, p1, p2, rfl⟩ <;> rcases h2 with h2 | ⟨b1, b2, q1, q2, rfl⟩
      · obtain ⟨c, lc, pc⟩ := Tk.comp hv h1 h2
        exact ⟨c, lc, .inl pc⟩
      · obtain ⟨c, lc, pc⟩ := Tk.comp hv h1 q1
        exact ⟨c + b2, by omega, .inr ⟨c, b2, pc, q2, rfl⟩⟩
      · obtain ⟨c, lc, pc⟩ := Tk.comp hv p2 h2
        exact ⟨a1 + c, by omega, .inr ⟨a1, c, p1, pc, rfl⟩⟩
      · exact ⟨a1 + b2, by omega, .inr ⟨a1, b2, p1, q2, rfl⟩⟩
theorem Wk.tk (hE : ∀ u v, E u v → u < n ∧ v < n) (h : Wk E L u v) : ∃ c, c ≤ L ∧ Tk E n u v c := by
  induction h with
  | nil u => exact ⟨0, Nat.le_refl _, by have := (Tk.up (E := E) (k := 0) (j := n) (.inl ⟨rfl, rfl⟩) : Tk E (0 + n) u u 0); rwa [Nat.zero_add] at this⟩
  | @snoc L u v w _ e ih =>
    obtain ⟨c, lc, pc⟩ := ih
    have h1 : Tk E (0 + n) v w 1 := Tk.up (.inr ⟨e, rfl⟩)
    rw [Nat.zero_add] at h1
    obtain ⟨d, ld, pd⟩ := Tk.comp (hE _ _ e).1 pc h1
    exact ⟨d, by omega, pd⟩
end
/-- for i in range(n) -/
theorem en_forN {S F : Type} {body : Int → S → (S → Wp F) → (S → Wp F) → Wp F} {exit : S → Wp F} {Q : F → Prop} {n : Nat} (I : Nat → S → Prop) {s : S} (h0 : I 0 s)
    (hb : ∀ i s k kx, i < n → I i s → (∀ s', I (i + 1) s' → Ens (k s') Q) → Ens (body (i : Int) s k kx) Q) (hx : ∀ s, I n s → Ens (exit s) Q) : Ens (forK body exit (span 0 n) s) Q := by
  refine en_forT (fun pre s => I pre.length s) (I n) (span 0 n) h0 (fun pre x post s k kx e hI hk _ => ?_) (fun s h => by rwa [span_length] at h) hx
  have hp : pre.length < n := by
    have := congrArg List.length e
    rw [span_length, List.length_append, List.length_cons] at this
    omega
  have hx : x = (pre.length : Int) := by
    have h1 := span_get (lo := 0) hp
    rw [show span 0 n = pre ++ x :: post from e, List.getElem?_append_right (Nat.le_refl _), Nat.sub_self] at h1
    have h1 : some x = some (0 + (pre.length : Int)) := h1
    have := Option.some.inj h1
    omega
  subst hx
  exact hb _ s k kx hp hI fun s' h => hk s' (by rw [List.length_append, List.length_singleton]; exact h)
/-- a cell of a square of numbers -/
def fc (f : List (List Int)) (u v : Nat) : Int := (f.getD u []).getD v 0
structure Sq (n : Nat) (f : List (List Int)) : Prop where
  len : f.length = n
  row : ∀ u, u < n → (f.getD u []).length = n
def setF (f : List (List Int)) (u v : Nat) (x : Int) : List (List Int) := f.set u ((f.getD u []).set v x)
theorem Sq.set {n : Nat} {f : List (List Int)} (h : Sq n f) {u : Nat} (hu : u < n) (v : Nat) (x : Int) : Sq n (setF f u v x) := by
  have hl := h.len
  refine ⟨by unfold setF; rw [List.length_set]; exact h.len, fun i hi => ?_⟩
  unfold setF
  rw [getD_set' (by omega)]
  split
  · rw [List.length_set]; exact h.row u hu
  · exact h.row i hi
theorem Sq.fc_set {n : Nat} {f : List (List Int)} (h : Sq n f) {u v : Nat} (hu : u < n) (hv : v < n) (x : Int) (i j : Nat) : fc (setF f u v x) i j = if i = u ∧ j = v then x else fc f i j := by
  have hl := h.len
  unfold setF fc
  rw [getD_set' (by omega)]
  by_cases e : u = i
  · rw [if_pos e, getD_set' (by rw [h.row u hu]; exact hv)]
    subst e
    by_cases e2 : v = j
    · rw [if_pos e2, if_pos ⟨rfl, e2.symm⟩]
    · rw [if_neg e2, if_neg fun z => e2 z.2.symm]
  · rw [if_neg e, if_neg fun z => e z.1.symm]
theorem en_alSet {F : Type} {n : Nat} {f : List (List Int)} (h : Sq n f) {j : Nat} {d : Int} {w : Wp Int} {wd : Wp Int} {x : Int} {k : List (List Int) → Wp F} {Q : F → Prop} (hj : j < n) (d0 : 0 ≤ d) (d1 : d < n) (hw : Ens w (fun v => v = x)) (hd : Ens wd (fun v => v = d)) (hk : Ens (k (setF f j d.toNat x)) Q) : Ens (alSetW f j w wd k) Q := by
  have hl := h.len
  have hr := h.row j hj
  have e1 : f[j]? = some (f.getD j []) := by rw [List.getElem?_eq_getElem (by omega), getD_lt' (by omega)]
  exact en_bndE hw (en_bndE (en_optE e1) (en_bndE hd (en_bndE (en_optE (a := d.toNat) (by unfold ixN; rw [if_pos d0, if_pos (by omega)])) hk)))
theorem en_open {F : Type} {n : Nat} {f : List (List Int)} (h : Sq n f) {d : Int} {wd : Wp Int} {k : Nat → Wp F} {Q : F → Prop} (d0 : 0 ≤ d) (d1 : d < n) (hd : Ens wd (fun v => v = d)) (hk : Ens (k d.toNat) Q) : Ens (openW f wd k) Q := by
  have hl := h.len
  exact en_bndE hd (en_bndE (en_optE (a := d.toNat) (by unfold ixN; rw [if_pos d0, if_pos (by omega)])) hk)
theorem Sq.at {n : Nat} {f : List (List Int)} (h : Sq n f) {u : Nat} {v : Int} (hu : u < n) (v0 : 0 ≤ v) (v1 : v < n) : atI (f.getD u []) v = some (fc f u v.toNat) := by
  have hr := h.row u hu
  rw [at_getD 0 v0 (by omega)]
  rfl
theorem Sq.get {n : Nat} {f : List (List Int)} (h : Sq n f) {u : Nat} (hu : u < n) : f[u]? = some (f.getD u []) := by
  have hl := h.len
  rw [List.getElem?_eq_getElem (by omega), getD_lt' (by omega)]
theorem Sq.atR {n : Nat} {f : List (List Int)} (h : Sq n f) {u : Int} (u0 : 0 ≤ u) (u1 : u < n) : atI f u = some (f.getD u.toNat []) := by
  have hl := h.len
  exact at_getD [] u0 (by omega)
end Cf
/-! k22: the checker's table of distances. -/
namespace Cf
open PySem WL L2
abbrev Ch3 := List (Int × Int × Int)
structure NG2 (n : Nat) (chs : Ch3) : Prop where
  n2 : 2 ≤ n
  n9 : n ≤ 64
  ch : ∀ c ∈ chs, 0 ≤ c.1 ∧ c.1 < n ∧ 0 ≤ c.2.1 ∧ c.2.1 < n
  ml : chs.length ≤ 400
def Eg (chs : Ch3) (u v : Nat) : Prop := ∃ c ∈ chs, c.1 = (u : Int) ∧ c.2.1 = (v : Int)
structure Snd (chs : Ch3) (n : Nat) (f : List (List Int)) : Prop where
  sq : Sq n f
  lo : ∀ u v, u < n → v < n → 0 ≤ fc f u v ∧ fc f u v ≤ 999
  wk : ∀ u v, u < n → v < n → fc f u v = 999 ∨ Wk (Eg chs) (fc f u v).toNat u v
def Bd (chs : Ch3) (n k : Nat) (f : List (List Int)) : Prop := ∀ u v L, u < n → v < n → Tk (Eg chs) k u v L → fc f u v ≤ L
variable {n : Nat} {chs : Ch3}
theorem Snd.set {f : List (List Int)} (h : Snd chs n f) {u v : Nat} (hu : u < n) (hv : v < n) {x : Int} (x0 : 0 ≤ x) (x1 : x ≤ 999) (hw : x = 999 ∨ Wk (Eg chs) x.toNat u v) : Snd chs n (setF f u v x) := by
  refine ⟨h.sq.set hu v x, fun i j hi hj => ?_, fun i j hi hj => ?_⟩
  · rw [h.sq.fc_set hu hv]
    split
    · exact ⟨x0, x1⟩
    · exact h.lo i j hi hj
  · rw [h.sq.fc_set hu hv]
    split
    · next e => rw [e.1, e.2]; exact hw
    · exact h.wk i j hi hj
theorem fc_set_le {f : List (List Int)} (h : Snd chs n f) {u v : Nat} (hu : u < n) (hv : v < n) {x : Int} (hx : x ≤ fc f u v) (i j : Nat) : fc (setF f u v x) i j ≤ fc f i j := by
  rw [h.sq.fc_set hu hv]
  split
  · next e => rw [e.1, e.2]; exact hx
  · exact Int.le_refl _
/-- the nodes of a shortest walk differ -/
theorem Wk.nodes {E : Nat → Nat → Prop} {n : Nat} (hE : ∀ u v, E u v → u < n ∧ v < n) {u : Nat} (hu : u < n) : ∀ {L a v : Nat}, Wk E L a v → a = u → (∀ j, j < L → ¬ Wk E j u v) → ∃ xs : List Int, xs.length = L + 1 ∧ xs.Nodup ∧ ∀ x ∈ xs, ∃ w i : Nat, x = (w : Int) ∧ w < n ∧ i ≤ L ∧ Wk E i u w
  | _, _, _, .nil a, e, _ => by
    subst e
    exact ⟨[(a : Int)], rfl, List.nodup_cons.mpr ⟨by simp, List.nodup_nil⟩, fun x hx => ⟨a, 0, List.mem_singleton.mp hx, hu, Nat.le_refl _, .nil _⟩⟩
  | _, _, _, .snoc (L := L) (v := v) (w := w) h e, ea, hm => by
    subst ea
    obtain ⟨xs, h1, h2, h3⟩ := Wk.nodes hE hu h rfl fun j hj z => hm (j + 1) (by omega) (.snoc z e)
    refine ⟨(w : Int) :: xs, by rw [List.length_cons, h1], List.nodup_cons.mpr ⟨fun hw => ?_, h2⟩, fun x hx => ?_⟩
    · obtain ⟨w', i, ew, _, hi, z⟩ := h3 _ hw
      have ew : w = w' := by omega
      subst ew
      exact hm i (by omega) z
    · rcases List.mem_cons.mp hx with q | hx
      · exact ⟨w, L + 1, q, (hE _ _ e).2, Nat.le_refl _, .snoc h e⟩
      · obtain ⟨w', i, e1, e2, e3, e4⟩ := h3 x hx
        exact ⟨w', i, e1, e2, by omega, e4⟩
theorem Wk.least {E : Nat → Nat → Prop} {u v : Nat} : ∀ (k L : Nat), L ≤ k → Wk E L u v → ∃ m, m ≤ L ∧ Wk E m u v ∧ ∀ j, j < m → ¬ Wk E j u v
  | 0, L, hL, h => ⟨L, Nat.le_refl _, h, fun j hj => absurd hj (by omega)⟩
  | k + 1, L, hL, h => by
    by_cases q : ∃ j, j < L ∧ Wk E j u v
    · obtain ⟨j, hj, z⟩ := q
      obtain ⟨m, h1, h2, h3⟩ := Wk.least k j (by omega) z
      exact ⟨m, by omega, h2, h3⟩
    · exact ⟨L, Nat.le_refl _, h, fun j hj z => q ⟨j, hj, z⟩⟩
theorem Wk.short {E : Nat → Nat → Prop} {n L u v : Nat} (hE : ∀ u v, E u v → u < n ∧ v < n) (hu : u < n) (h : Wk E L u v) : ∃ m, m ≤ L ∧ m < n ∧ Wk E m u v := by
  obtain ⟨m, h1, h2, h3⟩ := Wk.least L L (Nat.le_refl _) h
  obtain ⟨xs, e1, e2, e3⟩ := Wk.nodes hE hu h2 rfl h3
  have := nd_le e2 (b := span 0 n) fun x hx => by
    obtain ⟨w, i, ew, hw, _⟩ := e3 x hx
    rw [ew]
    exact mem_span.mpr ⟨by omega, by omega⟩
  rw [span_length] at this
  exact ⟨m, h1, by omega, h2⟩
structure FarP (chs : Ch3) (n : Nat) (f : List (List Int)) : Prop where
  sd : Snd chs n f
  le : ∀ u v L, u < n → v < n → Wk (Eg chs) L u v → fc f u v ≤ L ∧ fc f u v ≤ 512
set_option maxHeartbeats 1000000 in
theorem en_far (g : NG2 n chs) : Ens (noX (l_far ((n : Int), chs))) (FarP chs n) := by
  have hn2 := g.n2
  have hn9 := g.n9
  have rngn : Rng ((n : Int)) := rng_small (by omega) (by omega)
  have hE : ∀ u v, Eg chs u v → u < n ∧ v < n := fun u v ⟨c, hc, e1, e2⟩ => by
    have := g.ch c hc
    omega
  refine en_noX (en_bndE (en_eq _) ?_)
  refine en_bndE (a := (span 0 n).map fun c2 => (span 0 n).map fun c3 => if c2 = c3 then (0 : Int) else 999) (en_bndE (en_grd rngn (en_eq _)) (en_lcM (fun c2 => (span 0 n).map fun c3 => if c2 = c3 then (0 : Int) else 999) _ (by rw [span_length]; omega) fun c2 _ => en_bndE (en_grd rngn (en_eq _)) (en_lcM (fun c3 => if c2 = c3 then (0 : Int) else 999) _ (by rw [span_length]; omega) fun c3 _ => ?_))) ?_
  · refine en_sel (fun q => en_ret ?_) fun q => en_ret ?_
    · rw [if_pos (of_decide_eq_true q)]
    · rw [if_neg (of_decide_eq_false q)]
  generalize ef : ((span 0 n).map fun c2 => (span 0 n).map fun c3 => if c2 = c3 then (0 : Int) else 999) = f0
  have row0 : ∀ u, u < n → f0.getD u [] = (span 0 n).map fun c3 => if (u : Int) = c3 then (0 : Int) else 999 := fun u hu => by
    rw [← ef, List.getD_eq_getElem?_getD, List.getElem?_map, span_get hu]
    show (span 0 n).map (fun c3 => if (0 + (u : Int)) = c3 then (0 : Int) else 999) = _
    rw [Int.zero_add]
  have fc0 : ∀ u v, u < n → v < n → fc f0 u v = if u = v then 0 else 999 := fun u v hu hv => by
    unfold fc
    rw [row0 u hu, List.getD_eq_getElem?_getD, List.getElem?_map, span_get hv]
    show (if (u : Int) = 0 + (v : Int) then (0 : Int) else 999) = _
    by_cases e : u = v
    · rw [if_pos e, if_pos (by omega)]
    · rw [if_neg e, if_neg (by omega)]
  have s0 : Snd chs n f0 := by
    refine ⟨⟨by rw [← ef, List.length_map, span_length], fun u hu => by rw [row0 u hu, List.length_map, span_length]⟩, fun u v hu hv => ?_, fun u v hu hv => ?_⟩
    · rw [fc0 u v hu hv]; split <;> decide
    · rw [fc0 u v hu hv]
      split
      · next e => subst e; exact .inr (.nil _)
      · exact .inl rfl
  have d0 : ∀ u, u < n → fc f0 u u ≤ 0 := fun u hu => by rw [fc0 u u hu hu, if_pos rfl]; decide
  clear ef
  refine en_bndE (en_eq _) (en_forT (fun pre f => Snd chs n f ∧ (∀ u, u < n → fc f u u ≤ 0) ∧ ∀ c ∈ pre, fc f c.1.toNat c.2.1.toNat ≤ 1) (fun f => Snd chs n f ∧ Bd chs n 0 f) chs ⟨s0, d0, fun c h => (by cases h)⟩ (fun pre x post f k kx e ⟨h1, h2, h3⟩ hk _ => ?_) (fun f ⟨h1, h2, h3⟩ => ⟨h1, fun u v L hu hv ht => ?_⟩) (fun f ⟨h1, h2⟩ => ?_))
  · have hx : x ∈ chs := by rw [e]; simp
    obtain ⟨a0, a1, b0, b1⟩ := g.ch x hx
    have ha : x.1.toNat < n := by omega
    have hb : x.2.1.toNat < n := by omega
    have hgo : ∀ y, (y = if (1 : Int) < fc f x.1.toNat x.2.1.toNat then (1 : Int) else fc f x.1.toNat x.2.1.toNat) → Ens (k (setF f x.1.toNat x.2.1.toNat y)) (FarP chs n) := fun y ey => by
      have hlo := h1.lo _ _ ha hb
      have hy : y ≤ fc f x.1.toNat x.2.1.toNat ∧ y ≤ 1 ∧ 0 ≤ y := by rw [ey]; split <;> omega
      refine hk _ ⟨h1.set ha hb hy.2.2 (by omega) (.inr ?_), fun u hu => Int.le_trans (fc_set_le h1 ha hb hy.1 u u) (h2 u hu), fun c hc => ?_⟩
      · rw [ey]
        split
        · exact .snoc (.nil _) ⟨x, hx, by omega, by omega⟩
        · next q =>
          rcases h1.wk _ _ ha hb with z | z
          · omega
          · exact z
      · rcases List.mem_append.mp hc with hc | hc
        · exact Int.le_trans (fc_set_le h1 ha hb hy.1 _ _) (h3 c hc)
        · rw [List.mem_singleton.mp hc, h1.sq.fc_set ha hb, if_pos ⟨rfl, rfl⟩]
          exact hy.2.1
    exact en_open h1.sq a0 a1 (en_eq _) (en_alSet h1.sq ha b0 b1 (en_bndE (en_bndE (en_optE (h1.sq.get ha)) (en_optE (h1.sq.at ha b0 b1))) (en_eq _)) (en_eq _) (hgo _ rfl))
  · rcases ht with ⟨rfl, rfl⟩ | ⟨⟨c, hc, e1, e2⟩, rfl⟩
    · exact h2 u hu
    · have := h3 c hc
      rw [e1, e2] at this
      exact this
  · refine en_bndE (en_grd rngn (en_eq _)) (en_forN (n := n) (fun i f => Snd chs n f ∧ Bd chs n i f) ⟨h1, h2⟩ (fun k f kk kx hk ⟨h1, h2⟩ hkk => ?_) (fun f ⟨h1, h2⟩ => en_ret ⟨h1, fun u v L hu hv hw => ?_⟩))
    · refine en_bndE (en_grd rngn (en_eq _)) (en_forN (n := n) (fun i f => Snd chs n f ∧ Bd chs n k f ∧ ∀ u v L, u < i → v < n → Tk (Eg chs) (k + 1) u v L → fc f u v ≤ L) ⟨h1, h2, fun u v L hu => absurd hu (Nat.not_lt_zero _)⟩ (fun i f ki kx hi ⟨h1, h2, h3⟩ hki => ?_) (fun f ⟨h1, h2, h3⟩ => hkk f ⟨h1, h3⟩))
      refine en_open h1.sq (by omega) (by omega) (en_eq _) ?_
      refine en_bndE (en_grd rngn (en_eq _)) (en_forN (n := n) (fun j f => Snd chs n f ∧ Bd chs n k f ∧ (∀ u v L, u < i → v < n → Tk (Eg chs) (k + 1) u v L → fc f u v ≤ L) ∧ ∀ v L, v < j → Tk (Eg chs) (k + 1) i v L → fc f i v ≤ L) ⟨h1, h2, h3, fun v L hv => absurd hv (Nat.not_lt_zero _)⟩ (fun j f kj kx hj ⟨h1, h2, h3, h4⟩ hkj => ?_) (fun f ⟨h1, h2, h3, h4⟩ => hki f ⟨h1, h2, fun u v L hu hv ht => ?_⟩))
      · have hgo : ∀ y, (y = if fc f i k + fc f k j < fc f i j then fc f i k + fc f k j else fc f i j) → Ens (kj (setF f i j y)) (FarP chs n) := fun y ey => by
          have l1 := h1.lo _ _ hi hj
          have l2 := h1.lo _ _ hi hk
          have l3 := h1.lo _ _ hk hj
          have hy : y ≤ fc f i j ∧ y ≤ fc f i k + fc f k j ∧ 0 ≤ y := by rw [ey]; split <;> omega
          have dn := fc_set_le h1 hi hj hy.1
          refine hkj _ ⟨h1.set hi hj hy.2.2 (by omega) ?_, fun u v L hu hv ht => Int.le_trans (dn u v) (h2 u v L hu hv ht), fun u v L hu hv ht => Int.le_trans (dn u v) (h3 u v L hu hv ht), fun v L hv ht => ?_⟩
          · rw [ey]
            split
            · next q =>
              rcases h1.wk _ _ hi hk with z | z
              · omega
              rcases h1.wk _ _ hk hj with z' | z'
              · omega
              have := z.add z'
              rw [← Int.toNat_add l2.1 l3.1] at this
              exact .inr this
            · exact h1.wk _ _ hi hj
          · by_cases ev : v = j
            · subst ev
              rw [h1.sq.fc_set hi hj, if_pos ⟨rfl, rfl⟩]
              rcases ht with ht | ⟨a, b, ta, tb, rfl⟩
              · exact Int.le_trans hy.1 (h2 _ _ _ hi hj ht)
              · have := h2 _ _ _ hi hk ta
                have := h2 _ _ _ hk hj tb
                omega
            · exact Int.le_trans (dn i v) (h4 v L (by omega) ht)
        have e1 : Ens (bnd (opt (f)[((i : Int)).toNat]?) fun x30 => opt (atI x30 (j : Int))) (fun v => v = fc f i j) := en_bndE (en_optE (h1.sq.get hi)) (en_optE (h1.sq.at hi (by omega) (by omega)))
        have e2 : Ens (bnd (opt (f)[((i : Int)).toNat]?) fun x31 => opt (atI x31 (k : Int))) (fun v => v = fc f i k) := en_bndE (en_optE (h1.sq.get hi)) (en_optE (h1.sq.at hi (by omega) (by omega)))
        have e3 : Ens (bnd (opt (atI f (k : Int))) fun x32 => opt (atI x32 (j : Int))) (fun v => v = fc f k j) := en_bndE (en_optE (h1.sq.atR (by omega) (by omega))) (en_optE (h1.sq.at hk (by omega) (by omega)))
        exact en_alSet h1.sq hi (by omega) (by omega) (en_bndE e1 (en_bndE (en_bndE e2 (en_bndE e3 (en_eq _))) (en_eq _))) (en_eq _) (hgo _ rfl)
      · by_cases e : u = i
        · subst e
          exact h4 v L hv ht
        · exact h3 u v L (by omega) hv ht
    · obtain ⟨m, lm, hm, wm⟩ := hw.short hE hu
      obtain ⟨c, lc, pc⟩ := wm.tk hE
      have h3 := h2 u v c hu hv pc
      omega
end Cf
/-! k22: the program's distances. -/
namespace Cf
open PySem WL L2
variable {n : Nat} {chs : Ch3}
structure BsP (chs : Ch3) (n : Nat) (b : List (List Int)) : Prop where
  len : b.length = n
  mem : ∀ u, u < n → ∀ v : Int, v ∈ b.getD u [] ↔ ∃ c ∈ chs, c.1 = (u : Int) ∧ c.2.1 = v
theorem repL_one {α : Type} (x : α) (k : Int) : repL [x] k = List.replicate k.toNat x := by
  unfold repL
  exact List.flatten_replicate_singleton
theorem en_next (g : NG2 n chs) : Ens (noX (p_nodes_next ((n : Int), chs))) (BsP chs n) := by
  have hn9 := g.n9
  have hml := g.ml
  have rngn : Rng ((n : Int)) := rng_small (by omega) (by omega)
  refine en_noX (en_bndE (en_eq _) (en_bndE (en_bndE (en_grd rngn (en_eq _)) (en_lcM (fun _ => ([] : List Int)) _ (by rw [span_length]; omega) fun _ _ => en_eq _)) ?_))
  generalize ef : (span 0 ((n : Int)).toNat).map (fun _ => ([] : List Int)) = f0
  have l0 : f0.length = n := by rw [← ef, List.length_map, span_length]; omega
  have m0 : ∀ u, u < n → f0.getD u [] = [] := fun u hu => by
    rw [← ef, List.getD_eq_getElem?_getD, List.getElem?_map, span_get (by omega)]
    rfl
  clear ef
  refine en_bndE (en_eq _) (en_forT (fun pre f => f.length = n ∧ (∀ u, u < n → (f.getD u []).length ≤ pre.length) ∧ ∀ u, u < n → ∀ v : Int, v ∈ f.getD u [] ↔ ∃ c ∈ pre, c.1 = (u : Int) ∧ c.2.1 = v) (fun f => BsP chs n f) chs ⟨l0, fun u hu => by rw [m0 u hu]; exact Nat.le_refl _, fun u hu v => by rw [m0 u hu]; exact ⟨fun h => (by cases h), fun ⟨c, h, _⟩ => (by cases h)⟩⟩ (fun pre x post f k kx e ⟨h1, h2, h3⟩ hk _ => ?_) (fun f ⟨h1, _, h2⟩ => ⟨h1, h2⟩) (fun f h => en_ret h))
  have hx : x ∈ chs := by rw [e]; simp
  have hp : pre.length < chs.length := by rw [e, List.length_append, List.length_cons]; omega
  obtain ⟨a0, a1, b0, b1⟩ := g.ch x hx
  have ha : x.1.toNat < n := by omega
  have hat : atI f x.1 = some (f.getD x.1.toNat []) := at_getD [] a0 (by omega)
  refine en_bndE (en_bndE (en_optE hat) (en_eq _)) (en_sel (fun q => ?_) fun q => ?_)
  · have hg : f[x.1.toNat]? = some (f.getD x.1.toNat []) := by rw [List.getElem?_eq_getElem (by omega), getD_lt' (by omega)]
    have hlr := h2 _ ha
    unfold app2W rowW
    refine en_bndE (en_eq _) (en_bndE (en_optE (a := x.1.toNat) (by unfold ixN; rw [if_pos a0, if_pos (by omega)])) (en_bndE (en_optE hg) (en_bndE (en_eq _) (en_grd (by omega) (hk _ ⟨by rw [List.length_set]; exact h1, fun u hu => ?_, fun u hu v => ?_⟩)))))
    · rw [getD_set' (by omega), List.length_append, List.length_singleton]
      split
      · rw [List.length_append, List.length_singleton]; omega
      · have := h2 u hu; omega
    · rw [getD_set' (by omega)]
      split
      · next eu =>
        rw [List.mem_append, List.mem_singleton, h3 _ ha v]
        constructor
        · rintro (⟨c, hc, e1, e2⟩ | rfl)
          · exact ⟨c, List.mem_append_left _ hc, by omega, e2⟩
          · exact ⟨x, List.mem_append_right _ (List.mem_singleton.mpr rfl), by omega, rfl⟩
        · rintro ⟨c, hc, e1, e2⟩
          rcases List.mem_append.mp hc with hc | hc
          · exact .inl ⟨c, hc, by omega, e2⟩
          · rw [List.mem_singleton.mp hc] at e2; exact .inr e2.symm
      · next eu =>
        rw [h3 u hu v]
        constructor
        · rintro ⟨c, hc, e1, e2⟩
          exact ⟨c, List.mem_append_left _ hc, e1, e2⟩
        · rintro ⟨c, hc, e1, e2⟩
          rcases List.mem_append.mp hc with hc | hc
          · exact ⟨c, hc, e1, e2⟩
          · rw [List.mem_singleton.mp hc] at e1; omega
  · have q : x.2.1 ∈ f.getD x.1.toNat [] := by simpa using q
    refine hk _ ⟨h1, fun u hu => ?_, fun u hu v => ?_⟩
    · rw [List.length_append]; have := h2 u hu; omega
    · rw [h3 u hu v]
      constructor
      · rintro ⟨c, hc, e1, e2⟩
        exact ⟨c, List.mem_append_left _ hc, e1, e2⟩
      · rintro ⟨c, hc, e1, e2⟩
        rcases List.mem_append.mp hc with hc | hc
        · exact ⟨c, hc, e1, e2⟩
        · rw [List.mem_singleton.mp hc] at e1 e2
          have hu' : x.1.toNat = u := by omega
          rw [hu', h3 u hu] at q
          obtain ⟨c', hc', e1', e2'⟩ := q
          exact ⟨c', hc', e1', by rw [e2']; exact e2⟩
def nn (f : List (Option Int)) : Nat := f.countP Option.isNone
theorem nn_set : ∀ {f : List (Option Int)} {i : Nat} (x : Int), i < f.length → f.getD i none = none → nn (f.set i (some x)) + 1 = nn f
  | [], i, _, h, _ => absurd h (Nat.not_lt_zero _)
  | a :: f, 0, x, _, h => by
    have h : a = none := h
    subst h
    unfold nn
    rw [List.set_cons_zero, List.countP_cons, List.countP_cons]
    simp
  | a :: f, i + 1, x, hl, h => by
    have hl : i < f.length := by rw [List.length_cons] at hl; omega
    have h : f.getD i none = none := by simpa using h
    have := nn_set (f := f) (i := i) x hl h
    unfold nn at this ⊢
    rw [List.set_cons_succ, List.countP_cons, List.countP_cons]
    omega
abbrev fo (f : List (Option Int)) (v : Nat) : Option Int := f.getD v none
structure Bf (chs : Ch3) (n u l : Nat) (f : List (Option Int)) : Prop where
  len : f.length = n
  st : fo f u = some 0
  snd : ∀ v d, v < n → fo f v = some d → 0 ≤ d ∧ d ≤ l ∧ Wk (Eg chs) d.toNat u v
def At (n : Nat) (f : List (Option Int)) (l : Nat) (xs : List Int) : Prop := ∀ x ∈ xs, 0 ≤ x ∧ x < n ∧ fo f x.toNat = some (l : Int)
def Cl (chs : Ch3) (n : Nat) (f : List (Option Int)) (p : Nat → Prop) : Prop := ∀ v d, v < n → fo f v = some d → p v → ∀ w, Eg chs v w → ∃ e, fo f w = some e ∧ e ≤ d + 1
theorem fo_set {f : List (Option Int)} {y : Nat} {x : Int} (hy : y < f.length) (w : Nat) : fo (f.set y (some x)) w = if y = w then some x else fo f w := getD_set' hy
theorem fo_keep {f : List (Option Int)} {y : Nat} {x : Int} (hy : y < f.length) (hn : fo f y = none) {w : Nat} {e : Int} (h : fo f w = some e) : fo (f.set y (some x)) w = some e := by
  rw [fo_set hy, if_neg]
  · exact h
  · rintro rfl
    rw [hn] at h; cases h
theorem walk_le {f : List (Option Int)} {u : Nat} (hE : ∀ u v, Eg chs u v → u < n ∧ v < n) (h0 : fo f u = some 0) (hc : Cl chs n f fun _ => True) {L a v : Nat} (h : Wk (Eg chs) L a v) : a = u → ∃ d, fo f v = some d ∧ d ≤ L := by
  induction h with
  | nil a => exact fun e => ⟨0, by rw [e]; exact h0, Int.le_refl _⟩
  | snoc _ e ih =>
    intro ea
    obtain ⟨d, hd, ld⟩ := ih ea
    obtain ⟨e', he, le⟩ := hc _ d (hE _ _ e).1 hd trivial _ e
    exact ⟨e', he, by omega⟩
structure DP (chs : Ch3) (n u : Nat) (r : List (Option Int)) : Prop where
  len : r.length = n
  snd : ∀ v d, v < n → fo r v = some d → 0 ≤ d ∧ Wk (Eg chs) d.toNat u v
  le : ∀ v L, v < n → Wk (Eg chs) L u v → ∃ d, fo r v = some d ∧ d ≤ L
set_option maxHeartbeats 1000000 in
theorem en_dist (g : NG2 n chs) {b : List (List Int)} (hb : BsP chs n b) {u : Nat} (hu : u < n) : Ens (noX (p_distances_from b (u : Int))) (DP chs n u) := by
  have hn9 := g.n9
  have hE : ∀ u v, Eg chs u v → u < n ∧ v < n := fun u v ⟨c, hc, e1, e2⟩ => by
    have := g.ch c hc
    omega
  have hbl := hb.len
  have one : [(none : Option Int)].length = 1 := rfl
  refine en_noX (en_bndE (a := List.replicate n none) (en_grd ⟨by omega, by omega, by rw [one]; omega⟩ (en_ret (by rw [repL_one, hbl]; rfl))) ?_)
  refine en_setW (en_eq _) (en_eq _) (by omega) (by rw [List.length_replicate]; omega) fun a ea => ?_
  subst ea
  have hru : (List.replicate n (none : Option Int)).length = n := List.length_replicate
  have e0 : ((u : Int)).toNat = u := rfl
  rw [e0]
  have f0 : ∀ w, w < n → fo ((List.replicate n (none : Option Int)).set u (some 0)) w = if u = w then some 0 else none := fun w hw => by
    rw [fo_set (by omega)]
    split
    · rfl
    · unfold fo
      rw [List.getD_eq_getElem?_getD, List.getElem?_replicate, if_pos hw]; rfl
  refine en_bndE (en_eq _) ?_
  refine en_whileT (fun s => ∃ l : Nat, Bf chs n u l s.1 ∧ At n s.1 l s.2 ∧ Cl chs n s.1 fun v => (v : Int) ∉ s.2) (fun s => DP chs n u s.1) (fun s => !s.2.isEmpty) (fun s => nn s.1 + s.2.length) ⟨0, ⟨by rw [List.length_set]; exact hru, by rw [f0 u hu, if_pos rfl], fun v d hv hd => ?_⟩, fun x hx => ?_, fun v d hv hd hp => ?_⟩ (fun s _ => en_eq _) (fun s kc kx hI hs hk _ => ?_) (fun s hI hs => ?_) (fun s hJ => en_ret hJ)
  · rw [f0 v hv] at hd
    split at hd
    · next e =>
      cases hd
      subst e
      exact ⟨by decide, by decide, .nil _⟩
    · cases hd
  · rw [List.mem_singleton.mp hx]
    exact ⟨by omega, by omega, by rw [e0, f0 u hu, if_pos rfl]; rfl⟩
  · rw [f0 v hv] at hd
    split at hd
    · next e =>
      subst e
      exact absurd (List.mem_singleton.mpr rfl) hp
    · cases hd
  · obtain ⟨l, hB, hA, hC⟩ := hI
    have hs : s.2 ≠ [] := fun z => by rw [z] at hs; cases hs
    have hn0 : nn s.1 ≤ n := by
      have := List.countP_le_length (p := Option.isNone) (l := s.1)
      rw [hB.len] at this
      exact this
    have hs1 : 0 < s.2.length := List.length_pos_iff.mpr hs
    refine en_bndE (en_eq _) ?_
    refine en_forT (fun pre t => Bf chs n u (l + 1) t.1 ∧ At n t.1 l s.2 ∧ At n t.1 (l + 1) t.2 ∧ (Cl chs n t.1 fun v => (v : Int) ∉ t.2 ∧ ((v : Int) ∈ s.2 → (v : Int) ∈ pre)) ∧ nn t.1 + t.2.length = nn s.1)
      (fun t => Bf chs n u (l + 1) t.1 ∧ At n t.1 (l + 1) t.2 ∧ (Cl chs n t.1 fun v => (v : Int) ∉ t.2) ∧ nn t.1 + t.2.length = nn s.1) s.2
      ⟨⟨hB.len, hB.st, fun v d hv hd => ?_⟩, hA, fun x hx => (by cases hx), fun v d hv hd hp => hC v d hv hd fun z => absurd (hp.2 z) (by simp), rfl⟩ (fun pre x post t k1 kx1 e ⟨h1, h2, h3, h4, h5⟩ hk1 _ => ?_) (fun t ⟨h1, h2, h3, h4, h5⟩ => ⟨h1, h3, fun v d hv hd hp => h4 v d hv hd ⟨hp, fun z => z⟩, h5⟩)
      (fun t ⟨h1, h2, h3, h4⟩ => hk _ ⟨l + 1, h1, h2, h3⟩ (by show nn t.1 + t.2.length < _; omega))
    · obtain ⟨a, b', c⟩ := hB.snd v d hv hd
      exact ⟨a, by omega, c⟩
    · have hx : x ∈ s.2 := by rw [e]; simp
      obtain ⟨x0, x1, hxl⟩ := h2 x hx
      have hxn : x.toNat < n := by omega
      refine en_bndE (en_optE (at_getD [] x0 (by omega))) ?_
      refine en_forT (fun pre2 t => Bf chs n u (l + 1) t.1 ∧ At n t.1 l s.2 ∧ At n t.1 (l + 1) t.2 ∧ (Cl chs n t.1 fun v => (v : Int) ∉ t.2 ∧ ((v : Int) ∈ s.2 → (v : Int) ∈ pre)) ∧ nn t.1 + t.2.length = nn s.1 ∧ ∀ y ∈ pre2, ∃ e, fo t.1 y.toNat = some e ∧ e ≤ (l : Int) + 1)
        (fun t => Bf chs n u (l + 1) t.1 ∧ At n t.1 l s.2 ∧ At n t.1 (l + 1) t.2 ∧ (Cl chs n t.1 fun v => (v : Int) ∉ t.2 ∧ ((v : Int) ∈ s.2 → (v : Int) ∈ pre ++ [x])) ∧ nn t.1 + t.2.length = nn s.1) (b.getD x.toNat [])
        ⟨h1, h2, h3, h4, h5, fun y hy => (by cases hy)⟩ (fun pre2 y post2 t k2 kx2 e2 ⟨h1, h2, h3, h4, h5, h6⟩ hk2 _ => ?_) (fun t ⟨h1, h2, h3, h4, h5, h6⟩ => ⟨h1, h2, h3, fun v d hv hd hp w hw => ?_, h5⟩) (fun t h => hk1 _ h)
      · have hy : y ∈ b.getD x.toNat [] := by rw [e2]; simp
        obtain ⟨c, hc, c1, c2⟩ := (hb.mem _ hxn y).mp hy
        obtain ⟨_, _, y0, y1⟩ := g.ch c hc
        have y0 : 0 ≤ y := by omega
        have hyn : y.toNat < n := by omega
        have eg : Eg chs x.toNat y.toNat := ⟨c, hc, c1, by omega⟩
        have hlen := h1.len
        have hfx := (h2 x hx).2.2
        have hty : atI t.1 y = some (fo t.1 y.toNat) := at_getD none y0 (by omega)
        have htx : atI t.1 x = some (some (l : Int)) := by rw [at_getD none x0 (by omega)]; exact congrArg some hfx
        refine en_bndE (en_bndE (en_optE hty) (en_eq _)) (en_sel (fun q => ?_) fun q => ?_)
        · have q : fo t.1 y.toNat = none := by simpa using q
          have hyl : y.toNat < t.1.length := by omega
          refine en_setW (R := fun v => v = some ((l : Int) + 1)) (en_bndE (en_bndE (en_bndE (en_optE htx) (en_optE rfl)) (en_eq _)) (en_eq _)) (en_eq _) y0 (by omega) fun a ea => ?_
          subst ea
          have hcnt := nn_set (f := t.1) (i := y.toNat) ((l : Int) + 1) hyl q
          refine en_app (en_eq _) (by omega) fun a ea => ?_
          rw [ea]
          have kp : ∀ {w : Nat} {e : Int}, fo t.1 w = some e → fo (t.1.set y.toNat (some ((l : Int) + 1))) w = some e := fun h => fo_keep hyl q h
          have new : fo (t.1.set y.toNat (some ((l : Int) + 1))) y.toNat = some ((l : Int) + 1) := by rw [fo_set hyl, if_pos rfl]
          refine hk2 _ ⟨⟨by rw [List.length_set]; exact hlen, kp h1.st, fun v d hv hd => ?_⟩, fun z hz => ⟨(h2 z hz).1, (h2 z hz).2.1, kp (h2 z hz).2.2⟩, fun z hz => ?_, fun v d hv hd hp w hw => ?_, ?_, fun z hz => ?_⟩
          · rw [fo_set hyl] at hd
            split at hd
            · next ev =>
              cases hd
              refine ⟨by omega, by omega, ?_⟩
              have hw := (h1.snd _ _ hxn hfx).2.2
              rw [← ev, show ((l : Int) + 1).toNat = ((l : Int)).toNat + 1 by omega]
              exact .snoc hw eg
            · exact h1.snd v d hv hd
          · rcases List.mem_append.mp hz with hz | hz
            · exact ⟨(h3 z hz).1, (h3 z hz).2.1, kp (h3 z hz).2.2⟩
            · rw [List.mem_singleton.mp hz]
              exact ⟨y0, by omega, new⟩
          · rw [fo_set hyl] at hd
            split at hd
            · next ev => exact absurd (List.mem_append_right _ (List.mem_singleton.mpr (by omega))) hp.1
            · obtain ⟨e', he', le'⟩ := h4 v d hv hd ⟨fun z => hp.1 (List.mem_append_left _ z), hp.2⟩ w hw
              exact ⟨e', kp he', le'⟩
          · show nn (t.1.set _ _) + (t.2 ++ [y]).length = _
            rw [List.length_append, List.length_singleton]
            omega
          · rcases List.mem_append.mp hz with hz | hz
            · obtain ⟨e', he', le'⟩ := h6 z hz
              exact ⟨e', kp he', le'⟩
            · rw [List.mem_singleton.mp hz]
              exact ⟨_, new, Int.le_refl _⟩
        · refine hk2 _ ⟨h1, h2, h3, h4, h5, fun z hz => ?_⟩
          rcases List.mem_append.mp hz with hz | hz
          · exact h6 z hz
          · rw [List.mem_singleton.mp hz]
            cases ez : fo t.1 y.toNat with
            | none => rw [ez] at q; cases q
            | some d =>
              have := (h1.snd _ d hyn ez).2.1
              exact ⟨d, rfl, by omega⟩
      · by_cases ev : (v : Int) = x
        · have ev' : x.toNat = v := by omega
          have hfx := (h2 x hx).2.2
          rw [ev', hd] at hfx
          cases hfx
          obtain ⟨c, hc, c1, c2⟩ := hw
          obtain ⟨e', he', le'⟩ := h6 (w : Int) ((hb.mem _ hxn _).mpr ⟨c, hc, by omega, c2⟩)
          exact ⟨e', he', le'⟩
        · refine h4 v d hv hd ⟨hp.1, fun z => ?_⟩ w hw
          rcases List.mem_append.mp (hp.2 z) with z' | z'
          · exact z'
          · exact absurd (List.mem_singleton.mp z') ev
  · obtain ⟨l, hB, hA, hC⟩ := hI
    have hs : s.2 = [] := by simpa using hs
    refine ⟨hB.len, fun v d hv hd => ⟨(hB.snd v d hv hd).1, (hB.snd v d hv hd).2.2⟩, fun v L hv hw => walk_le hE hB.st (fun v d hv hd _ => hC v d hv hd (by rw [hs]; exact fun z => (by cases z))) hw rfl⟩
end Cf
/-! k22: the distances agree; what is drawn. -/
namespace Cf
open PySem WL L2
variable {n : Nat} {chs : Ch3}
theorem ext_getD {α : Type} {l m : List α} (z : α) (hl : l.length = m.length) (h : ∀ i, i < l.length → l.getD i z = m.getD i z) : l = m := by
  refine List.ext_getElem hl fun i h1 h2 => ?_
  have := h i h1
  rwa [getD_lt' h1, getD_lt' h2] at this
theorem map_getD {α β : Type} {g : α → β} {l : List α} {v : Nat} (h : v < l.length) (z : α) (w : β) : (l.map g).getD v w = g (l.getD v z) := by
  rw [List.getD_eq_getElem?_getD, List.getElem?_map, List.getElem?_eq_getElem h, getD_lt' h]
  rfl
def dcell (x : Int) : Option Int := if (900 : Int) < x then none else some x
def dueF (f : List (List Int)) : List (List (Option Int)) := f.map fun row => row.map dcell
theorem FarP.cell {f : List (List Int)} (F : FarP chs n f) {u v : Nat} (hu : u < n) (hv : v < n) : fc f u v = 999 ∨ fc f u v ≤ 512 := by
  rcases F.sd.wk u v hu hv with h | h
  · exact .inl h
  · exact .inr (F.le u v _ hu hv h).2
theorem dist_due {f : List (List Int)} (F : FarP chs n f) {r : List (List (Option Int))} (hl : r.length = n) (hr : ∀ u, u < n → DP chs n u (r.getD u [])) : r = dueF f := by
  have hsq := F.sd.sq
  have hfl := hsq.len
  refine ext_getD [] (by unfold dueF; rw [List.length_map]; omega) fun u hu => ?_
  have hu : u < n := by omega
  have D := hr u hu
  have e1 : (dueF f).getD u [] = (f.getD u []).map dcell := by
    unfold dueF
    rw [List.getD_eq_getElem?_getD, List.getElem?_map, hsq.get hu]
    rfl
  rw [e1]
  have hrow := hsq.row u hu
  refine ext_getD none (by rw [List.length_map, hrow]; exact D.len) fun v hv => ?_
  have hv : v < n := by have := D.len; omega
  have e2 : ((f.getD u []).map dcell).getD v none = dcell (fc f u v) := map_getD (by omega) 0 none
  rw [e2]
  have lo := F.sd.lo u v hu hv
  unfold dcell
  split
  · next h =>
    cases e : (r.getD u []).getD v none with
    | none => rfl
    | some d =>
      obtain ⟨d0, w⟩ := D.snd v d hv e
      have := (F.le u v _ hu hv w).2
      omega
  · next h =>
    rcases F.sd.wk u v hu hv with z | w
    · omega
    · obtain ⟨d, e, ld⟩ := D.le v _ hv w
      have e' : (r.getD u []).getD v none = some d := e
      rw [e']
      obtain ⟨d0, w'⟩ := D.snd v d hv e
      have := (F.le u v _ hu hv w').1
      have : d = fc f u v := by omega
      rw [this]
theorem en_dists (g : NG2 n chs) {f : List (List Int)} (F : FarP chs n f) : Ens (noX (p_distances ((n : Int), chs))) (fun r => r = dueF f) := by
  have hn9 := g.n9
  refine en_noX (en_bnd (en_next g) fun b hb => en_bndE (en_grd (rng_small (by show (0 : Int) ≤ (n : Int); omega) (by show (n : Int) < _; omega)) (en_eq _)) ?_)
  refine (en_lcA (R := fun x r => ∀ u : Nat, x = (u : Int) → DP chs n u r) _ (by rw [span_length]; show ((n : Int)).toNat ≤ _; omega) fun x hx => ?_).mono fun r ⟨h1, h2⟩ => ?_
  · obtain ⟨x0, x1⟩ := mem_span.mp hx
    have x1 : x < 0 + (((n : Int)).toNat : Int) := x1
    have e : x = ((x.toNat : Nat) : Int) := by omega
    rw [e]
    exact (en_dist g hb (u := x.toNat) (by omega)).mono fun r h u eu => by
      have : x.toNat = u := by omega
      rwa [this] at h
  · rw [span_length] at h1
    have h1 : r.length = n := h1
    refine dist_due F h1 fun u hu => ?_
    obtain ⟨y, e1, e2⟩ := h2 u _ (span_get (show u < ((n : Int)).toNat by omega))
    rw [List.getD_eq_getElem?_getD, e1]
    exact e2 u (by omega)
theorem ee_OI : EE (eO eI) 0 := ee_O ee_I (fun _ => rfl) fun _ => rfl
structure FrP (n : Nat) (ls : List (Int × Int)) : Prop where
  n2 : 2 ≤ n
  n9 : n ≤ 64
  ch : ∀ c ∈ ls, 0 ≤ c.1 ∧ c.1 < n ∧ 0 ≤ c.2 ∧ c.2 < n
  ml : ls.length ≤ 100
theorem en_drawn : Ens (noX (l_drawn_network 7 16)) (fun r => ∃ (n : Nat) (chs : Ch3), r = ((n : Int), chs) ∧ NG2 n chs) := by
  refine en_noX (en_bnd (R := fun v => ∃ n : Nat, v = (n : Int) ∧ 2 ≤ n ∧ n ≤ 9) (en_bnd (en_take (by decide) (by decide)) fun a ha => en_ret ⟨(2 + a).toNat, by omega, by omega, by omega⟩) fun v ⟨n, ev, n2, n9⟩ => ?_)
  rw [ev]
  refine en_bndE (en_eq _) (en_bnd (R := fun l => l.length ≤ 20) (en_bnd (R := fun x => 0 ≤ x ∧ x ≤ 20) (en_bnd (en_take (by decide) (by decide)) fun a ha => en_ret (by omega)) fun x hx => en_grd (rng_small (by omega) (by omega)) (en_ret (by rw [span_length]; omega))) fun l hl => ?_)
  refine en_for (fun pre s => s.length = pre.length ∧ ∀ c ∈ s, 0 ≤ c.1 ∧ c.1 < (n : Int) ∧ 0 ≤ c.2.1 ∧ c.2.1 < (n : Int)) l ⟨rfl, fun c h => (by cases h)⟩ (fun pre x post s k e ⟨h1, h2⟩ hk => ?_) (fun s ⟨h1, h2⟩ => en_ret ⟨n, s, rfl, n2, by omega, h2, by omega⟩)
  have hp := congrArg List.length e
  rw [List.length_append, List.length_cons] at hp
  refine en_bnd (en_take (by omega) (by omega)) fun a ⟨a0, a1⟩ => en_bnd (R := fun b => 0 ≤ b ∧ b < (n : Int)) (en_bnd (R := fun _ => True) (en_bnd (en_take (by omega) (by omega)) fun _ _ => en_ret trivial) fun b _ => en_grd (by omega) (en_ret (fmod_in (by omega)))) fun b ⟨b0, b1⟩ => ?_
  refine en_app (R := fun c => c.1 = a ∧ c.2.1 = b) (en_bnd (R := fun _ => True) (en_bnd (en_take (by decide) (by decide)) fun _ _ => en_ret trivial) fun r _ => en_ret ⟨rfl, rfl⟩) (by omega) fun c ⟨c1, c2⟩ => hk _ ⟨by rw [List.length_append, List.length_append, h1]; rfl, fun z hz => ?_⟩
  rcases List.mem_append.mp hz with hz | hz
  · exact h2 z hz
  · rw [List.mem_singleton.mp hz]
    omega
end Cf
/-! k22: the network of a frame; the law. -/
namespace Cf
open PySem WL L2
def chsOf (ls : List (Int × Int)) (L : Nat) (room : Int) : Ch3 := ls.flatMap fun x => List.replicate L (x.1, x.2, room) ++ List.replicate L (x.2, x.1, room)
theorem chsOf_snoc (ls : List (Int × Int)) (x : Int × Int) (L : Nat) (room : Int) : chsOf (ls ++ [x]) L room = chsOf ls L room ++ (List.replicate L (x.1, x.2, room) ++ List.replicate L (x.2, x.1, room)) := by
  unfold chsOf
  rw [List.flatMap_append]
  simp only [List.flatMap_cons, List.flatMap_nil, List.append_nil]
theorem chsOf_cons (ls : List (Int × Int)) (x : Int × Int) (L : Nat) (room : Int) : chsOf (x :: ls) L room = (List.replicate L (x.1, x.2, room) ++ List.replicate L (x.2, x.1, room)) ++ chsOf ls L room := by
  unfold chsOf
  rw [List.flatMap_cons]
theorem chsOf_len (L : Nat) (room : Int) : ∀ ls : List (Int × Int), (chsOf ls L room).length = 2 * L * ls.length
  | [] => by unfold chsOf; rfl
  | x :: ls => by
    rw [chsOf_cons, List.length_append, List.length_append, List.length_replicate, List.length_replicate, chsOf_len L room ls, List.length_cons, Nat.mul_add]
    omega
def Vd (lanes room : Int) (k : Nat) : Prop := (1 ≤ lanes ∧ lanes ≤ 8) ∧ (1 ≤ room ∧ room ≤ 1000) ∧ 2 * lanes * k ≤ 400
instance (lanes room : Int) (k : Nat) : Decidable (Vd lanes room k) := by unfold Vd; infer_instance
variable {n : Nat} {ls : List (Int × Int)} {lanes room : Int}
theorem en_net (g : FrP n ls) (v : Vd lanes room ls.length) : Ens (p_network_of ((n : Int), ls) lanes room) (fun r => r = ((n : Int), chsOf ls lanes.toNat room)) := by
  have hml := g.ml
  obtain ⟨⟨a0, a1⟩, ⟨b0, b1⟩, c1⟩ := id v
  refine en_bndE (en_eq _) (en_bndE (a := false) (en_bndE (en_bndE (en_isnum _ _ _) (en_eq _)) ?_) ?_)
  · rw [decide_eq_true (show (1 : Int) ≤ lanes ∧ lanes ≤ 8 from ⟨a0, a1⟩)]
    refine en_sel (fun h => by cases h) fun _ => en_bndE (en_isnum _ _ _) (en_ret ?_)
    rw [decide_eq_true (show (1 : Int) ≤ room ∧ room ≤ 1000 from ⟨b0, b1⟩)]
    rfl
  refine en_sel (fun h => by cases h) fun _ => ?_
  refine en_bndE (a := false) (en_bndE (en_grd (.inl ⟨by omega, by omega⟩) (en_eq _)) (en_ret (decide_eq_false (by show ¬ (400 : Int) < 2 * lanes * (ls.length : Int); omega)))) (en_sel (fun h => by cases h) fun _ => ?_)
  refine en_bndE (en_eq _) (en_bndE (en_eq _) (en_for (fun pre s => s = chsOf pre lanes.toNat room) ls rfl (fun pre x post s k e h1 hk => ?_) (fun s h1 => en_ret (by rw [h1]))))
  have hp := congrArg List.length e
  rw [List.length_append, List.length_cons] at hp
  have hs : s.length ≤ 16 * pre.length := by
    rw [h1, chsOf_len]
    have : 2 * lanes.toNat * pre.length ≤ 16 * pre.length := Nat.mul_le_mul_right _ (by omega)
    exact this
  have one : ∀ z : Int × Int × Int, [z].length * lanes.toNat ≤ 16777216 := fun z => by rw [List.length_singleton]; omega
  refine en_ext (R := fun ys => ys = List.replicate lanes.toNat (x.1, x.2, room) ++ List.replicate lanes.toNat (x.2, x.1, room)) (en_bndE (en_grd ⟨by omega, by omega, one _⟩ (en_ret (repL_one _ _))) (en_bndE (en_grd ⟨by omega, by omega, one _⟩ (en_ret (repL_one _ _))) (en_grd (by rw [List.length_replicate, List.length_replicate]; omega) (en_eq _)))) (fun ys ey => ?_) fun ys ey => hk _ ?_
  · rw [ey, List.length_append, List.length_replicate, List.length_replicate]; omega
  · rw [ey, h1, chsOf_snoc]
theorem en_link {l c : Int} (hl : 0 < l ∧ l ≤ 8) : Ens (noX (p_link_of l c)) (fun v => v = [c / (2 * l), c % (2 * l) / l, c % (2 * l) % l]) := en_noX (en_bndE (en_grd ⟨by omega, by omega⟩ (en_eq _)) (en_bndE (en_bndE (en_grd ⟨by omega, by omega⟩ (en_eq _)) (en_eq _)) (en_grd (by show (3 : Nat) ≤ 16777216; decide) (en_eq _))))
end Cf
namespace Cf
open PySem WL L2
variable {ss : List Int}
/-- the coordinates at which two places differ -/
def df (p q : List Int) : List Int := (span 0 p.length).filter fun c => !decide (p.getD c.toNat 0 = q.getD c.toNat 0)
def fd (p q : List Int) : Int := (df p q).headD 0
def dl (p q : List Int) : Int := q.getD (fd p q).toNat 0 - p.getD (fd p q).toNat 0
def far (p q : List Int) : Int := if p.getD (fd p q).toNat 0 - q.getD (fd p q).toNat 0 < 0 then -(p.getD (fd p q).toNat 0 - q.getD (fd p q).toNat 0) else p.getD (fd p q).toNat 0 - q.getD (fd p q).toNat 0
theorem df_mem {p q : List Int} {c : Int} : c ∈ df p q ↔ (0 ≤ c ∧ c < (p.length : Int)) ∧ p.getD c.toNat 0 ≠ q.getD c.toNat 0 := by
  unfold df
  rw [List.mem_filter, mem_span]
  constructor
  · rintro ⟨h1, h2⟩
    exact ⟨by omega, by simpa using h2⟩
  · rintro ⟨h1, h2⟩
    exact ⟨by omega, by simpa using h2⟩
theorem df_nd (p q : List Int) : (df p q).Nodup := List.Nodup.sublist List.filter_sublist (span_nodup 0 _)
theorem df_ne {p q : List Int} (hl : p.length = q.length) (h : p ≠ q) : df p q ≠ [] := fun z => h (ext_getD 0 hl fun i hi => Classical.byContradiction fun hn => by
  have : ((i : Nat) : Int) ∈ df p q := df_mem.mpr ⟨by omega, hn⟩
  rw [z] at this
  cases this)
theorem df_symm {p q : List Int} (hl : p.length = q.length) : df p q = df q p := by
  unfold df
  rw [hl]
  congr 1
  funext c
  rw [show decide (p.getD c.toNat 0 = q.getD c.toNat 0) = decide (q.getD c.toNat 0 = p.getD c.toNat 0) from decide_eq_decide.mpr ⟨Eq.symm, Eq.symm⟩]
theorem fd_symm {p q : List Int} (hl : p.length = q.length) : fd p q = fd q p := by unfold fd; rw [df_symm hl]
theorem dl_symm {p q : List Int} (hl : p.length = q.length) : dl q p = - dl p q := by
  unfold dl
  rw [fd_symm hl]
  omega
theorem fd_at {p q : List Int} (hl : p.length = q.length) (h : p ≠ q) : ∃ r, df p q = fd p q :: r ∧ 0 ≤ fd p q ∧ fd p q < (p.length : Int) ∧ p.getD (fd p q).toNat 0 ≠ q.getD (fd p q).toNat 0 := by
  have hn := df_ne hl h
  cases e : df p q with
  | nil => exact absurd e hn
  | cons a r =>
    have ha : fd p q = a := by unfold fd; rw [e]; rfl
    have hm : a ∈ df p q := by rw [e]; simp
    obtain ⟨⟨h1, h2⟩, h3⟩ := df_mem.mp hm
    rw [ha]
    exact ⟨r, rfl, h1, h2, h3⟩
theorem en_first {p q : List Int} (hl : p.length = q.length) (h6 : p.length ≤ 6) (h : p ≠ q) : Ens (noX (p_first_other p q)) (fun v => v = fd p q) := by
  obtain ⟨r, e, _⟩ := fd_at hl h
  refine en_noX (en_bndE (a := df p q) (en_bndE (en_grd (rng_small (by omega) (by omega)) (en_eq _)) (en_lcF (fun c : Int => !decide (p.getD c.toNat 0 = q.getD c.toNat 0)) (span 0 p.length) (by rw [span_length]; omega) (fun c hc => ?_) fun c _ _ => en_eq _)) ?_)
  · have := mem_span.mp hc
    exact en_bndE (en_optE (at_getD 0 (by omega) (by omega))) (en_bndE (en_optE (at_getD 0 (by omega) (by omega))) (en_eq _))
  · rw [e]
    exact en_optE (at_zero _ _)
/-- whether a link joins two places -/
def lkB (ss : List Int) (w : Bool) (p q : List Int) : Bool := decide ((df p q).length = 1) && (decide (far p q = 1) || (w && (decide (2 < ss.getD (fd p q).toNat 0) && decide (far p q = ss.getD (fd p q).toNat 0 - 1))))
theorem lkB_iff {p q : List Int} {w : Bool} (hp : p.length = ss.length) : lkB ss w p q = true ↔ Lk ss w p q := by
  have key : ∀ c : Int, df p q = [c] → (lkB ss w p q = true ↔ Lk ss w p q) := fun c ec => by
    have ef : fd p q = c := by unfold fd; rw [ec]; rfl
    have hm : c ∈ df p q := by rw [ec]; simp
    obtain ⟨⟨c0, c1⟩, hne⟩ := df_mem.mp hm
    unfold lkB
    rw [show (df p q).length = 1 from by rw [ec]; rfl, decide_eq_true rfl, Bool.true_and, Bool.or_eq_true, Bool.and_eq_true, Bool.and_eq_true, decide_eq_true_iff, decide_eq_true_iff, decide_eq_true_iff]
    unfold far
    rw [ef]
    constructor
    · exact fun h => ⟨c.toNat, by omega, hne, fun j hj hjc => Classical.byContradiction fun hn => by
        have := (df_mem (p := p) (q := q) (c := (j : Int))).mpr ⟨⟨by omega, by omega⟩, hn⟩
        rw [ec] at this
        have := List.mem_singleton.mp this
        omega, h⟩
    · rintro ⟨i, hi, hn, _, h⟩
      have : ((i : Nat) : Int) ∈ df p q := df_mem.mpr ⟨by omega, hn⟩
      rw [ec] at this
      have := List.mem_singleton.mp this
      have e : c.toNat = i := by omega
      rw [e]
      exact h
  constructor
  · intro h
    have h1 : (df p q).length = 1 := by
      unfold lkB at h
      rw [Bool.and_eq_true] at h
      exact of_decide_eq_true h.1
    obtain ⟨c, ec⟩ := List.length_eq_one_iff.mp h1
    exact (key c ec).mp h
  · intro h
    obtain ⟨i, hi, hne, heq, _⟩ := id h
    have hiA : ((i : Nat) : Int) ∈ df p q := df_mem.mpr ⟨by omega, hne⟩
    have hall : ∀ c ∈ df p q, c = (i : Int) := fun c hc => by
      obtain ⟨h1, h2⟩ := df_mem.mp hc
      rcases Nat.decEq c.toNat i with z | z
      · exact absurd (heq c.toNat (by omega) z) h2
      · omega
    have nd := df_nd p q
    have : ∃ c, df p q = [c] := by
      cases e : df p q with
      | nil => rw [e] at hiA; cases hiA
      | cons a r =>
        cases r with
        | nil => exact ⟨a, rfl⟩
        | cons b r =>
          rw [e] at hall nd
          have e1 := hall a (by simp)
          have e2 := hall b (by simp)
          have := (List.nodup_cons.mp nd).1
          rw [e1, e2] at this
          exact absurd (by simp) this
    obtain ⟨c, ec⟩ := this
    exact (key c ec).mpr h
theorem far_dl (p q : List Int) : far p q = if dl p q < 0 then - dl p q else dl p q := by
  unfold far dl
  split <;> split <;> omega
/-- places by their numbers -/
theorem PL.eq {L : List (List Int)} (h : PL ss L) (hp : Pos ss) : L = (span 0 (pr ss).toNat).map (pl ss) := by
  have hl := h.len
  refine ext_getD [] (by rw [List.length_map, span_length]; omega) fun i hi => ?_
  have h1 := h.get hp (u := (i : Int)) (by omega) (by omega)
  have h2 := at_getD (xs := L) (i := (i : Int)) [] (by omega) (by omega)
  rw [h1] at h2
  rw [map_getD (by rw [span_length]; omega) 0]
  have h3 := Option.some.inj h2
  rw [show ((i : Int)).toNat = i from rfl] at h3
  rw [← h3, List.getD_eq_getElem?_getD, span_get (by omega)]
  show pl ss i = pl ss (0 + (i : Int))
  rw [Int.zero_add]
theorem pl_len (g : Sz ss) {u : Int} (h0 : 0 ≤ u) (h1 : u < pr ss) : (pl ss u).length = ss.length := (pl_ok g.pos h0 h1).1.len
theorem pl_ne (g : Sz ss) {u v : Int} (u0 : 0 ≤ u) (u1 : u < pr ss) (v0 : 0 ≤ v) (v1 : v < pr ss) (h : u ≠ v) : pl ss u ≠ pl ss v := fun e => h (by
  rw [← (pl_ok g.pos u0 u1).2, ← (pl_ok g.pos v0 v1).2, e])
end Cf
namespace Cf
open PySem WL L2
variable {ss : List Int} {w : Bool}
abbrev Row5 := Int × Int × Int × Int × Int
def rowsP (ss : List Int) (L : Nat) (x : Int × Int) : List Row5 :=
  (span 0 L).map (fun l => (x.1, x.2, fd (pl ss x.1) (pl ss x.2), dl (pl ss x.1) (pl ss x.2), l)) ++ (span 0 L).map (fun l => (x.2, x.1, fd (pl ss x.1) (pl ss x.2), -dl (pl ss x.1) (pl ss x.2), l))
def gridOf (ss : List Int) (L : Nat) (D : List (Int × Int)) : List Row5 := D.flatMap (rowsP ss L)
def lnk (ss : List Int) (w : Bool) (u : Int) : List (Int × Int) := ((span (u + 1) (pr ss - (u + 1)).toNat).filter fun v => lkB ss w (pl ss u) (pl ss v)).map fun v => (u, v)
def Dof (ss : List Int) (w : Bool) : List (Int × Int) := (span 0 (pr ss).toNat).flatMap (lnk ss w)
theorem rowsP_len (L : Nat) (x : Int × Int) : (rowsP ss L x).length = 2 * L := by
  unfold rowsP
  rw [List.length_append, List.length_map, List.length_map, span_length]
  omega
theorem gridOf_len (L : Nat) : ∀ D : List (Int × Int), (gridOf ss L D).length = 2 * L * D.length
  | [] => rfl
  | x :: D => by
    show (rowsP ss L x ++ gridOf ss L D).length = _
    rw [List.length_append, rowsP_len, gridOf_len L D, List.length_cons, Nat.mul_add]
    omega
theorem gridOf_app (L : Nat) (D D' : List (Int × Int)) : gridOf ss L (D ++ D') = gridOf ss L D ++ gridOf ss L D' := List.flatMap_append
theorem gridOf_one (L : Nat) (x : Int × Int) : gridOf ss L [x] = rowsP ss L x := by
  show rowsP ss L x ++ [] = _
  rw [List.append_nil]
theorem lnk_len (g : Sz ss) {u : Int} (h0 : 0 ≤ u) : (lnk ss w u).length ≤ 64 := by
  unfold lnk
  rw [List.length_map]
  have := List.length_filter_le (fun v => lkB ss w (pl ss u) (pl ss v)) (span (u + 1) (pr ss - (u + 1)).toNat)
  rw [span_length] at this
  have := g.p64
  omega
theorem lnk_mem (g : Sz ss) {u a b : Int} (h0 : 0 ≤ u) (h1 : u < pr ss) : (a, b) ∈ lnk ss w u ↔ a = u ∧ ∃ j, Es ss w u j b := by
  unfold lnk
  rw [List.mem_map]
  constructor
  · rintro ⟨c, hc, e⟩
    cases e
    obtain ⟨hc, hl⟩ := List.mem_filter.mp hc
    have := mem_span.mp hc
    exact ⟨rfl, (link_iff g h0 h1).mpr ⟨⟨by omega, by omega⟩, (lkB_iff (pl_len g h0 h1)).mp hl⟩⟩
  · rintro ⟨rfl, h⟩
    obtain ⟨⟨c0, c1⟩, hl⟩ := (link_iff g h0 h1).mp h
    exact ⟨b, List.mem_filter.mpr ⟨mem_span.mpr (by omega), (lkB_iff (pl_len g h0 h1)).mpr hl⟩, rfl⟩
theorem Dof_ls (g : Sz ss) : Ls ss w (Dof ss w) := by
  have hp := g.p2
  refine ⟨?_, fun a b => ?_⟩
  · unfold Dof
    refine List.pairwise_flatMap.mpr ⟨fun u hu => ?_, ?_⟩
    · unfold lnk
      rw [List.pairwise_map]
      refine List.Pairwise.sublist List.filter_sublist ?_
      unfold span
      rw [List.pairwise_map]
      exact List.pairwise_lt_range.imp fun h => .inr ⟨rfl, by show _ < _; omega⟩
    · unfold span
      rw [List.pairwise_map]
      refine List.pairwise_lt_range.imp fun {a b} h x hx y hy => ?_
      obtain ⟨c, _, rfl⟩ := List.mem_map.mp hx
      obtain ⟨c', _, rfl⟩ := List.mem_map.mp hy
      exact .inl (by show (0 : Int) + (a : Int) < 0 + (b : Int); omega)
  · unfold Dof
    rw [List.mem_flatMap]
    constructor
    · rintro ⟨u, hu, h⟩
      have := mem_span.mp hu
      obtain ⟨rfl, h⟩ := (lnk_mem g (by omega) (by omega)).mp h
      exact ⟨by omega, h⟩
    · rintro ⟨h0, h⟩
      exact ⟨a, mem_span.mpr (by omega), (lnk_mem g (by omega) (by omega)).mpr ⟨rfl, h⟩⟩
set_option maxHeartbeats 1000000 in
theorem en_grid (g : Sz ss) {L : Nat} (hL : L ≤ 8) : Ens (noX (l_grid ss (L : Int) w)) (fun r => r = gridOf ss L (Dof ss w)) := by
  have h6 := g.len
  have h64 := g.p64
  have h2 := g.p2
  refine en_noX (en_bnd (en_places g) fun Pl hP => ?_)
  have hlen := hP.len
  have gt : ∀ {u : Int}, 0 ≤ u → u < pr ss → atI Pl u = some (pl ss u) := fun h0 h1 => hP.get g.pos h0 h1
  refine en_bndE (en_eq _) (en_bndE (en_grd (rng_small (by omega) (by omega)) (en_eq _)) ?_)
  rw [hlen]
  refine en_for (fun pre s => s = gridOf ss L (pre.flatMap (lnk ss w))) _ rfl (fun pre u post s k e hs hk => ?_) (fun s hs => en_ret hs)
  have eu := span_at e
  have hp := congrArg List.length e
  rw [span_length, List.length_append, List.length_cons] at hp
  have u0 : 0 ≤ u := by omega
  have u1 : u < pr ss := by omega
  have pu := pl_len g u0 u1
  have hpre : (pre.flatMap (lnk ss w)).length ≤ pre.length * 64 := fm_bound pre fun x hx => lnk_len g (by
    have : x ∈ span 0 (pr ss).toNat := by rw [e]; exact List.mem_append_left _ hx
    have := mem_span.mp this
    omega)
  have hpre2 : pre.length * 64 ≤ 64 * 64 := Nat.mul_le_mul_right 64 (by omega)
  refine en_bndE (en_grd ⟨rng_small (by omega) (by omega), rng_small (by omega) (by omega)⟩ (en_eq _)) ?_
  refine en_for (fun pre2 s => s = gridOf ss L (pre.flatMap (lnk ss w) ++ (pre2.filter fun v => lkB ss w (pl ss u) (pl ss v)).map fun v => (u, v))) _ (by rw [hs]; simp) (fun pre2 v post2 s k2 e2 hs2 hk2 => ?_) (fun s hs2 => hk s ?_)
  · have ev := span_at e2
    have hp2 := congrArg List.length e2
    rw [span_length, List.length_append, List.length_cons] at hp2
    have v0 : u + 1 ≤ v := by omega
    have v1 : v < pr ss := by omega
    have pv := pl_len g (by omega) v1
    have hne := pl_ne g u0 u1 (by omega) v1 (show u ≠ v by omega)
    have hpl : (pl ss u).length = (pl ss v).length := by rw [pu, pv]
    obtain ⟨r, er, f0, f1, f2⟩ := fd_at hpl hne
    have hfl := List.length_filter_le (fun v => lkB ss w (pl ss u) (pl ss v)) pre2
    have hsl : s.length ≤ 16 * 5000 := by
      rw [hs2, gridOf_len, List.length_append, List.length_map]
      exact Nat.mul_le_mul (by omega) (by omega)
    refine en_bndE (a := df (pl ss u) (pl ss v)) (en_bndE (en_grd (rng_small (by omega) (by omega)) (en_eq _)) ((en_lcF (fun c : Int => !decide ((pl ss u).getD c.toNat 0 = (pl ss v).getD c.toNat 0)) (span 0 ss.length) (by rw [span_length]; omega) (fun c hc => ?_) fun c _ _ => en_eq _).mono fun x hx => by rw [hx]; unfold df; rw [pu])) ?_
    · have := mem_span.mp hc
      exact en_bndE (en_bndE (en_optE (gt u0 u1)) (en_optE (at_getD 0 (by omega) (by omega)))) (en_bndE (en_bndE (en_optE (gt (by omega) v1)) (en_optE (at_getD 0 (by omega) (by omega)))) (en_eq _))
    rw [er]
    have a0 : atI (fd (pl ss u) (pl ss v) :: r) 0 = some (fd (pl ss u) (pl ss v)) := at_zero _ _
    have apu : atI (pl ss u) (fd (pl ss u) (pl ss v)) = some ((pl ss u).getD (fd (pl ss u) (pl ss v)).toNat 0) := at_getD 0 f0 (by omega)
    have apv : atI (pl ss v) (fd (pl ss u) (pl ss v)) = some ((pl ss v).getD (fd (pl ss u) (pl ss v)).toNat 0) := at_getD 0 f0 (by omega)
    have aps : atI ss (fd (pl ss u) (pl ss v)) = some (ss.getD (fd (pl ss u) (pl ss v)).toNat 0) := at_getD 0 f0 (by omega)
    refine en_bndE (a := far (pl ss u) (pl ss v)) (en_bndE (en_bndE (en_bndE (en_optE (gt u0 u1)) (en_bndE (en_optE a0) (en_optE apu))) (en_bndE (en_bndE (en_optE (gt (by omega) v1)) (en_bndE (en_optE a0) (en_optE apv))) (en_eq _))) (en_eq _)) ?_
    refine en_bndE (a := lkB ss w (pl ss u) (pl ss v)) ?_ ?_
    · unfold lkB
      rw [er]
      refine en_sel (fun q => ?_) fun q => en_ret ?_
      · have q1 : (fd (pl ss u) (pl ss v) :: r).length = 1 := by
          have := of_decide_eq_true q
          omega
        rw [q1, decide_eq_true rfl, Bool.true_and]
        refine en_sel (fun z => en_ret ?_) fun z => ?_
        · rw [z]; rfl
        · rw [z, Bool.false_or]
          refine en_sel (fun y => ?_) fun y => en_ret ?_
          · rw [y, Bool.true_and]
            refine en_bndE (en_bndE (en_bndE (en_optE a0) (en_optE aps)) (en_eq _)) (en_sel (fun x => ?_) fun x => en_ret ?_)
            · rw [x, Bool.true_and]
              exact en_bndE (en_bndE (en_bndE (en_optE a0) (en_optE aps)) (en_eq _)) (en_eq _)
            · rw [x]; rfl
          · rw [y]; rfl
      · have q1 : ¬ (fd (pl ss u) (pl ss v) :: r).length = 1 := fun z => by
          have := of_decide_eq_false q
          omega
        rw [decide_eq_false q1]
        rfl
    refine en_sel (fun q => ?_) fun q => hk2 s ?_
    · refine en_bndE (a := dl (pl ss u) (pl ss v)) (en_bndE (en_bndE (en_optE (gt (by omega) v1)) (en_bndE (en_optE a0) (en_optE apv))) (en_bndE (en_bndE (en_optE (gt u0 u1)) (en_bndE (en_optE a0) (en_optE apu))) (en_eq _))) ?_
      refine en_ext (R := fun ys => ys = (span 0 L).map (fun l => (u, v, fd (pl ss u) (pl ss v), dl (pl ss u) (pl ss v), l))) (en_bndE (en_grd (rng_small (by omega) (by omega)) (en_eq _)) (en_lcM (fun l : Int => (u, v, fd (pl ss u) (pl ss v), dl (pl ss u) (pl ss v), l)) (span 0 L) (by rw [span_length]; omega) fun l _ => en_bndE (en_optE a0) (en_eq _))) (fun ys ey => by rw [ey, List.length_map, span_length]; omega) fun ys ey => ?_
      refine en_ext (R := fun zs => zs = (span 0 L).map (fun l => (v, u, fd (pl ss u) (pl ss v), -dl (pl ss u) (pl ss v), l))) (en_bndE (en_grd (rng_small (by omega) (by omega)) (en_eq _)) (en_lcM (fun l : Int => (v, u, fd (pl ss u) (pl ss v), -dl (pl ss u) (pl ss v), l)) (span 0 L) (by rw [span_length]; omega) fun l _ => en_bndE (en_optE a0) (en_eq _))) (fun zs ez => by rw [ez, ey, List.length_append, List.length_map, List.length_map, span_length]; omega) fun zs ez => hk2 _ ?_
      rw [List.filter_append, List.map_append, ← List.append_assoc, gridOf_app, hs2]
      rw [show ([v].filter fun v => lkB ss w (pl ss u) (pl ss v)) = [v] from by simp [q]]
      rw [show [v].map (fun v => (u, v)) = [(u, v)] from rfl, gridOf_one, ey, ez, List.append_assoc]
      rfl
    · rw [List.filter_append, hs2]
      rw [show ([v].filter fun v => lkB ss w (pl ss u) (pl ss v)) = [] from by simp [q], List.append_nil]
  · rw [hs2, List.flatMap_append]
    congr 2
    show _ = lnk ss w u ++ []
    rw [List.append_nil]
    rfl
end Cf
namespace Cf
open PySem WL L2
variable {ss : List Int} {w : Bool}
/-! ### the sizes of the laws -/
def allSz : List (List Int) := ((span 1 4).map fun a => [a]) ++ (((span 1 4).flatMap fun a => (span 1 4).map fun b => [a, b]) ++ ((span 1 2).flatMap fun a => (span 1 2).flatMap fun b => (span 1 2).map fun c => [a, b, c]))
theorem sz1 {a : Int} (h : 1 ≤ a ∧ a ≤ 4) : [a] ∈ allSz := List.mem_append_left _ (List.mem_map.mpr ⟨a, mem_span.mpr (by omega), rfl⟩)
theorem sz2 {a b : Int} (ha : 1 ≤ a ∧ a ≤ 4) (hb : 1 ≤ b ∧ b ≤ 4) : [a, b] ∈ allSz := List.mem_append_right _ (List.mem_append_left _ (List.mem_flatMap.mpr ⟨a, mem_span.mpr (by omega), List.mem_map.mpr ⟨b, mem_span.mpr (by omega), rfl⟩⟩))
theorem sz3 {a b c : Int} (ha : 1 ≤ a ∧ a ≤ 2) (hb : 1 ≤ b ∧ b ≤ 2) (hc : 1 ≤ c ∧ c ≤ 2) : [a, b, c] ∈ allSz := List.mem_append_right _ (List.mem_append_right _ (List.mem_flatMap.mpr ⟨a, mem_span.mpr (by omega), List.mem_flatMap.mpr ⟨b, mem_span.mpr (by omega), List.mem_map.mpr ⟨c, mem_span.mpr (by omega), rfl⟩⟩⟩))
theorem sz_few : (allSz.all fun ss => decide ((Dof ss true).length ≤ 32) && decide ((Dof ss false).length ≤ 32)) = true := by decide +kernel
theorem sz_facts : (allSz.all fun ss => decide (pr ss ≤ 16) && (ss.all fun k => decide (1 ≤ k) && decide (k ≤ 4)) && decide (ss.length ≤ 3) && (decide ((ss.length : Int) < ss.sum) == decide (2 ≤ pr ss)) && (decide (2 ≤ pr ss) || decide (2 ≤ pr (2 :: ss.drop 1)))) = true := by decide +kernel
structure GS (ss : List Int) : Prop where
  mem : ss ∈ allSz
  p2 : 2 ≤ pr ss
theorem GS.few (g : GS ss) : (Dof ss w).length ≤ 32 := by
  have h := List.all_eq_true.mp sz_few ss g.mem
  rw [Bool.and_eq_true] at h
  cases w
  · exact of_decide_eq_true h.2
  · exact of_decide_eq_true h.1
theorem sz_fact (h : ss ∈ allSz) : pr ss ≤ 16 ∧ (∀ k ∈ ss, 1 ≤ k ∧ k ≤ 4) ∧ ss.length ≤ 3 ∧ ((ss.length : Int) < ss.sum ↔ 2 ≤ pr ss) := by
  have h := List.all_eq_true.mp sz_facts ss h
  rw [Bool.and_eq_true, Bool.and_eq_true, Bool.and_eq_true, Bool.and_eq_true] at h
  obtain ⟨⟨⟨⟨h1, h2⟩, h3⟩, h4⟩, _⟩ := h
  refine ⟨of_decide_eq_true h1, fun k hk => ?_, of_decide_eq_true h3, ?_⟩
  · have := List.all_eq_true.mp h2 k hk
    rw [Bool.and_eq_true] at this
    exact ⟨of_decide_eq_true this.1, of_decide_eq_true this.2⟩
  · have h4 := eq_of_beq h4
    exact decide_eq_decide.mp h4
theorem GS.sz (g : GS ss) : Sz ss := by
  obtain ⟨h1, h2, h3, _⟩ := sz_fact g.mem
  exact ⟨fun k hk => (h2 k hk).1, fun k hk => by have := h2 k hk; omega, by omega, g.p2, by omega⟩
theorem GS.p16 (g : GS ss) : pr ss ≤ 16 := (sz_fact g.mem).1
theorem GS.l3 (g : GS ss) : ss.length ≤ 3 := (sz_fact g.mem).2.2.1
/-! ### mesh, torus, network -/
theorem en_meshG (g : GS ss) {m : Wp (Int × List (Int × Int))} (hm : m = bnd (p_nodes_of ss) fun x3 => bnd (p_mesh_links ss w) fun x4 => p_made x3 x4) : Ens m (fun r => r = (pr ss, Dof ss w)) := fun P X h => by
  rw [hm]
  refine bnd_go (en_nodes g.sz) (bnd_goR (en_mesh_links g.sz w) fun M hM => en_made g.sz hM P X (fun D hD _ => h _ ?_) fun D hD hl => ?_)
  · rw [hD.uniq (Dof_ls g.sz)]
  · rw [hD.uniq (Dof_ls g.sz)] at hl
    have := g.few (w := w)
    omega
def netG (ss : List Int) (w : Bool) (L : Nat) (room : Int) : Int × Ch3 := (pr ss, chsOf (Dof ss w) L room)
theorem Dof_rng (g : GS ss) : ∀ c ∈ Dof ss w, 0 ≤ c.1 ∧ c.1 < pr ss ∧ 0 ≤ c.2 ∧ c.2 < pr ss ∧ c.1 < c.2 := fun c hc => by
  have h := ((Dof_ls g.sz (w := w)).mem c.1 c.2).mp hc
  have := (link_iff g.sz h.1.1 h.1.2).mp h.2
  omega
theorem en_netG (g : GS ss) {L : Nat} (l0 : 1 ≤ L) (l1 : L ≤ 6) : Ens (noX (p_network_of (pr ss, Dof ss w) (L : Int) 1)) (fun r => r = netG ss w L 1) := by
  have h2 := g.p2
  have h16 := g.p16
  have hf := g.few (w := w)
  have eN : pr ss = (((pr ss).toNat : Nat) : Int) := by omega
  have hr := Dof_rng g (w := w)
  have frp : FrP (pr ss).toNat (Dof ss w) := ⟨by omega, by omega, fun c hc => by have := hr c hc; omega, by omega⟩
  have vd : Vd (L : Int) 1 (Dof ss w).length := ⟨by omega, by omega, by
    have : 2 * L * (Dof ss w).length ≤ 12 * 32 := Nat.mul_le_mul (by omega) hf
    have : ((2 * L * (Dof ss w).length : Nat) : Int) = 2 * (L : Int) * ((Dof ss w).length : Int) := by push_cast; rfl
    omega⟩
  have h := en_net frp vd
  rw [← eN] at h
  exact en_noX (h.mono fun v hv => by rw [hv]; rfl)
theorem chs_grid (L : Nat) (room : Int) : ∀ D : List (Int × Int), chsOf D L room = (gridOf ss L D).map fun r => (r.1, r.2.1, room)
  | [] => rfl
  | x :: D => by
    have rep : ∀ (f : Int → Row5) (a b : Int), (∀ l, (f l).1 = a ∧ (f l).2.1 = b) → (((span 0 L).map f).map fun r => (r.1, r.2.1, room)) = List.replicate L (a, b, room) := fun f a b hf => by
      rw [List.map_map]
      refine List.eq_replicate_iff.mpr ⟨by rw [List.length_map, span_length], fun y hy => ?_⟩
      obtain ⟨l, _, rfl⟩ := List.mem_map.mp hy
      show ((f l).1, (f l).2.1, room) = _
      rw [(hf l).1, (hf l).2]
    rw [chsOf_cons, chs_grid L room D]
    show _ = (rowsP ss L x ++ gridOf ss L D).map _
    rw [List.map_append]
    congr 1
    unfold rowsP
    rw [List.map_append, rep _ x.1 x.2 fun _ => ⟨rfl, rfl⟩, rep _ x.2 x.1 fun _ => ⟨rfl, rfl⟩]
theorem en_lnet (g : GS ss) {L : Nat} (l1 : L ≤ 6) {room : Int} : Ens (noX (l_network ss (L : Int) w room)) (fun r => r = netG ss w L room) := by
  have hf := g.few (w := w)
  refine en_noX (en_bnd (R := fun v => v = pr ss) (en_bnd (en_places g.sz) fun Pl hP => en_ret hP.len) fun v ev => ?_)
  refine en_bndE (a := chsOf (Dof ss w) L room) (en_bndE (en_grid g.sz (by omega)) ?_) (en_ret (by rw [ev]; rfl))
  rw [chs_grid (ss := ss)]
  refine en_lcM (fun r : Row5 => (r.1, r.2.1, room)) _ ?_ fun r _ => en_eq _
  rw [gridOf_len]
  exact Nat.le_trans (Nat.mul_le_mul (show 2 * L ≤ 12 by omega) hf) (by decide)
theorem netG_ok (g : GS ss) {L : Nat} (l1 : L ≤ 6) {room : Int} : NG2 (pr ss).toNat (chsOf (Dof ss w) L room) := by
  have h2 := g.p2
  have h16 := g.p16
  have hf := g.few (w := w)
  have hr := Dof_rng g (w := w)
  refine ⟨by omega, by omega, fun c hc => ?_, ?_⟩
  · unfold chsOf at hc
    obtain ⟨x, hx, hc⟩ := List.mem_flatMap.mp hc
    have := hr x hx
    rcases List.mem_append.mp hc with hc | hc
    · rw [List.eq_of_mem_replicate hc]
      show 0 ≤ x.1 ∧ x.1 < _ ∧ 0 ≤ x.2 ∧ x.2 < _
      omega
    · rw [List.eq_of_mem_replicate hc]
      show 0 ≤ x.2 ∧ x.2 < _ ∧ 0 ≤ x.1 ∧ x.1 < _
      omega
  · rw [chsOf_len]
    exact Nat.le_trans (Nat.mul_le_mul (show 2 * L ≤ 12 by omega) hf) (by decide)
abbrev GridT := List Int × Int × (Int × Ch3) × List (List Int)
def gridO (ss : List Int) (w : Bool) (L : Nat) : GridT := (ss, (L : Int), netG ss w L 1, (span 0 (pr ss).toNat).map (pl ss))
theorem en_ginit (g : GS ss) {L : Nat} (l0 : 1 ≤ L) (l1 : L ≤ 6) : Ens (noX (p_Grid_init ss (L : Int) w)) (fun r => r = gridO ss w L) := by
  have h2 := g.p2
  have h16 := g.p16
  refine en_noX (en_bndE (en_eq _) (en_bndE (en_eq _) (en_bndE (a := netG ss w L 1) (en_bndE (a := (pr ss, Dof ss w)) (en_sel (fun q => ?_) fun q => ?_) (en_netG g l0 l1)) ?_)))
  · rw [q]
    exact en_noX (en_meshG g rfl)
  · rw [q]
    exact en_noX (en_meshG g rfl)
  · refine en_bndE (a := (span 0 (pr ss).toNat).map (pl ss)) (en_bndE (en_grd (rng_small (show (0 : Int) ≤ pr ss by omega) (show pr ss < 1000000 by omega)) (en_eq _)) (en_lcM (pl ss) (span 0 (pr ss).toNat) (by rw [span_length]; omega) fun u hu => ?_)) (en_eq _)
    have := mem_span.mp hu
    exact en_place g.sz (by omega) (by omega)
/-! ### the drawn sizes -/
theorem en_szdraw {many : Int} (hm : many = 1 ∨ many = 2 ∨ many = 3) : Ens (noX (l_sizes25 many)) GS := by
  refine en_noX (en_bndE (a := if many = 1 then (4 : Int) else if many = 2 then 3 else 2) (en_optE (by rcases hm with rfl | rfl | rfl <;> rfl)) ?_)
  refine en_letK (I := fun s => (many = 1 ∧ s = 4) ∨ (many = 2 ∧ (s = 3 ∨ s = 4)) ∨ (many = 3 ∧ s = 2)) (fun s hs => ?_) fun k hk => ?_
  · have s0 : 2 ≤ s ∧ s ≤ 4 := by omega
    have fin : ∀ ss : List Int, (ss.length : Int) = many → (∀ x ∈ ss, 1 ≤ x ∧ x ≤ s) → ss ∈ allSz := fun ss hl hx => by
      rcases hs with ⟨rfl, rfl⟩ | ⟨rfl, hs⟩ | ⟨rfl, rfl⟩
      · match ss, hl, hx with
        | [a], _, hx => exact sz1 (hx a (by simp))
      · match ss, hl, hx with
        | [a, b], _, hx =>
          have ha := hx a (by simp)
          have hb := hx b (by simp)
          exact sz2 (by omega) (by omega)
      · match ss, hl, hx with
        | [a, b, c], _, hx => exact sz3 (hx a (by simp)) (hx b (by simp)) (hx c (by simp))
    have m0 : many.toNat = 1 ∨ many.toNat = 2 ∨ many.toNat = 3 := by omega
    refine en_bnd (R := fun ss : List Int => (ss.length : Int) = many ∧ ∀ x ∈ ss, 1 ≤ x ∧ x ≤ s) (en_bndE (en_grd (rng_small (by omega) (by omega)) (en_eq _)) ((en_lcA (R := fun _ y => 1 ≤ y ∧ y ≤ s) _ (by rw [span_length]; omega) fun c _ => en_bnd (en_take (by omega) (by omega)) fun a ha => en_ret (by omega)).mono fun ys ⟨h1, h2⟩ => ⟨by rw [h1, span_length]; omega, fun y hy => ?_⟩)) fun ss ⟨h1, h2⟩ => ?_
    · obtain ⟨i, hi, e⟩ := List.getElem_of_mem hy
      obtain ⟨y', e', h⟩ := h2 i ((span 0 many.toNat)[i]'(by omega)) (List.getElem?_eq_getElem _)
      rw [List.getElem?_eq_getElem hi, e] at e'
      cases e'
      exact h
    · have hin := fin ss h1 h2
      obtain ⟨_, _, _, hf⟩ := sz_fact hin
      refine en_sel (fun q => en_ret ⟨hin, hf.mp (by rw [h1]; exact of_decide_eq_true q)⟩) fun q => ?_
      have hd : cutA ss (some (1 : Int)) none = ss.drop 1 := cut_hi ss (by decide)
      rw [hd]
      have hss : ss ≠ [] := fun z => by rw [z] at h1; simp at h1; omega
      refine en_grd (by rw [List.length_drop]; show 1 + _ ≤ _; omega) (en_ret ?_)
      have hin2 : (2 : Int) :: ss.drop 1 ∈ allSz := fin _ (by rw [List.length_cons, List.length_drop]; have : 0 < ss.length := List.length_pos_iff.mpr hss; omega) fun x hx => by
        rcases List.mem_cons.mp hx with e | hx
        · omega
        · exact h2 x (List.mem_of_mem_drop hx)
      refine ⟨hin2, ?_⟩
      have h := List.all_eq_true.mp sz_facts ss hin
      rw [Bool.and_eq_true, Bool.or_eq_true] at h
      rcases h.2 with z | z
      · have := hf.mpr (of_decide_eq_true z)
        have := of_decide_eq_false q
        omega
      · exact of_decide_eq_true z
  · refine en_bnd (R := fun b => b = true → many = 2) (en_sel (fun q => en_bnd (en_take (by decide) (by decide)) fun a _ => en_ret fun _ => of_decide_eq_true q) fun _ => en_ret fun h => by cases h) fun b hb => en_sel (fun q => en_bndE (en_eq _) (hk 4 (.inr (.inl ⟨hb q, .inr rfl⟩)))) fun q => hk _ ?_
    rcases hm with rfl | rfl | rfl
    · exact .inl ⟨rfl, rfl⟩
    · exact .inr (.inl ⟨rfl, .inl rfl⟩)
    · exact .inr (.inr ⟨rfl, rfl⟩)
end Cf
namespace Cf
open PySem WL L2
variable {ss : List Int} {w : Bool} {L : Nat}
theorem en_andB {b c : Bool} : Ens (sel b (ret c) (ret false)) (fun v => v = (b && c)) := en_sel (fun q => en_ret (by rw [q]; rfl)) fun q => en_ret (by rw [q]; rfl)
theorem grid_get {L : Nat} (hL : 0 < L) : ∀ (ls : List (Int × Int)) (c : Nat), c < 2 * L * ls.length → ∃ p, ls[c / (2 * L)]? = some p ∧ (gridOf ss L ls)[c]? = some (if (c % (2 * L)) / L = 0 then (p.1, p.2, fd (pl ss p.1) (pl ss p.2), dl (pl ss p.1) (pl ss p.2), ((c % (2 * L) % L : Nat) : Int)) else (p.2, p.1, fd (pl ss p.1) (pl ss p.2), -dl (pl ss p.1) (pl ss p.2), ((c % (2 * L) % L : Nat) : Int)))
  | [], c, h => by rw [List.length_nil, Nat.mul_zero] at h; exact absurd h (Nat.not_lt_zero _)
  | p :: ls, c, h => by
    show ∃ q, _ ∧ (rowsP ss L p ++ gridOf ss L ls)[c]? = _
    have hl := rowsP_len (ss := ss) L p
    by_cases q : c < 2 * L
    · refine ⟨p, by rw [Nat.div_eq_of_lt q]; rfl, ?_⟩
      rw [List.getElem?_append_left (by omega), Nat.mod_eq_of_lt q]
      unfold rowsP
      by_cases q2 : c < L
      · rw [if_pos (Nat.div_eq_of_lt q2), List.getElem?_append_left (by rw [List.length_map, span_length]; exact q2), List.getElem?_map, span_get q2, Nat.mod_eq_of_lt q2]
        show some (_, _, _, _, (0 : Int) + (c : Int)) = _
        rw [Int.zero_add]
      · have e : c % L = c - L := by rw [Nat.mod_eq_sub_mod (by omega), Nat.mod_eq_of_lt (by omega)]
        rw [if_neg (by have := Nat.div_pos (Nat.le_of_not_lt q2) hL; omega), List.getElem?_append_right (by rw [List.length_map, span_length]; omega), List.length_map, span_length, List.getElem?_map, span_get (show c - L < L by omega), e]
        show some (_, _, _, _, (0 : Int) + ((c - L : Nat) : Int)) = _
        rw [Int.zero_add]
    · obtain ⟨c', rfl⟩ : ∃ c', c = c' + 2 * L := ⟨c - 2 * L, by omega⟩
      rw [List.length_cons, Nat.mul_add] at h
      obtain ⟨p', e1, e2⟩ := grid_get hL ls c' (by omega)
      refine ⟨p', ?_, ?_⟩
      · rw [Nat.add_div_right _ (by omega), List.getElem?_cons_succ]
        exact e1
      · rw [List.getElem?_append_right (by omega), hl, Nat.add_mod_right, Nat.add_sub_cancel]
        exact e2
/-- the rows of the grid -/
abbrev rowsG (ss : List Int) (w : Bool) (L : Nat) : List Row5 := gridOf ss L (Dof ss w)
def rD (ss : List Int) (w : Bool) (L : Nat) (c : Int) : Row5 := (rowsG ss w L).getD c.toNat (0, 0, 0, 0, 0)
structure RwP (ss : List Int) (w : Bool) (r : Row5) : Prop where
  a0 : 0 ≤ r.1
  a1 : r.1 < pr ss
  b0 : 0 ≤ r.2.1
  b1 : r.2.1 < pr ss
  ne : r.1 ≠ r.2.1
  at_ : r.2.2.1 = fd (pl ss r.1) (pl ss r.2.1)
  by_ : r.2.2.2.1 = dl (pl ss r.1) (pl ss r.2.1)
  un : w = true ∨ r.2.2.2.1 = 1 ∨ r.2.2.2.1 = -1
theorem row_ok (g : GS ss) (hL : 0 < L) {c : Int} (h0 : 0 ≤ c) (h1 : c < (rowsG ss w L).length) : RwP ss w (rD ss w L c) ∧ (rD ss w L c).2.2.2.2 = c % (2 * (L : Int)) % (L : Int) := by
  have hlen := gridOf_len (ss := ss) L (Dof ss w)
  obtain ⟨c', rfl⟩ : ∃ c' : Nat, c = (c' : Int) := ⟨c.toNat, by omega⟩
  have hc : c' < 2 * L * (Dof ss w).length := by
    have h1 : (c' : Int) < ((gridOf ss L (Dof ss w)).length : Int) := h1
    omega
  obtain ⟨p, e1, e2⟩ := grid_get hL (Dof ss w) c' hc
  have hp := List.mem_of_getElem? e1
  have hr := Dof_rng g p hp
  have hlk := (link_iff g.sz (w := w) hr.1 hr.2.1).mp (((Dof_ls g.sz).mem p.1 p.2).mp hp).2
  have h1l := pl_len g.sz hr.1 hr.2.1
  have h2l := pl_len g.sz hr.2.2.1 hr.2.2.2.1
  have hpl : (pl ss p.1).length = (pl ss p.2).length := by rw [h1l, h2l]
  have hb := (lkB_iff h1l).mpr hlk.2
  have hu : w = true ∨ dl (pl ss p.1) (pl ss p.2) = 1 ∨ dl (pl ss p.1) (pl ss p.2) = -1 := by
    unfold lkB at hb
    rw [Bool.and_eq_true, Bool.or_eq_true, Bool.and_eq_true, decide_eq_true_iff (p := far _ _ = 1), far_dl] at hb
    rcases hb.2 with z | z
    · right
      split at z <;> omega
    · exact .inl z.1
  have e3 : rD ss w L (c' : Int) = (if (c' % (2 * L)) / L = 0 then (p.1, p.2, fd (pl ss p.1) (pl ss p.2), dl (pl ss p.1) (pl ss p.2), ((c' % (2 * L) % L : Nat) : Int)) else (p.2, p.1, fd (pl ss p.1) (pl ss p.2), -dl (pl ss p.1) (pl ss p.2), ((c' % (2 * L) % L : Nat) : Int))) := by
    unfold rD
    rw [List.getD_eq_getElem?_getD]
    show ((gridOf ss L (Dof ss w))[c']?).getD _ = _
    rw [e2]
    rfl
  have e4 : (c' : Int) % (2 * (L : Int)) % (L : Int) = ((c' % (2 * L) % L : Nat) : Int) := by push_cast; rfl
  rw [e3, e4]
  split
  · exact ⟨⟨hr.1, hr.2.1, hr.2.2.1, hr.2.2.2.1, by show p.1 ≠ p.2; omega, rfl, rfl, hu⟩, rfl⟩
  · refine ⟨⟨hr.2.2.1, hr.2.2.2.1, hr.1, hr.2.1, by show p.2 ≠ p.1; omega, fd_symm hpl, (dl_symm hpl).symm, ?_⟩, rfl⟩
    show w = true ∨ -dl _ _ = 1 ∨ -dl _ _ = -1
    rcases hu with z | z | z
    · exact .inl z
    · exact .inr (.inr (by rw [z]))
    · exact .inr (.inl (by rw [z]; rfl))
theorem row_at {c : Int} (h0 : 0 ≤ c) (h1 : c < (rowsG ss w L).length) : atI (rowsG ss w L) c = some (rD ss w L c) := at_getD _ h0 h1
theorem ch_atG {c room : Int} (h0 : 0 ≤ c) (h1 : c < (rowsG ss w L).length) : atI (chsOf (Dof ss w) L room) c = some ((rD ss w L c).1, (rD ss w L c).2.1, room) := by
  rw [chs_grid (ss := ss)]
  have h2 : c.toNat < (gridOf ss L (Dof ss w)).length := by
    have h1 : c < ((gridOf ss L (Dof ss w)).length : Int) := h1
    omega
  rw [at_getD (i := c) (0, 0, room) h0 (by rw [List.length_map]; exact h1), map_getD h2 (0, 0, 0, 0, 0)]
  rfl
theorem chs_len : (chsOf (Dof ss w) L 1).length = (rowsG ss w L).length := by
  show _ = (gridOf ss L (Dof ss w)).length
  rw [chs_grid (ss := ss), List.length_map]
theorem at_pl (g : GS ss) {u : Int} (h0 : 0 ≤ u) (h1 : u < pr ss) : atI ((span 0 (pr ss).toNat).map (pl ss)) u = some (pl ss u) := by
  rw [at_getD (i := u) [] h0 (by rw [List.length_map, span_length]; omega), map_getD (by rw [span_length]; omega) 0, List.getD_eq_getElem?_getD, span_get (by omega)]
  show some (pl ss (0 + ((u.toNat : Nat) : Int))) = _
  rw [show (0 : Int) + ((u.toNat : Nat) : Int) = u by omega]
theorem rows_few (g : GS ss) (l1 : L ≤ 6) : (rowsG ss w L).length ≤ 384 := by
  show (gridOf ss L (Dof ss w)).length ≤ 384
  rw [gridOf_len]
  exact Nat.le_trans (Nat.mul_le_mul (show 2 * L ≤ 12 by omega) (g.few (w := w))) (by decide)
/-- coordinates -/
theorem pl_at (g : GS ss) {u : Int} (h0 : 0 ≤ u) (h1 : u < pr ss) {i : Int} (i0 : 0 ≤ i) (i1 : i < (ss.length : Int)) : 0 ≤ (pl ss u).getD i.toNat 0 ∧ (pl ss u).getD i.toNat 0 < ss.getD i.toNat 0 ∧ ss.getD i.toNat 0 ≤ 4 := by
  have hk : ss[i.toNat]? = some (ss[i.toNat]'(by omega)) := List.getElem?_eq_getElem _
  obtain ⟨x, hx, x0, x1⟩ := (pl_ok g.sz.pos h0 h1).1.at hk
  have e1 := getD_some hx
  have e2 := getD_some hk
  rw [e1, e2]
  have := (sz_fact g.mem).2.1 _ (List.getElem_mem (show i.toNat < ss.length by omega))
  exact ⟨x0, x1, this.2⟩
theorem RwP.atb (g : GS ss) {r : Row5} (h : RwP ss w r) : 0 ≤ r.2.2.1 ∧ r.2.2.1 < (ss.length : Int) := by
  have h1l := pl_len g.sz h.a0 h.a1
  have h2l := pl_len g.sz h.b0 h.b1
  obtain ⟨_, _, f0, f1, _⟩ := fd_at (show (pl ss r.1).length = (pl ss r.2.1).length by rw [h1l, h2l]) (pl_ne g.sz h.a0 h.a1 h.b0 h.b1 h.ne)
  rw [h.at_]
  omega
theorem RwP.byb (g : GS ss) {r : Row5} (h : RwP ss w r) : -4 < r.2.2.2.1 ∧ r.2.2.2.1 < 4 := by
  have hb := h.atb g
  have e1 := pl_at g h.a0 h.a1 hb.1 hb.2
  have e2 := pl_at g h.b0 h.b1 hb.1 hb.2
  rw [h.by_]
  unfold dl
  rw [← h.at_]
  omega
end Cf
namespace Cf
open PySem WL L2
variable {ss : List Int} {w : Bool} {L : Nat}
def ownG (ss : List Int) (w : Bool) (L : Nat) (u : Int) : List Int := (span 0 (rowsG ss w L).length).filter fun c => decide ((rD ss w L c).1 = u)
def usB (ss : List Int) (u d : Int) (r : Row5) : Bool := decide (0 < ((pl ss d).getD r.2.2.1.toNat 0 - (pl ss u).getD r.2.2.1.toNat 0) * r.2.2.2.1)
def usfG (ss : List Int) (w : Bool) (L : Nat) (u d : Int) : List Int := (ownG ss w L u).filter fun c => usB ss u d (rD ss w L c)
def fitsB (ss p q : List Int) (r : Row5) : Bool :=
  if r.2.2.1 = fd p q then
    if ss.getD (fd p q).toNat 0 ≤ 2 then decide (r.2.2.2.1 = q.getD (fd p q).toNat 0 - p.getD (fd p q).toNat 0) && decide (r.2.2.2.2 = 0)
    else if 2 * Int.fmod (q.getD (fd p q).toNat 0 - p.getD (fd p q).toNat 0) (ss.getD (fd p q).toNat 0) ≤ ss.getD (fd p q).toNat 0 then
      decide (Int.fmod (p.getD (fd p q).toNat 0 + r.2.2.2.1) (ss.getD (fd p q).toNat 0) = Int.fmod (p.getD (fd p q).toNat 0 + 1) (ss.getD (fd p q).toNat 0)) && decide (r.2.2.2.2 = (if (decide (q.getD (fd p q).toNat 0 < p.getD (fd p q).toNat 0)) = true then 1 else 0 : Int))
    else decide (Int.fmod ((p.getD (fd p q).toNat 0 + r.2.2.2.1) + ss.getD (fd p q).toNat 0) (ss.getD (fd p q).toNat 0) = Int.fmod ((p.getD (fd p q).toNat 0 - 1) + ss.getD (fd p q).toNat 0) (ss.getD (fd p q).toNat 0)) && decide (r.2.2.2.2 = (if (decide (p.getD (fd p q).toNat 0 < q.getD (fd p q).toNat 0)) = true then 1 else 0 : Int))
  else false
def negF (ss : List Int) (w : Bool) (L : Nat) (u d : Int) : List Int := (usfG ss w L u d).filter fun c => decide ((rD ss w L c).2.2.2.1 < 0)
def westF (ss : List Int) (w : Bool) (L : Nat) (u d : Int) : List Int := (negF ss w L u d).filter fun c => decide ((rD ss w L c).2.2.1 = 1)
def northF (ss : List Int) (w : Bool) (L : Nat) (u d : Int) : List Int := (usfG ss w L u d).filter fun c => (!decide ((rD ss w L c).2.2.1 = 0)) || decide ((rD ss w L c).2.2.2.1 < 0)
def trn (f us : List Int) : List Int := if 0 < (f.length : Int) then f else us
def optW (word : Str) (ss : List Int) (w : Bool) (L : Nat) (u d : Int) : List Int :=
  if word = ("dateline" : Str) then (ownG ss w L u).filter fun c => fitsB ss (pl ss u) (pl ss d) (rD ss w L c)
  else if word = ("order" : Str) then (usfG ss w L u d).filter fun c => decide ((rD ss w L c).2.2.1 = fd (pl ss u) (pl ss d))
  else trn (if word = ("north" : Str) then northF ss w L u d else if word = ("west" : Str) then westF ss w L u d else negF ss w L u d) (usfG ss w L u d)
theorem own_rng {u c : Int} (h : c ∈ ownG ss w L u) : 0 ≤ c ∧ c < (rowsG ss w L).length := by
  have := mem_span.mp (List.mem_filter.mp h).1
  omega
theorem own_src {u c : Int} (h : c ∈ ownG ss w L u) : (rD ss w L c).1 = u := of_decide_eq_true (List.mem_filter.mp h).2
theorem own_len (g : GS ss) (l1 : L ≤ 6) {u : Int} : (ownG ss w L u).length ≤ 384 := by
  have := List.length_filter_le (fun c => decide ((rD ss w L c).1 = u)) (span 0 (rowsG ss w L).length)
  rw [span_length] at this
  exact Nat.le_trans this (rows_few g l1)
theorem usf_sub {u d c : Int} (h : c ∈ usfG ss w L u d) : c ∈ ownG ss w L u := (List.mem_filter.mp h).1
theorem usf_len (g : GS ss) (l1 : L ≤ 6) {u d : Int} : (usfG ss w L u d).length ≤ 384 := Nat.le_trans (List.length_filter_le _ _) (own_len g l1)
/-! ### the law -/
theorem en_fits (g : GS ss) {u d : Int} (u0 : 0 ≤ u) (u1 : u < pr ss) (d0 : 0 ≤ d) (d1 : d < pr ss) (hne : u ≠ d) (r : Row5) : Ens (noX (l_dateline_fits ss (pl ss u) (pl ss d) r)) (fun b => b = fitsB ss (pl ss u) (pl ss d) r) := by
  have h3 := g.l3
  have pu := pl_len g.sz u0 u1
  have pd := pl_len g.sz d0 d1
  obtain ⟨rr, er, f0, f1, f2⟩ := fd_at (show (pl ss u).length = (pl ss d).length by rw [pu, pd]) (pl_ne g.sz u0 u1 d0 d1 hne)
  have apu : atI (pl ss u) (fd (pl ss u) (pl ss d)) = some ((pl ss u).getD (fd (pl ss u) (pl ss d)).toNat 0) := at_getD 0 f0 (by omega)
  have apd : atI (pl ss d) (fd (pl ss u) (pl ss d)) = some ((pl ss d).getD (fd (pl ss u) (pl ss d)).toNat 0) := at_getD 0 f0 (by omega)
  have aps : atI ss (fd (pl ss u) (pl ss d)) = some (ss.getD (fd (pl ss u) (pl ss d)).toNat 0) := at_getD 0 f0 (by omega)
  have q1 := pl_at g u0 u1 f0 (by omega)
  refine en_noX (en_bndE (a := fd (pl ss u) (pl ss d)) (en_bndE (a := df (pl ss u) (pl ss d)) (en_bndE (en_grd (rng_small (by omega) (by omega)) (en_eq _)) ((en_lcF (fun c : Int => !decide ((pl ss u).getD c.toNat 0 = (pl ss d).getD c.toNat 0)) (span 0 ss.length) (by rw [span_length]; omega) (fun c hc => ?_) fun c _ _ => en_eq _).mono fun x hx => by rw [hx]; unfold df; rw [pu])) (by rw [er]; exact en_optE (at_zero _ _))) ?_)
  · have := mem_span.mp hc
    exact en_bndE (en_optE (at_getD 0 (by omega) (by omega))) (en_bndE (en_optE (at_getD 0 (by omega) (by omega))) (en_eq _))
  refine en_bndE (en_optE apu) (en_bndE (en_optE apd) (en_bndE (en_optE aps) (en_bndE (en_eq _) ?_)))
  unfold fitsB
  generalize (pl ss u).getD (fd (pl ss u) (pl ss d)).toNat 0 = x at *
  generalize (pl ss d).getD (fd (pl ss u) (pl ss d)).toNat 0 = t at *
  generalize ss.getD (fd (pl ss u) (pl ss d)).toNat 0 = k at *
  have hk : k ≠ 0 := by omega
  refine en_sel (fun q => en_ret ?_) fun q => ?_
  · have : ¬ r.2.2.1 = fd (pl ss u) (pl ss d) := fun z => by rw [decide_eq_true z] at q; cases q
    rw [if_neg this]
  · have : r.2.2.1 = fd (pl ss u) (pl ss d) := Classical.byContradiction fun z => by rw [decide_eq_false z] at q; cases q
    rw [if_pos this]
    refine en_bndE (en_eq _) (en_sel (fun q => ?_) fun q => ?_)
    · rw [if_pos (of_decide_eq_true q)]
      exact en_andB
    · rw [if_neg (of_decide_eq_false q)]
      refine en_bndE (a := decide (2 * Int.fmod (t - x) k ≤ k)) (en_bndE (en_bndE (en_grd hk (en_eq _)) (en_eq _)) (en_eq _)) (en_sel (fun q => ?_) fun q => ?_)
      · rw [if_pos (of_decide_eq_true q)]
        exact en_bndE (en_bndE (en_grd hk (en_eq _)) (en_bndE (en_grd hk (en_eq _)) (en_eq _))) en_andB
      · rw [if_neg (of_decide_eq_false q)]
        exact en_bndE (en_bndE (en_grd hk (en_eq _)) (en_bndE (en_grd hk (en_eq _)) (en_eq _))) en_andB
theorem cmul_small {a b : Int} (h : -4 < b ∧ b < 4) : CMul a b := .inr ⟨by omega, by omega⟩
theorem en_optL (g : GS ss) (l0 : 0 < L) (l1 : L ≤ 6) {word : Str} {u d : Int} (u0 : 0 ≤ u) (u1 : u < pr ss) (d0 : 0 ≤ d) (d1 : d < pr ss) (hne : u ≠ d) :
    Ens (noX (l_options25 word ss (rowsG ss w L) ((span 0 (pr ss).toNat).map (pl ss)) u d)) (fun v => v = optW word ss w L u d) := by
  have hf := rows_few g l1 (w := w)
  have hol := own_len g l1 (w := w) (u := u)
  have hul := usf_len g l1 (w := w) (u := u) (d := d)
  have h3 := g.l3
  have pu := pl_len g.sz u0 u1
  have pd := pl_len g.sz d0 d1
  obtain ⟨rr, er, f0, f1, f2⟩ := fd_at (show (pl ss u).length = (pl ss d).length by rw [pu, pd]) (pl_ne g.sz u0 u1 d0 d1 hne)
  have rd : ∀ {c : Int}, c ∈ ownG ss w L u → atI (rowsG ss w L) c = some (rD ss w L c) := fun hc => row_at (own_rng hc).1 (own_rng hc).2
  refine en_noX (en_bndE (en_optE (at_pl g u0 u1)) (en_bndE (en_optE (at_pl g d0 d1)) ?_))
  refine en_bndE (a := ownG ss w L u) (en_bndE (en_grd (rng_small (by omega) (by omega)) (en_eq _)) (en_lcF (fun c => decide ((rD ss w L c).1 = u)) (span 0 (rowsG ss w L).length) (by rw [span_length]; omega) (fun c hc => ?_) fun c _ _ => en_eq _)) ?_
  · have := mem_span.mp hc
    exact en_bndE (en_bndE (en_optE (row_at (by omega) (by omega))) (en_eq _)) (en_eq _)
  unfold optW
  refine en_bndE (en_eq _) (en_sel (fun q => ?_) fun q => ?_)
  · rw [if_pos (of_decide_eq_true q)]
    exact en_bndE (en_eq _) (en_lcF (fun c => fitsB ss (pl ss u) (pl ss d) (rD ss w L c)) _ (by omega) (fun c hc => en_bndE (en_optE (rd hc)) (en_fits g u0 u1 d0 d1 hne _)) fun c _ _ => en_eq _)
  rw [if_neg (of_decide_eq_false q)]
  refine en_bndE (a := usfG ss w L u d) (en_bndE (en_eq _) (en_lcF (fun c => usB ss u d (rD ss w L c)) _ (by omega) (fun c hc => ?_) fun c _ _ => en_eq _)) ?_
  · have hr := (row_ok g l0 (own_rng hc).1 (own_rng hc).2).1
    have hb := hr.atb g
    refine en_bndE (en_bndE (a := (pl ss d).getD (rD ss w L c).2.2.1.toNat 0 - (pl ss u).getD (rD ss w L c).2.2.1.toNat 0) (en_bndE (en_bndE (en_bndE (en_optE (rd hc)) (en_eq _)) (en_optE (at_getD 0 hb.1 (by omega)))) (en_bndE (en_bndE (en_bndE (en_optE (rd hc)) (en_eq _)) (en_optE (at_getD 0 hb.1 (by omega)))) (en_eq _))) (en_bndE (en_bndE (en_optE (rd hc)) (en_eq _)) (en_grd (cmul_small (hr.byb g)) (en_eq _)))) (en_eq _)
  refine en_bndE (en_eq _) (en_sel (fun q => ?_) fun q => ?_)
  · rw [if_pos (of_decide_eq_true q)]
    refine en_bndE (a := fd (pl ss u) (pl ss d)) (en_bndE (a := df (pl ss u) (pl ss d)) (en_bndE (en_grd (rng_small (by omega) (by omega)) (en_eq _)) ((en_lcF (fun c : Int => !decide ((pl ss u).getD c.toNat 0 = (pl ss d).getD c.toNat 0)) (span 0 ss.length) (by rw [span_length]; omega) (fun c hc => ?_) fun c _ _ => en_eq _).mono fun x hx => by rw [hx]; unfold df; rw [pu])) (by rw [er]; exact en_optE (at_zero _ _))) ?_
    · have := mem_span.mp hc
      exact en_bndE (en_optE (at_getD 0 (by omega) (by omega))) (en_bndE (en_optE (at_getD 0 (by omega) (by omega))) (en_eq _))
    · exact en_bndE (en_eq _) (en_lcF (fun c => decide ((rD ss w L c).2.2.1 = fd (pl ss u) (pl ss d))) _ (by omega) (fun c hc => en_bndE (en_bndE (en_optE (rd (usf_sub hc))) (en_eq _)) (en_eq _)) fun c _ _ => en_eq _)
  rw [if_neg (of_decide_eq_false q)]
  have hnl : (negF ss w L u d).length ≤ 384 := Nat.le_trans (List.length_filter_le _ _) hul
  refine en_bndE (a := negF ss w L u d) (en_bndE (en_eq _) (en_lcF (fun c => decide ((rD ss w L c).2.2.2.1 < 0)) _ (by omega) (fun c hc => en_bndE (en_bndE (en_optE (rd (usf_sub hc))) (en_eq _)) (en_eq _)) fun c _ _ => en_eq _)) ?_
  refine en_letK (I := fun s => s = if word = ("west" : Str) then westF ss w L u d else negF ss w L u d) (fun s hs => ?_) fun k hk => ?_
  · refine en_letK (I := fun s => s = if word = ("north" : Str) then northF ss w L u d else if word = ("west" : Str) then westF ss w L u d else negF ss w L u d) (fun s2 hs2 => ?_) fun k hk => ?_
    · rw [← hs2]
      unfold trn
      refine en_sel (fun q => en_ret ?_) fun q => en_ret ?_
      · rw [if_pos (of_decide_eq_true q)]
      · rw [if_neg (of_decide_eq_false q)]
    · refine en_bndE (en_eq _) (en_sel (fun q => ?_) fun q => ?_)
      · refine en_bndE (a := northF ss w L u d) (en_bndE (en_eq _) (en_lcF (fun c => (!decide ((rD ss w L c).2.2.1 = 0)) || decide ((rD ss w L c).2.2.2.1 < 0)) _ (by omega) (fun c hc => ?_) fun c _ _ => en_eq _)) (hk _ (by rw [if_pos (of_decide_eq_true q)]))
        refine en_bndE (en_bndE (en_bndE (en_optE (rd (usf_sub hc))) (en_eq _)) (en_eq _)) (en_sel (fun z => en_ret (by rw [z]; rfl)) fun z => ?_)
        rw [z]
        exact en_bndE (en_bndE (en_optE (rd (usf_sub hc))) (en_eq _)) (en_eq _)
      · exact hk _ (by rw [if_neg (of_decide_eq_false q), hs])
  · refine en_bndE (en_eq _) (en_sel (fun q => ?_) fun q => ?_)
    · exact en_bndE (a := westF ss w L u d) (en_bndE (en_eq _) (en_lcF (fun c => decide ((rD ss w L c).2.2.1 = 1)) _ (by omega) (fun c hc => en_bndE (en_bndE (en_optE (rd (usf_sub (List.mem_filter.mp hc).1))) (en_eq _)) (en_eq _)) fun c _ _ => en_eq _)) (hk _ (by rw [if_pos (of_decide_eq_true q)]))
    · exact hk _ (by rw [if_neg (of_decide_eq_false q)])
end Cf
namespace Cf
open PySem WL L2
variable {ss : List Int} {w : Bool} {L : Nat}
theorem en_ownP (g : GS ss) (l1 : L ≤ 6) {u : Int} : Ens (noX (p_channels_from (netG ss w L 1) u)) (fun v => v = ownG ss w L u) := by
  have hf := rows_few g l1 (w := w)
  have e := chs_len (ss := ss) (w := w) (L := L)
  refine en_noX (en_bndE (a := span 0 (rowsG ss w L).length) (en_grd (?_ : Rng ((chsOf (Dof ss w) L 1).length : Int)) (en_ret (by rw [← e]; rfl))) (en_lcF (fun c => decide ((rD ss w L c).1 = u)) _ (by rw [span_length]; omega) (fun c hc => ?_) fun c _ _ => en_eq _))
  · exact rng_small (by omega) (by omega)
  · have := mem_span.mp hc
    exact en_bndE (en_bndE (en_optE (ch_atG (room := 1) (by omega) (by omega))) (en_eq _)) (en_eq _)
theorem en_step (g : GS ss) (l0 : 0 < L) {c : Int} (h0 : 0 ≤ c) (h1 : c < (rowsG ss w L).length) : Ens (noX (p_Grid_step (gridO ss w L) c)) (fun v => v = ((rD ss w L c).2.2.1, (rD ss w L c).2.2.2.1)) := by
  have hr := (row_ok g l0 h0 h1).1
  have h3 := g.l3
  have pa := pl_len g.sz hr.a0 hr.a1
  have pb := pl_len g.sz hr.b0 hr.b1
  have hb := hr.atb g
  have hpl : (pl ss (rD ss w L c).1).length = (pl ss (rD ss w L c).2.1).length := by rw [pa, pb]
  have hne := pl_ne g.sz hr.a0 hr.a1 hr.b0 hr.b1 hr.ne
  refine en_noX (en_bndE (en_optE (ch_atG (room := 1) h0 h1)) (en_bndE (en_bndE (en_optE (at_pl g hr.a0 hr.a1)) (en_bndE (en_optE (at_pl g hr.b0 hr.b1)) (en_eq _))) (en_bndE (en_first hpl (show (pl ss (rD ss w L c).1).length ≤ 6 by omega) hne) ?_)))
  rw [← hr.at_]
  have ab : atI (pl ss (rD ss w L c).2.1) (rD ss w L c).2.2.1 = some ((pl ss (rD ss w L c).2.1).getD (rD ss w L c).2.2.1.toNat 0) := at_getD 0 hb.1 (by omega)
  have aa : atI (pl ss (rD ss w L c).1) (rD ss w L c).2.2.1 = some ((pl ss (rD ss w L c).1).getD (rD ss w L c).2.2.1.toNat 0) := at_getD 0 hb.1 (by omega)
  refine en_bndE (a := (rD ss w L c).2.2.2.1) (en_bndE (en_optE ab) (en_bndE (en_optE aa) (en_ret ?_))) (en_eq _)
  rw [hr.by_]
  unfold dl
  rw [← hr.at_]
theorem en_usefulB (g : GS ss) (l0 : 0 < L) {u d c : Int} (u0 : 0 ≤ u) (u1 : u < pr ss) (d0 : 0 ≤ d) (d1 : d < pr ss) (h0 : 0 ≤ c) (h1 : c < (rowsG ss w L).length) : Ens (noX (p_Grid_is_useful (gridO ss w L) u d c)) (fun v => v = usB ss u d (rD ss w L c)) := by
  have hr := (row_ok g l0 h0 h1).1
  have hb := hr.atb g
  have pu := pl_len g.sz u0 u1
  have pd := pl_len g.sz d0 d1
  refine en_noX (en_bndE (en_step g l0 h0 h1) (en_bndE (a := (pl ss d).getD (rD ss w L c).2.2.1.toNat 0 - (pl ss u).getD (rD ss w L c).2.2.1.toNat 0) (en_bndE (en_bndE (en_optE (at_pl g d0 d1)) (en_optE (at_getD 0 hb.1 (by omega)))) (en_bndE (en_bndE (en_optE (at_pl g u0 u1)) (en_optE (at_getD 0 hb.1 (by omega)))) (en_eq _))) (en_bndE (en_grd (cmul_small (hr.byb g)) (en_eq _)) (en_eq _))))
theorem en_usefulP (g : GS ss) (l0 : 0 < L) (l1 : L ≤ 6) {u d : Int} (u0 : 0 ≤ u) (u1 : u < pr ss) (d0 : 0 ≤ d) (d1 : d < pr ss) : Ens (noX (p_Grid_useful (gridO ss w L) u d)) (fun v => v = usfG ss w L u d) := by
  have hol := own_len g l1 (w := w) (u := u)
  refine en_noX (en_bndE (en_ownP g l1) (en_lcF (fun c => usB ss u d (rD ss w L c)) _ (by omega) (fun c hc => en_usefulB g l0 u0 u1 d0 d1 (own_rng hc).1 (own_rng hc).2) fun c _ _ => en_eq _))
theorem en_order (g : GS ss) (l0 : 0 < L) (l1 : L ≤ 6) {u d : Int} (u0 : 0 ≤ u) (u1 : u < pr ss) (d0 : 0 ≤ d) (d1 : d < pr ss) (hne : u ≠ d) : Ens (noX (p_InOrder_options (gridO ss w L) u d)) (fun v => v = optW "order" ss w L u d) := by
  have h3 := g.l3
  have pu := pl_len g.sz u0 u1
  have pd := pl_len g.sz d0 d1
  have hul := usf_len g l1 (w := w) (u := u) (d := d)
  refine en_noX (en_bndE (en_bndE (en_optE (at_pl g u0 u1)) (en_bndE (en_optE (at_pl g d0 d1)) (en_first (by rw [pu, pd]) (by omega) (pl_ne g.sz u0 u1 d0 d1 hne)))) (en_bndE (en_usefulP g l0 l1 u0 u1 d0 d1) (en_bndE (en_eq _) ?_)))
  unfold optW
  rw [if_neg (show ¬ ("order" : Str) = "dateline" by decide +kernel), if_pos rfl]
  exact en_lcF (fun c => decide ((rD ss w L c).2.2.1 = fd (pl ss u) (pl ss d))) _ (by omega) (fun c hc => en_bndE (en_bndE (en_step g l0 (own_rng (usf_sub hc)).1 (own_rng (usf_sub hc)).2) (en_eq _)) (en_eq _)) fun c _ _ => en_eq _
theorem ee_II : EE (e2 eI eI) 1 := ee_2 ee_I ee_I
theorem en_linkL {l c : Int} (hl : 0 < l ∧ l ≤ 8) : Ens (bnd (noX (p_link_of l c)) fun x => opt (atI x (2 : Int))) (fun v => v = c % (2 * l) % l) := en_bndE (en_link hl) (en_optE rfl)
def chc (k x t : Int) : Int × Int := if k ≤ 2 then (t - x, 0) else if 2 * Int.fmod (t - x) k ≤ k then (if x + 1 < k then 1 else 1 - k, if (decide (t < x)) = true then 1 else 0) else (if 0 < x then -1 else k - 1, if (decide (x < t)) = true then 1 else 0)
theorem en_choice {k x t : Int} (hk : k ≠ 0) : Ens (noX (p_dateline_choice k x t)) (fun v => v = chc k x t) := by
  unfold chc
  refine en_noX (en_bndE (en_eq _) (en_sel (fun q => en_ret ?_) fun q => ?_))
  · rw [if_pos (of_decide_eq_true q)]
  · rw [if_neg (of_decide_eq_false q)]
    refine en_bndE (en_bndE (en_bndE (en_grd hk (en_eq _)) (en_eq _)) (en_eq _)) (en_sel (fun q => ?_) fun q => ?_)
    · rw [if_pos (of_decide_eq_true q)]
      exact en_bndE (a := if x + 1 < k then 1 else 1 - k) (en_sel (fun z => en_ret (by rw [if_pos (of_decide_eq_true z)])) fun z => en_ret (by rw [if_neg (of_decide_eq_false z)])) (en_eq _)
    · rw [if_neg (of_decide_eq_false q)]
      exact en_bndE (a := if 0 < x then -1 else k - 1) (en_sel (fun z => en_ret (by rw [if_pos (of_decide_eq_true z)])) fun z => en_ret (by rw [if_neg (of_decide_eq_false z)])) (en_eq _)
theorem fmod_step {k x b : Int} (x0 : 0 ≤ x) (x1 : x < k) (y0 : 0 ≤ x + b) (y1 : x + b < k) (hk : 2 < k) : (Int.fmod (x + b) k = Int.fmod (x + 1) k ↔ b = if x + 1 < k then 1 else 1 - k) := by
  rw [Int.fmod_eq_emod_of_nonneg _ (by omega), Int.fmod_eq_emod_of_nonneg _ (by omega), Int.emod_eq_of_lt y0 y1]
  split
  · rw [Int.emod_eq_of_lt (by omega) (by omega)]
    omega
  · rw [show x + 1 = k by omega, Int.emod_self]
    omega
theorem fmod_back {k x b : Int} (x0 : 0 ≤ x) (x1 : x < k) (y0 : 0 ≤ x + b) (y1 : x + b < k) (hk : 2 < k) : (Int.fmod ((x + b) + k) k = Int.fmod ((x - 1) + k) k ↔ b = if 0 < x then -1 else k - 1) := by
  rw [Int.fmod_eq_emod_of_nonneg _ (by omega), Int.fmod_eq_emod_of_nonneg _ (by omega), Int.add_emod_right, Int.emod_eq_of_lt y0 y1, Int.add_emod_right]
  split
  · rw [Int.emod_eq_of_lt (by omega) (by omega)]
    omega
  · rw [show x - 1 = (k - 1) + k * (-1) by omega, Int.add_mul_emod_self_left, Int.emod_eq_of_lt (by omega) (by omega)]
    omega
theorem fits_iff (g : GS ss) {r : Row5} (hr : RwP ss w r) {u d : Int} (eu : r.1 = u) (d0 : 0 ≤ d) (d1 : d < pr ss) (hne : u ≠ d) :
    fitsB ss (pl ss u) (pl ss d) r = (decide ((r.2.2.1, r.2.2.2.1) = (fd (pl ss u) (pl ss d), (chc (ss.getD (fd (pl ss u) (pl ss d)).toNat 0) ((pl ss u).getD (fd (pl ss u) (pl ss d)).toNat 0) ((pl ss d).getD (fd (pl ss u) (pl ss d)).toNat 0)).1)) && decide (r.2.2.2.2 = (chc (ss.getD (fd (pl ss u) (pl ss d)).toNat 0) ((pl ss u).getD (fd (pl ss u) (pl ss d)).toNat 0) ((pl ss d).getD (fd (pl ss u) (pl ss d)).toNat 0)).2)) := by
  subst eu
  have hb := hr.atb g
  have y := pl_at g hr.b0 hr.b1 hb.1 hb.2
  have x := pl_at g hr.a0 hr.a1 hb.1 hb.2
  have hby := hr.by_
  unfold dl at hby
  rw [← hr.at_] at hby
  unfold fitsB
  by_cases q : r.2.2.1 = fd (pl ss r.1) (pl ss d)
  · rw [if_pos q]
    rw [q] at hby x y
    generalize fd (pl ss r.1) (pl ss d) = f at *
    generalize (pl ss r.1).getD f.toNat 0 = x' at *
    generalize (pl ss r.2.1).getD f.toNat 0 = y' at *
    generalize (pl ss d).getD f.toNat 0 = t at *
    generalize ss.getD f.toNat 0 = k at *
    have e1 : ∀ z : Int, decide ((r.2.2.1, r.2.2.2.1) = (f, z)) = decide (r.2.2.2.1 = z) := fun z => decide_eq_decide.mpr ⟨fun h => (Prod.mk.inj h).2, fun h => by rw [q, h]⟩
    rw [e1]
    unfold chc
    by_cases k2 : k ≤ 2
    · rw [if_pos k2, if_pos k2]
    · rw [if_neg k2, if_neg k2]
      by_cases z : 2 * Int.fmod (t - x') k ≤ k
      · rw [if_pos z, if_pos z, decide_eq_decide.mpr (fmod_step x.1 x.2.1 (b := r.2.2.2.1) (by omega) (by omega) (by omega))]
      · rw [if_neg z, if_neg z, decide_eq_decide.mpr (fmod_back x.1 x.2.1 (b := r.2.2.2.1) (by omega) (by omega) (by omega))]
  · rw [if_neg q, decide_eq_false (fun h => q (Prod.mk.inj h).1), Bool.false_and]
theorem en_lines (g : GS ss) (l0 : 0 < L) (l1 : L ≤ 6) {u d : Int} (u0 : 0 ≤ u) (u1 : u < pr ss) (d0 : 0 ≤ d) (d1 : d < pr ss) (hne : u ≠ d) : Ens (noX (p_AcrossLines_options (gridO ss w L) u d)) (fun v => v = optW "dateline" ss w L u d) := by
  have h3 := g.l3
  have pu := pl_len g.sz u0 u1
  have pd := pl_len g.sz d0 d1
  have hol := own_len g l1 (w := w) (u := u)
  have hpn := pl_ne g.sz u0 u1 d0 d1 hne
  obtain ⟨rr, er, f0, f1, f2⟩ := fd_at (show (pl ss u).length = (pl ss d).length by rw [pu, pd]) hpn
  have hk := pl_at g u0 u1 f0 (by omega)
  have hpl : (pl ss u).length = (pl ss d).length := by rw [pu, pd]
  have h6 : (pl ss u).length ≤ 6 := by omega
  have apu : atI (pl ss u) (fd (pl ss u) (pl ss d)) = some ((pl ss u).getD (fd (pl ss u) (pl ss d)).toNat 0) := at_getD 0 f0 (by omega)
  have apd : atI (pl ss d) (fd (pl ss u) (pl ss d)) = some ((pl ss d).getD (fd (pl ss u) (pl ss d)).toNat 0) := at_getD 0 f0 (by omega)
  have aps : atI ss (fd (pl ss u) (pl ss d)) = some (ss.getD (fd (pl ss u) (pl ss d)).toNat 0) := at_getD 0 f0 (by omega)
  have hk0 : ss.getD (fd (pl ss u) (pl ss d)).toNat 0 ≠ 0 := by omega
  refine en_noX (en_bndE (en_bndE (en_optE (at_pl g u0 u1)) (en_bndE (en_optE (at_pl g d0 d1)) (en_eq _))) (en_bndE (en_first hpl h6 hpn) ?_))
  refine en_bndE (en_bndE (en_optE aps) (en_bndE (en_optE apu) (en_bndE (en_optE apd) (en_choice hk0)))) (en_bndE (en_ownP g l1) (en_bndE (en_eq _) ?_))
  unfold optW
  rw [if_pos rfl]
  refine en_lcF (fun c => fitsB ss (pl ss u) (pl ss d) (rD ss w L c)) _ (by omega) (fun c hc => ?_) fun c _ _ => en_eq _
  have hro := row_ok g l0 (own_rng hc).1 (own_rng hc).2
  rw [fits_iff g hro.1 (own_src hc) d0 d1 hne]
  refine en_bndE (en_bndE (en_step g l0 (own_rng hc).1 (own_rng hc).2) (en_eqW ee_II (by decide) _ _)) (en_sel (fun q => ?_) fun q => en_ret ?_)
  · rw [q, Bool.true_and]
    refine en_bndE (en_linkL (l := (L : Int)) (by omega)) (en_ret ?_)
    rw [hro.2]
  · rw [q, Bool.false_and]
end Cf
namespace Cf
open PySem WL L2
variable {ss : List Int} {w : Bool} {L : Nat}
theorem en_turnG (g : GS ss) (l0 : 0 < L) (l1 : L ≤ 6) {kind : Str} {u d : Int} (u0 : 0 ≤ u) (u1 : u < pr ss) (d0 : 0 ≤ d) (d1 : d < pr ss) {q : Row5 → Bool}
    (hq : ∀ r : Row5, RwP ss false r → Ens (noX (p_InTurn_is_first (gridO ss false L, kind) (r.2.2.1, r.2.2.2.1))) (fun v => v = q r)) :
    Ens (noX (p_InTurn_options (gridO ss false L, kind) u d)) (fun v => v = trn ((usfG ss false L u d).filter fun c => q (rD ss false L c)) (usfG ss false L u d)) := by
  have hul := usf_len g l1 (w := false) (u := u) (d := d)
  refine en_noX (en_bndE (en_usefulP g l0 l1 u0 u1 d0 d1) (en_bndE (en_bndE (en_eq _) (en_lcF (fun c => q (rD ss false L c)) _ (by omega) (fun c hc => ?_) fun c _ _ => en_eq _)) ?_))
  · have hr := own_rng (usf_sub hc)
    exact en_bndE (en_step g l0 hr.1 hr.2) (hq _ (row_ok g l0 hr.1 hr.2).1)
  · generalize (usfG ss false L u d).filter (fun c => q (rD ss false L c)) = f
    unfold trn
    cases f with
    | nil => exact en_sel (fun h => by cases h) fun _ => en_ret rfl
    | cons a r => exact en_sel (fun _ => en_ret (by rw [if_pos (by rw [List.length_cons]; omega)])) fun h => by cases h
theorem fil_congr {l : List Int} {p q : Int → Bool} (h : ∀ c ∈ l, p c = q c) : l.filter p = l.filter q := List.filter_congr h
theorem usf_row (g : GS ss) (l0 : 0 < L) {u d c : Int} (hc : c ∈ usfG ss w L u d) : RwP ss w (rD ss w L c) := (row_ok g l0 (own_rng (usf_sub hc)).1 (own_rng (usf_sub hc)).2).1
theorem un1 {r : Row5} (h : RwP ss false r) : r.2.2.2.1 = 1 ∨ r.2.2.2.1 = -1 := by
  rcases h.un with z | z
  · cases z
  · exact z
theorem en_neg (g : GS ss) (l0 : 0 < L) (l1 : L ≤ 6) {u d : Int} (u0 : 0 ≤ u) (u1 : u < pr ss) (d0 : 0 ≤ d) (d1 : d < pr ss) : Ens (noX (p_InTurn_options (gridO ss false L, "negative") u d)) (fun v => v = optW "negative" ss false L u d) := by
  refine (en_turnG g l0 l1 u0 u1 d0 d1 (q := fun r => decide (r.2.2.2.1 < 0)) fun r hr => en_noX (en_bndE (en_eq _) (en_sel (fun _ => en_eq _) fun h => by rw [decide_eq_true (show ("negative" : Str) = "negative" from rfl)] at h; cases h))).mono fun v hv => ?_
  rw [hv]
  unfold optW
  rw [if_neg (show ¬ ("negative" : Str) = "dateline" by decide +kernel), if_neg (show ¬ ("negative" : Str) = "order" by decide +kernel), if_neg (show ¬ ("negative" : Str) = "north" by decide +kernel), if_neg (show ¬ ("negative" : Str) = "west" by decide +kernel)]
  rfl
theorem en_west (g : GS ss) (l0 : 0 < L) (l1 : L ≤ 6) {u d : Int} (u0 : 0 ≤ u) (u1 : u < pr ss) (d0 : 0 ≤ d) (d1 : d < pr ss) : Ens (noX (p_InTurn_options (gridO ss false L, "west") u d)) (fun v => v = optW "west" ss false L u d) := by
  refine (en_turnG g l0 l1 u0 u1 d0 d1 (q := fun r => decide ((r.2.2.1, r.2.2.2.1) = ((1 : Int), -(1 : Int)))) fun r hr => en_noX (en_bndE (en_eq _) (en_sel (fun h => absurd (show ("west" : Str) = "negative" from of_decide_eq_true h) (by decide +kernel)) fun _ => en_bndE (en_eq _) (en_sel (fun _ => en_eqW ee_II (by decide) _ _) fun h => (of_decide_eq_false (show decide (("west" : Str) = "west") = false from h) rfl).elim)))).mono fun v hv => ?_
  rw [hv]
  unfold optW
  rw [if_neg (show ¬ ("west" : Str) = "dateline" by decide +kernel), if_neg (show ¬ ("west" : Str) = "order" by decide +kernel), if_neg (show ¬ ("west" : Str) = "north" by decide +kernel), if_pos rfl]
  congr 1
  unfold westF negF
  rw [List.filter_filter]
  refine fil_congr fun c hc => ?_
  have hu := un1 (usf_row g l0 hc)
  rw [Bool.eq_iff_iff, Bool.and_eq_true, decide_eq_true_iff, decide_eq_true_iff, decide_eq_true_iff]
  constructor
  · intro h
    have := Prod.mk.inj h
    exact ⟨this.1, by omega⟩
  · rintro ⟨h1, h2⟩
    rw [h1, show (rD ss false L c).2.2.2.1 = -1 by omega]
theorem en_north (g : GS ss) (l0 : 0 < L) (l1 : L ≤ 6) {u d : Int} (u0 : 0 ≤ u) (u1 : u < pr ss) (d0 : 0 ≤ d) (d1 : d < pr ss) : Ens (noX (p_InTurn_options (gridO ss false L, "north") u d)) (fun v => v = optW "north" ss false L u d) := by
  refine (en_turnG g l0 l1 u0 u1 d0 d1 (q := fun r => !decide ((r.2.2.1, r.2.2.2.1) = ((0 : Int), (1 : Int)))) fun r hr => en_noX (en_bndE (en_eq _) (en_sel (fun h => absurd (show ("north" : Str) = "negative" from of_decide_eq_true h) (by decide +kernel)) fun _ => en_bndE (en_eq _) (en_sel (fun h => absurd (show ("north" : Str) = "west" from of_decide_eq_true h) (by decide +kernel)) fun _ => en_eqWN ee_II (by decide) _ _)))).mono fun v hv => ?_
  rw [hv]
  unfold optW
  rw [if_neg (show ¬ ("north" : Str) = "dateline" by decide +kernel), if_neg (show ¬ ("north" : Str) = "order" by decide +kernel), if_pos rfl]
  congr 1
  unfold northF
  refine fil_congr fun c hc => ?_
  have hu := un1 (usf_row g l0 hc)
  rw [Bool.eq_iff_iff, Bool.or_eq_true, Bool.not_eq_true', Bool.not_eq_true', decide_eq_true_iff, decide_eq_false_iff_not, decide_eq_false_iff_not]
  constructor
  · intro h
    by_cases z : (rD ss false L c).2.2.1 = 0
    · refine .inr ?_
      rcases hu with hu | hu
      · exact absurd (by rw [z, hu]) h
      · omega
    · exact .inl z
  · rintro (h | h) e
    · exact h (Prod.mk.inj e).1
    · have := (Prod.mk.inj e).2
      omega
/-! ### tables -/
abbrev Tab3 := List (List (List Int))
def tabO (o : Int → Int → List Int) (n : Nat) : Tab3 := (span 0 n).map fun u => (span 0 n).map fun d => if u = d then [] else o u d
theorem en_tableW {n : Int} (n0 : 0 ≤ n) (n1 : n ≤ 64) {m : Int → Int → Wp (List Int)} {o : Int → Int → List Int} (h : ∀ u d, 0 ≤ u → u < n → 0 ≤ d → d < n → u ≠ d → Ens (noX (m u d)) (fun v => v = o u d)) :
    Ens (bnd (ret ([] : Tab3)) fun rows_1 => bnd (grd (Rng n) (ret (span 0 n.toNat))) fun l9 => forK (fun x2 (s3 : Tab3) kc4 kb5 => appW s3 (bnd (grd (Rng n) (ret (span 0 n.toNat))) fun l8 => lcG (fun c7 => (ret true)) (fun c7 => (sel (decide (x2 = c7)) (ret ([] : (List Int))) (noX (m x2 c7)))) l8) fun s6 => kc4 s6) (fun s3 : Tab3 => ret s3) l9 rows_1) (fun v => v = tabO o n.toNat) := by
  have rn : Rng n := rng_small n0 (by omega)
  refine en_bndE (en_eq _) (en_bndE (en_grd rn (en_eq _)) ?_)
  refine en_for (fun pre s => s = pre.map fun u => (span 0 n.toNat).map fun d => if u = d then [] else o u d) _ rfl (fun pre u post s k e hs hk => ?_) (fun s hs => en_ret hs)
  have eu := span_at e
  have hp := congrArg List.length e
  rw [span_length, List.length_append, List.length_cons] at hp
  refine en_app (R := fun row => row = (span 0 n.toNat).map fun d => if u = d then [] else o u d) (en_bndE (en_grd rn (en_eq _)) (en_lcM (fun d => if u = d then [] else o u d) _ (by rw [span_length]; omega) fun d hd => ?_)) (by rw [hs, List.length_map]; omega) fun row hr => hk _ (by rw [hs, hr, List.map_append]; rfl)
  have := mem_span.mp hd
  refine en_sel (fun q => en_ret ?_) fun q => ?_
  · rw [if_pos (of_decide_eq_true q)]
  · rw [if_neg (of_decide_eq_false q)]
    exact h u d (by omega) (by omega) (by omega) (by omega) (of_decide_eq_false q)
abbrev tabW (word : Str) (ss : List Int) (w : Bool) (L : Nat) : Tab3 := tabO (optW word ss w L) (pr ss).toNat
theorem en_dim (g : GS ss) (l0 : 0 < L) (l1 : L ≤ 6) : Ens (p_dimension_order ss (L : Int)) (fun v => v = tabW "order" ss false L) := by
  have h2 := g.p2
  have h16 := g.p16
  exact en_bndE (en_ginit g l0 l1) (en_noX (en_tableW (n := pr ss) (by omega) (by omega) (m := fun u d => p_InOrder_options (gridO ss false L) u d) fun u d u0 u1 d0 d1 hne => en_order g l0 l1 u0 u1 d0 d1 hne))
theorem en_date (g : GS ss) (l0 : 1 < L) (l1 : L ≤ 6) : Ens (p_dateline ss (L : Int)) (fun v => v = tabW "dateline" ss true L) := by
  have h2 := g.p2
  have h16 := g.p16
  refine en_bndE (en_eq _) (en_sel (fun h => by have := of_decide_eq_true h; omega) fun _ => ?_)
  exact en_bndE (en_ginit g (by omega) l1) (en_noX (en_tableW (n := pr ss) (by omega) (by omega) (m := fun u d => p_AcrossLines_options (gridO ss true L) u d) fun u d u0 u1 d0 d1 hne => en_lines g (by omega) l1 u0 u1 d0 d1 hne))
theorem en_tturn (g : GS ss) (l0 : 0 < L) (l1 : L ≤ 6) {kind : Str} (h : ∀ {u d : Int}, 0 ≤ u → u < pr ss → 0 ≤ d → d < pr ss → Ens (noX (p_InTurn_options (gridO ss false L, kind) u d)) (fun v => v = optW kind ss false L u d)) : Ens (noX (p_table_in_turn ss (L : Int) kind)) (fun v => v = tabW kind ss false L) := by
  have h2 := g.p2
  have h16 := g.p16
  exact en_noX (en_bndE (en_ginit g (by omega) l1) (en_noX (en_tableW (n := pr ss) (by omega) (by omega) (m := fun u d => p_InTurn_options (gridO ss false L, kind) u d) fun u d u0 u1 d0 d1 hne => h u0 u1 d0 d1)))
theorem en_ltable (g : GS ss) (l0 : 0 < L) (l1 : L ≤ 6) {word : Str} : Ens (noX (l_table word ss (L : Int))) (fun v => v = tabW word ss (decide (word = ("dateline" : Str))) L) := by
  have h2 := g.p2
  have h16 := g.p16
  refine en_noX (en_bndE (en_grid g.sz (by omega)) (en_bndE ((en_places g.sz).mono fun Pl hP => hP.eq g.sz.pos) (en_bndE (a := pr ss) (en_ret (by rw [List.length_map, span_length]; omega)) ?_)))
  have rn : Rng (pr ss) := rng_small (by omega) (by omega)
  refine en_bndE (en_grd rn (en_eq _)) (en_lcM (fun u => (span 0 (pr ss).toNat).map fun d => if u = d then [] else optW word ss (decide (word = ("dateline" : Str))) L u d) _ (by rw [span_length]; omega) fun u hu => en_bndE (en_grd rn (en_eq _)) (en_lcM (fun d => if u = d then [] else optW word ss (decide (word = ("dateline" : Str))) L u d) _ (by rw [span_length]; omega) fun d hd => en_sel (fun q => en_ret ?_) fun q => ?_))
  · rw [if_pos (of_decide_eq_true q)]
  · have := mem_span.mp hu
    have := mem_span.mp hd
    rw [if_neg (of_decide_eq_false q)]
    exact en_optL g l0 l1 (by omega) (by omega) (by omega) (by omega) (of_decide_eq_false q)
/-! ### what is told -/
def badW (word : Str) (ss : List Int) (L : Nat) : Prop := (word = ("dateline" : Str) ∧ L = 1) ∨ ((word = ("west" : Str) ∨ word = ("north" : Str)) ∧ ss.length ≠ 2)
theorem two_go (h : ss.length = 2) : Ens (p_check_two ss) (fun _ => True) := en_bndE (en_eq _) (en_sel (fun q => by rw [decide_eq_true (show (ss.length : Int) = 2 by omega)] at q; cases q) fun _ => en_ret trivial)
theorem two_bad (h : ss.length ≠ 2) (P : Unit → Prop) (X : Xn → Prop) (hX : X (.plain 0)) : p_check_two ss P X := by
  refine bnd_go (en_eq _) ?_
  rw [decide_eq_false (show ¬ (ss.length : Int) = 2 by omega)]
  exact hX
theorem try_ok {F : Type} {m mh : Wp F} {Q : F → Prop} (h : Ens m Q) : Ens (tryW m mh) Q := fun P _ hp => h P _ hp
theorem try_bad {F : Type} {m : Wp F} {a : F} (h : ∀ (P : F → Prop) (X : Xn → Prop), X (.plain 0) → m P X) : Ens (tryW m (ret a)) (fun v => v = a) := fun P _ hp => h P _ (hp a rfl)
theorem en_some {m : Wp Tab3} {t : Tab3} (h : Ens m (fun v => v = t)) : Ens (bnd m fun y => ret (some y)) (fun v => v = some t) := en_bndE h (en_eq _)
theorem bad_some {m : Wp Tab3} (h : ∀ (P : Tab3 → Prop) (X : Xn → Prop), X (.plain 0) → m P X) : ∀ (P : Option Tab3 → Prop) (X : Xn → Prop), X (.plain 0) → (bnd m fun y => ret (some y)) P X := fun P X hx => h _ _ hx
/-- the row of a cascade that is passed -/
theorem en_pass {F : Type} {b : Bool} (hb : b = false) {m n : Wp F} {Q : F → Prop} (h : Ens n Q) : Ens (bnd (ret b) fun b' => sel b' m n) Q := by subst hb; exact h
theorem en_take1 {F : Type} {b : Bool} (hb : b = true) {m n : Wp F} {Q : F → Prop} (h : Ens m Q) : Ens (bnd (ret b) fun b' => sel b' m n) Q := by subst hb; exact h
theorem bad_pass {F : Type} {b : Bool} (hb : b = false) {m n : Wp F} (h : ∀ (P : F → Prop) (X : Xn → Prop), X (.plain 0) → n P X) : ∀ (P : F → Prop) (X : Xn → Prop), X (.plain 0) → (bnd (ret b) fun b' => sel b' m n) P X := by subst hb; exact h
theorem bad_take1 {F : Type} {b : Bool} (hb : b = true) {m n : Wp F} (h : ∀ (P : F → Prop) (X : Xn → Prop), X (.plain 0) → m P X) : ∀ (P : F → Prop) (X : Xn → Prop), X (.plain 0) → (bnd (ret b) fun b' => sel b' m n) P X := by subst hb; exact h
theorem en_wfirst (g : GS ss) (l0 : 0 < L) (l1 : L ≤ 6) (h : ss.length = 2) : Ens (p_west_first ss (L : Int)) (fun v => v = tabW "west" ss false L) := en_bnd (two_go h) fun _ _ => en_tturn g l0 l1 fun u0 u1 d0 d1 => en_west g l0 l1 u0 u1 d0 d1
theorem en_nlast (g : GS ss) (l0 : 0 < L) (l1 : L ≤ 6) (h : ss.length = 2) : Ens (p_north_last ss (L : Int)) (fun v => v = tabW "north" ss false L) := en_bnd (two_go h) fun _ _ => en_tturn g l0 l1 fun u0 u1 d0 d1 => en_north g l0 l1 u0 u1 d0 d1
theorem nn1 : decide (("dateline" : Str) = "order") = false := by decide +kernel
theorem nn2 : decide (("negative" : Str) = "order") = false := by decide +kernel
theorem nn3 : decide (("negative" : Str) = "dateline") = false := by decide +kernel
theorem nn4 : decide (("west" : Str) = "order") = false := by decide +kernel
theorem nn5 : decide (("west" : Str) = "dateline") = false := by decide +kernel
theorem nn6 : decide (("west" : Str) = "negative") = false := by decide +kernel
theorem nn7 : decide (("north" : Str) = "order") = false := by decide +kernel
theorem nn8 : decide (("north" : Str) = "dateline") = false := by decide +kernel
theorem nn9 : decide (("north" : Str) = "negative") = false := by decide +kernel
theorem nn10 : decide (("north" : Str) = "west") = false := by decide +kernel
theorem nn11 : decide (("order" : Str) = "dateline") = false := by decide +kernel
theorem nn12 : decide (("order" : Str) = "west") = false := by decide +kernel
theorem nn13 : decide (("order" : Str) = "north") = false := by decide +kernel
theorem nn14 : decide (("negative" : Str) = "west") = false := by decide +kernel
theorem nn15 : decide (("negative" : Str) = "north") = false := by decide +kernel
theorem nn16 : decide (("dateline" : Str) = "west") = false := by decide +kernel
theorem nn17 : decide (("dateline" : Str) = "north") = false := by decide +kernel
theorem nno {a b : Str} (h : decide (a = b) = false) : ¬ a = b := of_decide_eq_false h
open Classical in
theorem en_told25 (g : GS ss) (l0 : 0 < L) (l1 : L ≤ 6) {word : Str} (hw : word ∈ [("order" : Str), ("dateline" : Str), ("negative" : Str), ("west" : Str), ("north" : Str)]) : Ens (noX (l_told25 word ss (L : Int))) (fun v => v = if badW word ss L then none else some (tabW word ss (decide (word = ("dateline" : Str))) L)) := by
  refine en_noX ?_
  unfold l_told25
  simp only [List.mem_cons, List.not_mem_nil, or_false] at hw
  rcases hw with rfl | rfl | rfl | rfl | rfl
  · rw [if_neg (show ¬ badW "order" ss L from fun h => h.elim (fun h => nno nn11 h.1) fun h => h.1.elim (nno nn12) (nno nn13)), nn11]
    exact try_ok (en_take1 (decide_eq_true rfl) (en_some (en_dim g l0 l1)))
  · by_cases q : L = 1
    · rw [if_pos (show badW "dateline" ss L from .inl ⟨rfl, q⟩)]
      refine try_bad (bad_pass nn1 (bad_take1 (decide_eq_true rfl) (bad_some fun P X hX => ?_)))
      refine bnd_go (en_eq _) ?_
      rw [decide_eq_true (show (L : Int) = 1 by omega)]
      exact hX
    · rw [if_neg (show ¬ badW "dateline" ss L from fun h => h.elim (fun h => q h.2) fun h => h.1.elim (nno nn16) (nno nn17)), decide_eq_true rfl]
      exact try_ok (en_pass nn1 (en_take1 rfl (en_some (en_date g (by omega) l1))))
  · rw [if_neg (show ¬ badW "negative" ss L from fun h => h.elim (fun h => nno nn3 h.1) fun h => h.1.elim (nno nn14) (nno nn15)), nn3]
    exact try_ok (en_pass nn2 (en_pass rfl (en_take1 (decide_eq_true rfl) (en_some (en_tturn g l0 l1 fun u0 u1 d0 d1 => en_neg g l0 l1 u0 u1 d0 d1)))))
  · by_cases q : ss.length = 2
    · rw [if_neg (show ¬ badW "west" ss L from fun h => h.elim (fun h => nno nn5 h.1) fun h => h.2 q), nn5]
      refine try_ok (en_pass nn4 (en_pass rfl (en_pass nn6 ?_)))
      rw [decide_eq_true (show ("west" : Str) = "west" from rfl)]
      exact en_some (en_wfirst g l0 l1 q)
    · rw [if_pos (show badW "west" ss L from .inr ⟨.inl rfl, q⟩)]
      refine try_bad (bad_pass nn4 (bad_pass nn5 (bad_pass nn6 ?_)))
      rw [decide_eq_true (show ("west" : Str) = "west" from rfl)]
      exact bad_some (m := p_west_first ss (L : Int)) fun P X hX => two_bad q _ X hX
  · by_cases q : ss.length = 2
    · rw [if_neg (show ¬ badW "north" ss L from fun h => h.elim (fun h => nno nn8 h.1) fun h => h.2 q), nn8]
      refine try_ok (en_pass nn7 (en_pass rfl (en_pass nn9 ?_)))
      rw [nn10]
      exact en_some (en_nlast g l0 l1 q)
    · rw [if_pos (show badW "north" ss L from .inr ⟨.inr rfl, q⟩)]
      refine try_bad (bad_pass nn7 (bad_pass nn8 (bad_pass nn9 ?_)))
      rw [nn10]
      exact bad_some (m := p_north_last ss (L : Int)) fun P X hX => two_bad q _ X hX
end Cf
namespace Cf
open PySem WL L2
variable {n : Nat} {chs : Ch3} {f : List (List Int)}
theorem span_at' {n : Nat} {u : Int} (h0 : 0 ≤ u) (h1 : u < n) : atI (span 0 n) u = some u := by
  rw [at_getD (i := u) 0 h0 (by rw [span_length]; exact h1), List.getD_eq_getElem?_getD, span_get (by omega)]
  show some (0 + ((u.toNat : Nat) : Int)) = _
  rw [show (0 : Int) + ((u.toNat : Nat) : Int) = u by omega]
theorem map_at {α β : Type} {g : α → β} {l : List α} {u : Int} {x : α} (h : atI l u = some x) (h0 : 0 ≤ u) (h1 : u < l.length) (z : α) : atI (l.map g) u = some (g x) := by
  rw [at_getD (i := u) (g z) h0 (by rw [List.length_map]; exact h1), map_getD (by omega) z]
  rw [at_getD (i := u) z h0 h1] at h
  rw [Option.some.inj h]
theorem at_tabO {o : Int → Int → List Int} {u d : Int} (u0 : 0 ≤ u) (u1 : u < n) (d0 : 0 ≤ d) (d1 : d < n) : ∃ row, atI (tabO o n) u = some row ∧ atI row d = some (if u = d then [] else o u d) :=
  ⟨_, map_at (span_at' u0 u1) u0 (by rw [span_length]; exact u1) 0, map_at (span_at' d0 d1) d0 (by rw [span_length]; exact d1) 0⟩
def chG (chs : Ch3) (c : Int) : Int × Int × Int := chs.getD c.toNat (0, 0, 0)
def nearB (f : List (List Int)) (chs : Ch3) (u d c : Int) : Bool := decide (fc f u.toNat d.toNat < 900) && decide (fc f (chG chs c).2.1.toNat d.toNat = fc f u.toNat d.toNat - 1)
def ownC (chs : Ch3) (u : Int) : List Int := (span 0 chs.length).filter fun c => decide ((chG chs c).1 = u)
theorem ch_at3 {c : Int} (h0 : 0 ≤ c) (h1 : c < chs.length) : atI chs c = some (chG chs c) := at_getD _ h0 h1
theorem ch_ok (g : NG2 n chs) {c : Int} (h0 : 0 ≤ c) (h1 : c < chs.length) : 0 ≤ (chG chs c).1 ∧ (chG chs c).1 < n ∧ 0 ≤ (chG chs c).2.1 ∧ (chG chs c).2.1 < n := g.ch _ (getD_mem _ (by omega))
theorem ownC_rng {u c : Int} (h : c ∈ ownC chs u) : 0 ≤ c ∧ c < chs.length := by
  have := mem_span.mp (List.mem_filter.mp h).1
  omega
theorem ownC_len (g : NG2 n chs) {u : Int} : (ownC chs u).length ≤ 400 := by
  have := List.length_filter_le (fun c => decide ((chG chs c).1 = u)) (span 0 chs.length)
  rw [span_length] at this
  exact Nat.le_trans this g.ml
theorem due_at (F : FarP chs n f) {u d : Int} (u0 : 0 ≤ u) (u1 : u < n) (d0 : 0 ≤ d) (d1 : d < n) : ∃ row, atI (dueF f) u = some row ∧ atI row d = some (dcell (fc f u.toNat d.toNat)) :=
  ⟨_, map_at (F.sd.sq.atR u0 u1) u0 (by rw [F.sd.sq.len]; exact u1) [], map_at (F.sd.sq.at (by omega) d0 d1) d0 (by rw [F.sd.sq.row _ (by omega)]; exact d1) 0⟩
theorem en_near1 {a b : Int} (ha : a = 999 ∨ (0 ≤ a ∧ a ≤ 512)) (hb : b = 999 ∨ (0 ≤ b ∧ b ≤ 512)) :
    Ens (sel (Option.isSome (dcell a)) (sel (Option.isSome (dcell b)) (bnd (bnd (bnd (opt (dcell a)) fun x8 => ret (x8 - (1 : Int))) fun y => ret (some y)) fun x9 => eqW ((eO eI) (dcell b)) ((eO eI) x9)) (ret false)) (ret false)) (fun v => v = (decide (a < 900) && decide (b = a - 1))) := by
  by_cases q : (900 : Int) < a
  · have e : dcell a = none := by unfold dcell; rw [if_pos q]
    rw [e, decide_eq_false (show ¬ a < 900 by omega)]
    exact en_ret rfl
  · have e : dcell a = some a := by unfold dcell; rw [if_neg q]
    rw [e, decide_eq_true (show a < 900 by omega), Bool.true_and]
    refine en_sel (fun _ => ?_) fun h => by cases h
    by_cases q2 : (900 : Int) < b
    · have e2 : dcell b = none := by unfold dcell; rw [if_pos q2]
      rw [e2, decide_eq_false (show ¬ b = a - 1 by omega)]
      exact en_ret rfl
    · have e2 : dcell b = some b := by unfold dcell; rw [if_neg q2]
      rw [e2]
      refine en_sel (fun _ => ?_) fun h => by cases h
      refine en_bndE (en_bndE (en_bndE (en_optE rfl) (en_eq _)) (en_eq _)) ((en_eqW ee_OI (by decide) (some b) (some (a - 1))).mono fun v hv => ?_)
      rw [hv]
      exact decide_eq_decide.mpr ⟨fun h => Option.some.inj h, fun h => by rw [h]⟩
theorem cell_ok (F : FarP chs n f) {u d : Nat} (hu : u < n) (hd : d < n) : fc f u d = 999 ∨ (0 ≤ fc f u d ∧ fc f u d ≤ 512) := by
  have := F.sd.lo u d hu hd
  rcases F.cell hu hd with z | z
  · exact .inl z
  · exact .inr ⟨this.1, z⟩
theorem en_nearO (g : NG2 n chs) (F : FarP chs n f) {u d : Int} (u0 : 0 ≤ u) (u1 : u < n) (d0 : 0 ≤ d) (d1 : d < n) : Ens (noX (p_Nearer_options (((n : Int), chs), dueF f) u d)) (fun v => v = (ownC chs u).filter fun c => nearB f chs u d c) := by
  have hm := g.ml
  have hol := ownC_len g (u := u)
  obtain ⟨ru, e1, e2⟩ := due_at F u0 u1 d0 d1
  refine en_noX (en_bndE (a := ownC chs u) (en_noX (en_bndE (en_grd (rng_small (show (0 : Int) ≤ (chs.length : Int) by omega) (show (chs.length : Int) < 1000000 by omega)) (en_eq _)) (en_lcF (fun c => decide ((chG chs c).1 = u)) (span 0 chs.length) (by rw [span_length]; omega) (fun c hc => ?_) fun c _ _ => en_eq _))) (en_lcF (fun c => nearB f chs u d c) _ (by omega) (fun c hc => ?_) fun c _ _ => en_eq _))
  · have := mem_span.mp hc
    exact en_bndE (en_bndE (en_optE (ch_at3 (chs := chs) (by omega) (by omega))) (en_eq _)) (en_eq _)
  · have hr := ownC_rng hc
    have hc3 := ch_ok g hr.1 hr.2
    obtain ⟨rt, e3, e4⟩ := due_at F hc3.2.2.1 hc3.2.2.2 d0 d1
    exact en_noX (en_bndE (en_bndE (en_bndE (en_optE e1) (en_optE e2)) (en_bndE (en_bndE (en_bndE (en_bndE (en_optE (ch_at3 hr.1 hr.2)) (en_eq _)) (en_optE e3)) (en_optE e4)) (en_eq _))) (en_near1 (cell_ok F (by omega) (by omega)) (cell_ok F (by omega) (by omega))))
theorem en_shortest (g : NG2 n chs) (F : FarP chs n f) : Ens (noX (p_shortest ((n : Int), chs))) (fun v => v = tabO (fun u d => (ownC chs u).filter fun c => nearB f chs u d c) n) := by
  have h9 := g.n9
  refine en_noX (en_bndE (a := (((n : Int), chs), dueF f)) (en_noX (en_bndE (en_eq _) (en_bndE (en_dists g F) (en_eq _)))) (en_noX (en_tableW (n := (n : Int)) (by omega) (by omega) (m := fun u d => p_Nearer_options (((n : Int), chs), dueF f) u d) fun u d u0 u1 d0 d1 _ => en_nearO g F u0 u1 d0 d1)))
theorem en_sfine (g : NG2 n chs) : Ens (noX (l_shortest_fine ((n : Int), chs))) (fun b => b = true) := by
  have h9 := g.n9
  have hm := g.ml
  refine en_noX (en_bnd (en_far g) fun f F => en_bndE (en_shortest g F) (en_bndE (en_eq _) ?_))
  have rn : Rng (n : Int) := rng_small (by omega) (by omega)
  refine en_bndE (en_grd rn (en_eq _)) (en_forN (n := n) (fun _ _ => True) trivial (fun i s k kx hi _ hk => ?_) fun s _ => ?_)
  · refine en_bndE (en_grd rn (en_eq _)) (en_forN (n := n) (fun _ _ => True) trivial (fun j s2 k2 kx2 hj _ hk2 => ?_) fun s _ => hk _ trivial)
    have hle : (span 0 chs.length).length ≤ 400 := by rw [span_length]; exact hm
    refine en_bndE (a := (span 0 chs.length).filter fun c => decide ((chG chs c).1 = (i : Int)) && !decide ((i : Int) = (j : Int))) (en_bndE (en_grd (rng_small (show (0 : Int) ≤ (chs.length : Int) by omega) (show (chs.length : Int) < 1000000 by omega)) (en_eq _)) (en_lcF (fun c => decide ((chG chs c).1 = (i : Int)) && !decide ((i : Int) = (j : Int))) (span 0 chs.length) (by omega) (fun c hc => ?_) fun c _ _ => en_eq _)) ?_
    · have := mem_span.mp hc
      exact en_bndE (en_bndE (en_bndE (en_optE (ch_at3 (chs := chs) (by omega) (by omega))) (en_eq _)) (en_eq _)) en_andB
    have hfl := List.length_filter_le (fun c => decide ((chG chs c).1 = (i : Int)) && !decide ((i : Int) = (j : Int))) (span 0 chs.length)
    have fij : ∀ {a : Int}, 0 ≤ a → a < n → (∃ row, atI f a = some row ∧ atI row (j : Int) = some (fc f a.toNat j)) := fun a0 a1 => ⟨_, F.sd.sq.atR a0 a1, F.sd.sq.at (by omega) (by omega) (by omega)⟩
    obtain ⟨ri, e1, e2⟩ := fij (a := (i : Int)) (by omega) (by omega)
    refine en_bndE (en_bndE (en_eq _) (en_lcF (fun c => nearB f chs (i : Int) (j : Int) c) _ (by omega) (fun c hc => ?_) fun c _ _ => en_eq _)) ?_
    · have := mem_span.mp (List.mem_filter.mp hc).1
      have hc3 := ch_ok g (c := c) (by omega) (by omega)
      obtain ⟨rt, e3, e4⟩ := fij hc3.2.2.1 hc3.2.2.2
      refine en_bndE (en_bndE (en_bndE (en_optE e1) (en_optE e2)) (en_eq _)) (en_sel (fun q => ?_) fun q => en_ret ?_)
      · unfold nearB
        rw [show decide (fc f ((i : Int)).toNat ((j : Int)).toNat < 900) = true from q, Bool.true_and]
        exact en_bndE (en_bndE (en_bndE (en_bndE (en_optE (ch_at3 (chs := chs) (by omega) (by omega))) (en_eq _)) (en_optE e3)) (en_optE e4)) (en_bndE (en_bndE (en_bndE (en_optE e1) (en_optE e2)) (en_eq _)) (en_eq _))
      · unfold nearB
        rw [show decide (fc f ((i : Int)).toNat ((j : Int)).toNat < 900) = false from q, Bool.false_and]
    · obtain ⟨row, e5, e6⟩ := at_tabO (n := n) (o := fun u d => (ownC chs u).filter fun c => nearB f chs u d c) (u := (i : Int)) (d := (j : Int)) (by omega) (by omega) (by omega) (by omega)
      have same : (if (i : Int) = (j : Int) then [] else (ownC chs (i : Int)).filter fun c => nearB f chs (i : Int) (j : Int) c) = ((span 0 chs.length).filter fun c => decide ((chG chs c).1 = (i : Int)) && !decide ((i : Int) = (j : Int))).filter fun c => nearB f chs (i : Int) (j : Int) c := by
        by_cases q : (i : Int) = (j : Int)
        · rw [if_pos q, decide_eq_true q]
          have : ((span 0 chs.length).filter fun c => decide ((chG chs c).1 = (i : Int)) && !true) = [] := List.filter_eq_nil_iff.mpr fun c _ h => by
            rw [Bool.and_eq_true] at h
            cases h.2
          rw [this]
          rfl
        · rw [if_neg q, decide_eq_false q]
          unfold ownC
          congr 1
          refine fil_congr fun c _ => ?_
          show _ = (decide _ && true)
          rw [Bool.and_true]
      refine en_bndE (a := false) (en_bndE (en_bndE (en_optE e5) (en_optE e6)) ((en_eqWN (ee_T ee_I) (by decide) _ _).mono fun v hv => ?_)) (en_sel (fun h => by cases h) fun _ => hk2 _ trivial)
      rw [hv, decide_eq_true same]
      rfl
  · refine en_sel (fun _ => en_ret (decide_eq_true ?_)) fun h => by cases h
    unfold tabO
    rw [List.length_map, span_length]
/-! ### the law -/
theorem en_inWN {word : Str} (hw : word ∈ [("order" : Str), ("dateline" : Str), ("negative" : Str), ("west" : Str), ("north" : Str)]) : Ens (inD (eS word) (List.map eS [("west" : Str), ("north" : Str)])) (fun v => v = decide (word ∈ [("west" : Str), ("north" : Str)])) := by
  simp only [List.mem_cons, List.not_mem_nil, or_false] at hw
  rcases hw with rfl | rfl | rfl | rfl | rfl <;> exact en_grd ⟨by decide +kernel, by decide +kernel⟩ (en_ret (by decide +kernel))
theorem ee_tab : EE (eO (eT (eT (eT eI)))) 3 := ee_O (ee_T (ee_T (ee_T ee_I))) (fun _ => rfl) fun _ => rfl
set_option maxHeartbeats 1000000 in
theorem en_law25 : Ens law25 (fun b => b = true) := by
  unfold law25
  refine en_bnd (R := GS) (en_bnd (R := fun m => m = 1 ∨ m = 2 ∨ m = 3) (en_bnd (en_take (by decide) (by decide)) fun a ⟨a0, a1⟩ => en_opt (at_getD (xs := [(1 : Int), 2, 2, 2, 3]) 0 a0 (by show a < 5; omega)) ?_) fun m hm => en_szdraw hm) fun ss g => ?_
  · have : a = 0 ∨ a = 1 ∨ a = 2 ∨ a = 3 ∨ a = 4 := by omega
    rcases this with rfl | rfl | rfl | rfl | rfl <;> decide
  refine en_bnd (R := fun l => ∃ L : Nat, l = (L : Int) ∧ 0 < L ∧ L ≤ 3) (en_bnd (en_take (by decide) (by decide)) fun a ⟨a0, a1⟩ => en_ret ⟨(1 + a).toNat, by omega, by omega, by omega⟩) fun l ⟨L, el, l0, l3⟩ => ?_
  subst el
  have l1 : L ≤ 6 := by omega
  refine en_bndE (en_eq _) (en_for (fun _ (_ : Unit) => True) _ trivial (fun pre word post s k e _ hk => ?_) fun s _ => ?_)
  · have hw : word ∈ [("order" : Str), ("dateline" : Str), ("negative" : Str), ("west" : Str), ("north" : Str)] := by rw [e]; simp
    open Classical in
    refine en_bndE (en_bndE (en_ltable g l0 l1) (en_eq _)) ?_
    refine en_letK (I := fun s => s = if badW word ss L then none else some (tabW word ss (decide (word = ("dateline" : Str))) L)) (fun s hs => ?_) fun k' hk' => ?_
    · refine en_bndE (a := false) (en_bndE (en_told25 g l0 l1 hw) ((en_eqWN ee_tab (by decide) _ _).mono fun v hv => ?_)) (en_sel (fun h => by cases h) fun _ => hk _ trivial)
      rw [hv, hs, decide_eq_true rfl]
      rfl
    · refine en_bndE (a := decide (badW word ss L)) ?_ (en_sel (fun q => en_bndE (en_eq _) (hk' _ (by rw [if_pos (of_decide_eq_true q)]))) fun q => hk' _ (by rw [if_neg (of_decide_eq_false q)]))
      refine en_bndE (a := decide (word = ("dateline" : Str) ∧ L = 1)) (en_sel (fun q => en_ret ?_) fun q => en_ret ?_) (en_sel (fun q => en_ret ?_) fun q => ?_)
      · have q := of_decide_eq_true q
        exact decide_eq_decide.mpr ⟨fun h => ⟨q, by omega⟩, fun h => by omega⟩
      · exact (decide_eq_false fun h => of_decide_eq_false q h.1).symm
      · exact (decide_eq_true (.inl (of_decide_eq_true q))).symm
      · have q := of_decide_eq_false q
        refine en_bndE (en_inWN hw) (en_sel (fun z => en_ret ?_) fun z => en_ret ?_)
        · have z := of_decide_eq_true z
          simp only [List.mem_cons, List.not_mem_nil, or_false] at z
          rw [Bool.eq_iff_iff, Bool.not_eq_true', decide_eq_true_iff, decide_eq_false_iff_not]
          exact ⟨fun h => .inr ⟨z, by omega⟩, fun h => h.elim (fun h => absurd h q) fun h => by omega⟩
        · have z := of_decide_eq_false z
          simp only [List.mem_cons, List.not_mem_nil, or_false] at z
          exact (decide_eq_false fun h => h.elim (fun h => q h) fun h => z h.1).symm
  · refine en_bndE (a := true) (en_bnd en_drawn fun r ⟨m, chs, er, g2⟩ => by rw [er]; exact en_sfine g2) (en_sel (fun _ => ?_) fun h => by cases h)
    refine en_bndE (en_lnet g l1) ?_
    have h2 := g.p2
    have eN : pr ss = (((pr ss).toNat : Nat) : Int) := by omega
    have h := en_sfine (netG_ok g (w := true) l1 (room := 2))
    rw [← eN] at h
    exact h
theorem hm_law25 : law25 (fun b => b = true) (fun _ => False) := en_law25 _ _ fun _ h => h
end Cf
/-! k25: the law (K25P_a .. K25P_h). -/
namespace Cf
open PySem PySem.Spec PyProof.Rows L2 WL
set_option maxHeartbeats 4000000 in
theorem all_mk {l : PySem.W.OpenLaw} {w : World} {K : PySem.W.Frag} {h : Heap} {mg : Str → Option Value} {fa : Addr} (X : K.In h) (G : h.Ns mainGlobals mg) (own : ∀ x ∈ ([] : List Str), ∀ fb, mg x = some (.ref fb) → LamX.OwnTab K fb h) (hfa : mg "law" = some (.ref fa))
    {f0 : Addr} {od0 an0 : Option Addr} {sl0 : Array (Option Value)} {oc0 kV0 dc0 pm0 cd0 ct0 : Value}
    {f1 : Addr} {od1 an1 : Option Addr} {sl1 : Array (Option Value)} {oc1 kV1 dc1 pm1 cd1 ct1 : Value}
    {f2 : Addr} {od2 an2 : Option Addr} {sl2 : Array (Option Value)} {oc2 kV2 dc2 pm2 cd2 ct2 : Value}
    {f3 : Addr} {od3 an3 : Option Addr} {sl3 : Array (Option Value)} {oc3 kV3 dc3 pm3 cd3 ct3 : Value}
    {f4 : Addr} {od4 an4 : Option Addr} {sl4 : Array (Option Value)} {oc4 kV4 dc4 pm4 cd4 ct4 : Value}
    {f5 : Addr} {od5 an5 : Option Addr} {sl5 : Array (Option Value)} {oc5 kV5 dc5 pm5 cd5 ct5 : Value}
    {f6 : Addr} {od6 an6 : Option Addr} {sl6 : Array (Option Value)} {oc6 kV6 dc6 pm6 cd6 ct6 : Value}
    {f7 : Addr} {od7 an7 : Option Addr} {sl7 : Array (Option Value)} {oc7 kV7 dc7 pm7 cd7 ct7 : Value}
    {f8 : Addr} {od8 an8 : Option Addr} {sl8 : Array (Option Value)} {oc8 kV8 dc8 pm8 cd8 ct8 : Value}
    {f9 : Addr} {od9 an9 : Option Addr} {sl9 : Array (Option Value)} {oc9 kV9 dc9 pm9 cd9 ct9 : Value}
    {f10 : Addr} {od10 an10 : Option Addr} {sl10 : Array (Option Value)} {oc10 kV10 dc10 pm10 cd10 ct10 : Value}
    {f11 : Addr} {od11 an11 : Option Addr} {sl11 : Array (Option Value)} {oc11 kV11 dc11 pm11 cd11 ct11 : Value}
    {f12 : Addr} {od12 an12 : Option Addr} {sl12 : Array (Option Value)} {oc12 kV12 dc12 pm12 cd12 ct12 : Value}
    {f13 : Addr} {od13 an13 : Option Addr} {sl13 : Array (Option Value)} {oc13 kV13 dc13 pm13 cd13 ct13 : Value}
    {f14 : Addr} {od14 an14 : Option Addr} {sl14 : Array (Option Value)} {oc14 kV14 dc14 pm14 cd14 ct14 : Value}
    {f15 : Addr} {od15 an15 : Option Addr} {sl15 : Array (Option Value)} {oc15 kV15 dc15 pm15 cd15 ct15 : Value}
    {f16 : Addr} {od16 an16 : Option Addr} {sl16 : Array (Option Value)} {oc16 kV16 dc16 pm16 cd16 ct16 : Value}
    {f17 : Addr} {od17 an17 : Option Addr} {sl17 : Array (Option Value)} {oc17 kV17 dc17 pm17 cd17 ct17 : Value}
    {f18 : Addr} {od18 an18 : Option Addr} {sl18 : Array (Option Value)} {oc18 kV18 dc18 pm18 cd18 ct18 : Value}
    {f19 : Addr} {od19 an19 : Option Addr} {sl19 : Array (Option Value)} {oc19 kV19 dc19 pm19 cd19 ct19 : Value}
    {f20 : Addr} {od20 an20 : Option Addr} {sl20 : Array (Option Value)} {oc20 kV20 dc20 pm20 cd20 ct20 : Value}
    {f21 : Addr} {od21 an21 : Option Addr} {sl21 : Array (Option Value)} {oc21 kV21 dc21 pm21 cd21 ct21 : Value}
    {f22 : Addr} {od22 an22 : Option Addr} {sl22 : Array (Option Value)} {oc22 kV22 dc22 pm22 cd22 ct22 : Value}
    {f23 : Addr} {od23 an23 : Option Addr} {sl23 : Array (Option Value)} {oc23 kV23 dc23 pm23 cd23 ct23 : Value}
    {f24 : Addr} {od24 an24 : Option Addr} {sl24 : Array (Option Value)} {oc24 kV24 dc24 pm24 cd24 ct24 : Value}
    {f25 : Addr} {od25 an25 : Option Addr} {sl25 : Array (Option Value)} {oc25 kV25 dc25 pm25 cd25 ct25 : Value}
    {f26 : Addr} {od26 an26 : Option Addr} {sl26 : Array (Option Value)} {oc26 kV26 dc26 pm26 cd26 ct26 : Value}
    {f27 : Addr} {od27 an27 : Option Addr} {sl27 : Array (Option Value)} {oc27 kV27 dc27 pm27 cd27 ct27 : Value}
    {f28 : Addr} {od28 an28 : Option Addr} {sl28 : Array (Option Value)} {oc28 kV28 dc28 pm28 cd28 ct28 : Value}
    {f29 : Addr} {od29 an29 : Option Addr} {sl29 : Array (Option Value)} {oc29 kV29 dc29 pm29 cd29 ct29 : Value}
    {f30 : Addr} {od30 an30 : Option Addr} {sl30 : Array (Option Value)} {oc30 kV30 dc30 pm30 cd30 ct30 : Value}
    {f31 : Addr} {od31 an31 : Option Addr} {sl31 : Array (Option Value)} {oc31 kV31 dc31 pm31 cd31 ct31 : Value}
    {f32 : Addr} {od32 an32 : Option Addr} {sl32 : Array (Option Value)} {oc32 kV32 dc32 pm32 cd32 ct32 : Value}
    {f33 : Addr} {od33 an33 : Option Addr} {sl33 : Array (Option Value)} {oc33 kV33 dc33 pm33 cd33 ct33 : Value}
    {f34 : Addr} {od34 an34 : Option Addr} {sl34 : Array (Option Value)} {oc34 kV34 dc34 pm34 cd34 ct34 : Value}
    {f35 : Addr} {od35 an35 : Option Addr} {sl35 : Array (Option Value)} {oc35 kV35 dc35 pm35 cd35 ct35 : Value}
    {f36 : Addr} {od36 an36 : Option Addr} {sl36 : Array (Option Value)} {oc36 kV36 dc36 pm36 cd36 ct36 : Value}
    {f37 : Addr} {od37 an37 : Option Addr} {sl37 : Array (Option Value)} {oc37 kV37 dc37 pm37 cd37 ct37 : Value}
    {f38 : Addr} {od38 an38 : Option Addr} {sl38 : Array (Option Value)} {oc38 kV38 dc38 pm38 cd38 ct38 : Value}
    {f39 : Addr} {od39 an39 : Option Addr} {sl39 : Array (Option Value)} {oc39 kV39 dc39 pm39 cd39 ct39 : Value}
    {f40 : Addr} {od40 an40 : Option Addr} {sl40 : Array (Option Value)} {oc40 kV40 dc40 pm40 cd40 ct40 : Value}
    {f41 : Addr} {od41 an41 : Option Addr} {sl41 : Array (Option Value)} {oc41 kV41 dc41 pm41 cd41 ct41 : Value}
    {f42 : Addr} {od42 an42 : Option Addr} {sl42 : Array (Option Value)} {oc42 kV42 dc42 pm42 cd42 ct42 : Value}
    {f43 : Addr} {od43 an43 : Option Addr} {sl43 : Array (Option Value)} {oc43 kV43 dc43 pm43 cd43 ct43 : Value}
    {f44 : Addr} {od44 an44 : Option Addr} {sl44 : Array (Option Value)} {oc44 kV44 dc44 pm44 cd44 ct44 : Value}
    {f45 : Addr} {od45 an45 : Option Addr} {sl45 : Array (Option Value)} {oc45 kV45 dc45 pm45 cd45 ct45 : Value}
    {f46 : Addr} {od46 an46 : Option Addr} {sl46 : Array (Option Value)} {oc46 kV46 dc46 pm46 cd46 ct46 : Value}
    {f47 : Addr} {od47 an47 : Option Addr} {sl47 : Array (Option Value)} {oc47 kV47 dc47 pm47 cd47 ct47 : Value}
    {f48 : Addr} {od48 an48 : Option Addr} {sl48 : Array (Option Value)} {oc48 kV48 dc48 pm48 cd48 ct48 : Value}
    {f49 : Addr} {od49 an49 : Option Addr} {sl49 : Array (Option Value)} {oc49 kV49 dc49 pm49 cd49 ct49 : Value}
    {f50 : Addr} {od50 an50 : Option Addr} {sl50 : Array (Option Value)} {oc50 kV50 dc50 pm50 cd50 ct50 : Value}
    {f51 : Addr} {od51 an51 : Option Addr} {sl51 : Array (Option Value)} {oc51 kV51 dc51 pm51 cd51 ct51 : Value}
    {f52 : Addr} {od52 an52 : Option Addr} {sl52 : Array (Option Value)} {oc52 kV52 dc52 pm52 cd52 ct52 : Value}
    {f53 : Addr} {od53 an53 : Option Addr} {sl53 : Array (Option Value)} {oc53 kV53 dc53 pm53 cd53 ct53 : Value}
    {f54 : Addr} {od54 an54 : Option Addr} {sl54 : Array (Option Value)} {oc54 kV54 dc54 pm54 cd54 ct54 : Value}
    {oNearer : Addr} (yaNearer : PySem.W.nsIn K mainGlobals "Nearer" = some (some (.ref oNearer)))
    {oGrid : Addr} (yaGrid : PySem.W.nsIn K mainGlobals "Grid" = some (some (.ref oGrid)))
    {oInOrder : Addr} (yaInOrder : PySem.W.nsIn K mainGlobals "InOrder" = some (some (.ref oInOrder)))
    {oAcrossLines : Addr} (yaAcrossLines : PySem.W.nsIn K mainGlobals "AcrossLines" = some (some (.ref oAcrossLines)))
    {oInTurn : Addr} (yaInTurn : PySem.W.nsIn K mainGlobals "InTurn" = some (some (.ref oInTurn)))
    (a0 : PySem.W.nsIn K mainGlobals "nodes_next" = some (some (.ref f0)))
    (l0 : K.lookup f0 = some ⟨oc0, od0, .func (PySem.W.fnOf "nodes_next" "nodes_next" (defArgs s_p_nodes_next) (defBody s_p_nodes_next) (defScope s_p_nodes_next) .none kV0 dc0 pm0 an0 cd0 ct0), sl0⟩)
    (c0 : PySem.W.codeIn K cd0 "nodes_next" = true) (k0 : PySem.W.keepIn K (.ref f0) = true)
    (a1 : PySem.W.nsIn K mainGlobals "distances_from" = some (some (.ref f1)))
    (l1 : K.lookup f1 = some ⟨oc1, od1, .func (PySem.W.fnOf "distances_from" "distances_from" (defArgs s_p_distances_from) (defBody s_p_distances_from) (defScope s_p_distances_from) .none kV1 dc1 pm1 an1 cd1 ct1), sl1⟩)
    (c1 : PySem.W.codeIn K cd1 "distances_from" = true) (k1 : PySem.W.keepIn K (.ref f1) = true)
    (a2 : PySem.W.nsIn K mainGlobals "distances" = some (some (.ref f2)))
    (l2 : K.lookup f2 = some ⟨oc2, od2, .func (PySem.W.fnOf "distances" "distances" (defArgs s_p_distances) (defBody s_p_distances) (defScope s_p_distances) .none kV2 dc2 pm2 an2 cd2 ct2), sl2⟩)
    (c2 : PySem.W.codeIn K cd2 "distances" = true) (k2 : PySem.W.keepIn K (.ref f2) = true)
    (a3 : PySem.W.nsIn K mainGlobals "is_number" = some (some (.ref f3)))
    (l3 : K.lookup f3 = some ⟨oc3, od3, .func (PySem.W.fnOf "is_number" "is_number" (defArgs s_p_is_numberI) (defBody s_p_is_numberI) (defScope s_p_is_numberI) .none kV3 dc3 pm3 an3 cd3 ct3), sl3⟩)
    (c3 : PySem.W.codeIn K cd3 "is_number" = true) (k3 : PySem.W.keepIn K (.ref f3) = true)
    (a4 : PySem.W.nsIn K mainGlobals "made" = some (some (.ref f4)))
    (l4 : K.lookup f4 = some ⟨oc4, od4, .func (PySem.W.fnOf "made" "made" (defArgs s_p_made) (defBody s_p_made) (defScope s_p_made) .none kV4 dc4 pm4 an4 cd4 ct4), sl4⟩)
    (c4 : PySem.W.codeIn K cd4 "made" = true) (k4 : PySem.W.keepIn K (.ref f4) = true)
    (a5 : PySem.W.nsIn K mainGlobals "nodes_of" = some (some (.ref f5)))
    (l5 : K.lookup f5 = some ⟨oc5, od5, .func (PySem.W.fnOf "nodes_of" "nodes_of" (defArgs s_p_nodes_of) (defBody s_p_nodes_of) (defScope s_p_nodes_of) .none kV5 dc5 pm5 an5 cd5 ct5), sl5⟩)
    (c5 : PySem.W.codeIn K cd5 "nodes_of" = true) (k5 : PySem.W.keepIn K (.ref f5) = true)
    (a6 : PySem.W.nsIn K mainGlobals "node_at" = some (some (.ref f6)))
    (l6 : K.lookup f6 = some ⟨oc6, od6, .func (PySem.W.fnOf "node_at" "node_at" (defArgs s_p_node_at) (defBody s_p_node_at) (defScope s_p_node_at) .none kV6 dc6 pm6 an6 cd6 ct6), sl6⟩)
    (c6 : PySem.W.codeIn K cd6 "node_at" = true) (k6 : PySem.W.keepIn K (.ref f6) = true)
    (a7 : PySem.W.nsIn K mainGlobals "place_of" = some (some (.ref f7)))
    (l7 : K.lookup f7 = some ⟨oc7, od7, .func (PySem.W.fnOf "place_of" "place_of" (defArgs s_p_place_of) (defBody s_p_place_of) (defScope s_p_place_of) .none kV7 dc7 pm7 an7 cd7 ct7), sl7⟩)
    (c7 : PySem.W.codeIn K cd7 "place_of" = true) (k7 : PySem.W.keepIn K (.ref f7) = true)
    (a8 : PySem.W.nsIn K mainGlobals "stepped" = some (some (.ref f8)))
    (l8 : K.lookup f8 = some ⟨oc8, od8, .func (PySem.W.fnOf "stepped" "stepped" (defArgs s_p_stepped) (defBody s_p_stepped) (defScope s_p_stepped) .none kV8 dc8 pm8 an8 cd8 ct8), sl8⟩)
    (c8 : PySem.W.codeIn K cd8 "stepped" = true) (k8 : PySem.W.keepIn K (.ref f8) = true)
    (a9 : PySem.W.nsIn K mainGlobals "mesh_links" = some (some (.ref f9)))
    (l9 : K.lookup f9 = some ⟨oc9, od9, .func (PySem.W.fnOf "mesh_links" "mesh_links" (defArgs s_p_mesh_links) (defBody s_p_mesh_links) (defScope s_p_mesh_links) .none kV9 dc9 pm9 an9 cd9 ct9), sl9⟩)
    (c9 : PySem.W.codeIn K cd9 "mesh_links" = true) (k9 : PySem.W.keepIn K (.ref f9) = true)
    (a10 : PySem.W.nsIn K mainGlobals "mesh" = some (some (.ref f10)))
    (l10 : K.lookup f10 = some ⟨oc10, od10, .func (PySem.W.fnOf "mesh" "mesh" (defArgs s_p_mesh) (defBody s_p_mesh) (defScope s_p_mesh) .none kV10 dc10 pm10 an10 cd10 ct10), sl10⟩)
    (c10 : PySem.W.codeIn K cd10 "mesh" = true) (k10 : PySem.W.keepIn K (.ref f10) = true)
    (a11 : PySem.W.nsIn K mainGlobals "torus" = some (some (.ref f11)))
    (l11 : K.lookup f11 = some ⟨oc11, od11, .func (PySem.W.fnOf "torus" "torus" (defArgs s_p_torus) (defBody s_p_torus) (defScope s_p_torus) .none kV11 dc11 pm11 an11 cd11 ct11), sl11⟩)
    (c11 : PySem.W.codeIn K cd11 "torus" = true) (k11 : PySem.W.keepIn K (.ref f11) = true)
    (a12 : PySem.W.nsIn K mainGlobals "network_of" = some (some (.ref f12)))
    (l12 : K.lookup f12 = some ⟨oc12, od12, .func (PySem.W.fnOf "network_of" "network_of" (defArgs s_p_network_of) (defBody s_p_network_of) (defScope s_p_network_of) .none kV12 dc12 pm12 an12 cd12 ct12), sl12⟩)
    (c12 : PySem.W.codeIn K cd12 "network_of" = true) (k12 : PySem.W.keepIn K (.ref f12) = true)
    (a13 : PySem.W.nsIn K mainGlobals "link_of" = some (some (.ref f13)))
    (l13 : K.lookup f13 = some ⟨oc13, od13, .func (PySem.W.fnOf "link_of" "link_of" (defArgs s_p_link_of) (defBody s_p_link_of) (defScope s_p_link_of) .none kV13 dc13 pm13 an13 cd13 ct13), sl13⟩)
    (c13 : PySem.W.codeIn K cd13 "link_of" = true) (k13 : PySem.W.keepIn K (.ref f13) = true)
    (a14 : PySem.W.nsIn K mainGlobals "table_of" = some (some (.ref f14)))
    (l14 : K.lookup f14 = some ⟨oc14, od14, .func (PySem.W.fnOf "table_of" "table_of" (defArgs s_p_table_of) (defBody s_p_table_of) (defScope s_p_table_of) .none kV14 dc14 pm14 an14 cd14 ct14), sl14⟩)
    (c14 : PySem.W.codeIn K cd14 "table_of" = true) (k14 : PySem.W.keepIn K (.ref f14) = true)
    (a15 : PySem.W.nsIn K mainGlobals "channels_from" = some (some (.ref f15)))
    (l15 : K.lookup f15 = some ⟨oc15, od15, .func (PySem.W.fnOf "channels_from" "channels_from" (defArgs s_p_channels_from) (defBody s_p_channels_from) (defScope s_p_channels_from) .none kV15 dc15 pm15 an15 cd15 ct15), sl15⟩)
    (c15 : PySem.W.codeIn K cd15 "channels_from" = true) (k15 : PySem.W.keepIn K (.ref f15) = true)
    (a16 : PySem.W.findIn K (.ref oNearer) "__init__" = some (some (.ref f16))) (i16 : PySem.W.isFn K (.ref f16) = true)
    (l16 : K.lookup f16 = some ⟨oc16, od16, .func (PySem.W.fnOf "__init__" "Nearer.__init__" (defArgs s_p_Nearer_init) (defBody s_p_Nearer_init) (defScope s_p_Nearer_init) .none kV16 dc16 pm16 an16 cd16 ct16), sl16⟩)
    (c16 : PySem.W.codeIn K cd16 "Nearer.__init__" = true) (k16 : PySem.W.keepIn K (.ref f16) = true)
    (a17 : PySem.W.findIn K (.ref oNearer) "is_nearer" = some (some (.ref f17))) (i17 : PySem.W.isFn K (.ref f17) = true)
    (l17 : K.lookup f17 = some ⟨oc17, od17, .func (PySem.W.fnOf "is_nearer" "Nearer.is_nearer" (defArgs s_p_Nearer_is_nearer) (defBody s_p_Nearer_is_nearer) (defScope s_p_Nearer_is_nearer) .none kV17 dc17 pm17 an17 cd17 ct17), sl17⟩)
    (c17 : PySem.W.codeIn K cd17 "Nearer.is_nearer" = true) (k17 : PySem.W.keepIn K (.ref f17) = true)
    (a18 : PySem.W.findIn K (.ref oNearer) "options" = some (some (.ref f18))) (i18 : PySem.W.isFn K (.ref f18) = true)
    (l18 : K.lookup f18 = some ⟨oc18, od18, .func (PySem.W.fnOf "options" "Nearer.options" (defArgs s_p_Nearer_options) (defBody s_p_Nearer_options) (defScope s_p_Nearer_options) .none kV18 dc18 pm18 an18 cd18 ct18), sl18⟩)
    (c18 : PySem.W.codeIn K cd18 "Nearer.options" = true) (k18 : PySem.W.keepIn K (.ref f18) = true)
    (a19 : PySem.W.nsIn K mainGlobals "shortest" = some (some (.ref f19)))
    (l19 : K.lookup f19 = some ⟨oc19, od19, .func (PySem.W.fnOf "shortest" "shortest" (defArgs s_p_shortest) (defBody s_p_shortest) (defScope s_p_shortest) .none kV19 dc19 pm19 an19 cd19 ct19), sl19⟩)
    (c19 : PySem.W.codeIn K cd19 "shortest" = true) (k19 : PySem.W.keepIn K (.ref f19) = true)
    (a20 : PySem.W.findIn K (.ref oGrid) "__init__" = some (some (.ref f20))) (i20 : PySem.W.isFn K (.ref f20) = true)
    (l20 : K.lookup f20 = some ⟨oc20, od20, .func (PySem.W.fnOf "__init__" "Grid.__init__" (defArgs s_p_Grid_init) (defBody s_p_Grid_init) (defScope s_p_Grid_init) .none kV20 dc20 pm20 an20 cd20 ct20), sl20⟩)
    (c20 : PySem.W.codeIn K cd20 "Grid.__init__" = true) (k20 : PySem.W.keepIn K (.ref f20) = true)
    (a21 : PySem.W.findIn K (.ref oGrid) "step" = some (some (.ref f21))) (i21 : PySem.W.isFn K (.ref f21) = true)
    (l21 : K.lookup f21 = some ⟨oc21, od21, .func (PySem.W.fnOf "step" "Grid.step" (defArgs s_p_Grid_step) (defBody s_p_Grid_step) (defScope s_p_Grid_step) .none kV21 dc21 pm21 an21 cd21 ct21), sl21⟩)
    (c21 : PySem.W.codeIn K cd21 "Grid.step" = true) (k21 : PySem.W.keepIn K (.ref f21) = true)
    (a22 : PySem.W.findIn K (.ref oGrid) "is_useful" = some (some (.ref f22))) (i22 : PySem.W.isFn K (.ref f22) = true)
    (l22 : K.lookup f22 = some ⟨oc22, od22, .func (PySem.W.fnOf "is_useful" "Grid.is_useful" (defArgs s_p_Grid_is_useful) (defBody s_p_Grid_is_useful) (defScope s_p_Grid_is_useful) .none kV22 dc22 pm22 an22 cd22 ct22), sl22⟩)
    (c22 : PySem.W.codeIn K cd22 "Grid.is_useful" = true) (k22 : PySem.W.keepIn K (.ref f22) = true)
    (a23 : PySem.W.findIn K (.ref oGrid) "useful" = some (some (.ref f23))) (i23 : PySem.W.isFn K (.ref f23) = true)
    (l23 : K.lookup f23 = some ⟨oc23, od23, .func (PySem.W.fnOf "useful" "Grid.useful" (defArgs s_p_Grid_useful) (defBody s_p_Grid_useful) (defScope s_p_Grid_useful) .none kV23 dc23 pm23 an23 cd23 ct23), sl23⟩)
    (c23 : PySem.W.codeIn K cd23 "Grid.useful" = true) (k23 : PySem.W.keepIn K (.ref f23) = true)
    (a24 : PySem.W.nsIn K mainGlobals "first_other" = some (some (.ref f24)))
    (l24 : K.lookup f24 = some ⟨oc24, od24, .func (PySem.W.fnOf "first_other" "first_other" (defArgs s_p_first_other) (defBody s_p_first_other) (defScope s_p_first_other) .none kV24 dc24 pm24 an24 cd24 ct24), sl24⟩)
    (c24 : PySem.W.codeIn K cd24 "first_other" = true) (k24 : PySem.W.keepIn K (.ref f24) = true)
    (a25 : PySem.W.findIn K (.ref oInOrder) "__init__" = some (some (.ref f25))) (i25 : PySem.W.isFn K (.ref f25) = true)
    (l25 : K.lookup f25 = some ⟨oc25, od25, .func (PySem.W.fnOf "__init__" "InOrder.__init__" (defArgs s_p_InOrder_init) (defBody s_p_InOrder_init) (defScope s_p_InOrder_init) .none kV25 dc25 pm25 an25 cd25 ct25), sl25⟩)
    (c25 : PySem.W.codeIn K cd25 "InOrder.__init__" = true) (k25 : PySem.W.keepIn K (.ref f25) = true)
    (a26 : PySem.W.findIn K (.ref oInOrder) "options" = some (some (.ref f26))) (i26 : PySem.W.isFn K (.ref f26) = true)
    (l26 : K.lookup f26 = some ⟨oc26, od26, .func (PySem.W.fnOf "options" "InOrder.options" (defArgs s_p_InOrder_options) (defBody s_p_InOrder_options) (defScope s_p_InOrder_options) .none kV26 dc26 pm26 an26 cd26 ct26), sl26⟩)
    (c26 : PySem.W.codeIn K cd26 "InOrder.options" = true) (k26 : PySem.W.keepIn K (.ref f26) = true)
    (a27 : PySem.W.nsIn K mainGlobals "dimension_order" = some (some (.ref f27)))
    (l27 : K.lookup f27 = some ⟨oc27, od27, .func (PySem.W.fnOf "dimension_order" "dimension_order" (defArgs s_p_dimension_order) (defBody s_p_dimension_order) (defScope s_p_dimension_order) .none kV27 dc27 pm27 an27 cd27 ct27), sl27⟩)
    (c27 : PySem.W.codeIn K cd27 "dimension_order" = true) (k27 : PySem.W.keepIn K (.ref f27) = true)
    (a28 : PySem.W.nsIn K mainGlobals "dateline_choice" = some (some (.ref f28)))
    (l28 : K.lookup f28 = some ⟨oc28, od28, .func (PySem.W.fnOf "dateline_choice" "dateline_choice" (defArgs s_p_dateline_choice) (defBody s_p_dateline_choice) (defScope s_p_dateline_choice) .none kV28 dc28 pm28 an28 cd28 ct28), sl28⟩)
    (c28 : PySem.W.codeIn K cd28 "dateline_choice" = true) (k28 : PySem.W.keepIn K (.ref f28) = true)
    (a29 : PySem.W.findIn K (.ref oAcrossLines) "__init__" = some (some (.ref f29))) (i29 : PySem.W.isFn K (.ref f29) = true)
    (l29 : K.lookup f29 = some ⟨oc29, od29, .func (PySem.W.fnOf "__init__" "AcrossLines.__init__" (defArgs s_p_AcrossLines_init) (defBody s_p_AcrossLines_init) (defScope s_p_AcrossLines_init) .none kV29 dc29 pm29 an29 cd29 ct29), sl29⟩)
    (c29 : PySem.W.codeIn K cd29 "AcrossLines.__init__" = true) (k29 : PySem.W.keepIn K (.ref f29) = true)
    (a30 : PySem.W.findIn K (.ref oAcrossLines) "options" = some (some (.ref f30))) (i30 : PySem.W.isFn K (.ref f30) = true)
    (l30 : K.lookup f30 = some ⟨oc30, od30, .func (PySem.W.fnOf "options" "AcrossLines.options" (defArgs s_p_AcrossLines_options) (defBody s_p_AcrossLines_options) (defScope s_p_AcrossLines_options) .none kV30 dc30 pm30 an30 cd30 ct30), sl30⟩)
    (c30 : PySem.W.codeIn K cd30 "AcrossLines.options" = true) (k30 : PySem.W.keepIn K (.ref f30) = true)
    (a31 : PySem.W.nsIn K mainGlobals "dateline" = some (some (.ref f31)))
    (l31 : K.lookup f31 = some ⟨oc31, od31, .func (PySem.W.fnOf "dateline" "dateline" (defArgs s_p_dateline) (defBody s_p_dateline) (defScope s_p_dateline) .none kV31 dc31 pm31 an31 cd31 ct31), sl31⟩)
    (c31 : PySem.W.codeIn K cd31 "dateline" = true) (k31 : PySem.W.keepIn K (.ref f31) = true)
    (a32 : PySem.W.findIn K (.ref oInTurn) "__init__" = some (some (.ref f32))) (i32 : PySem.W.isFn K (.ref f32) = true)
    (l32 : K.lookup f32 = some ⟨oc32, od32, .func (PySem.W.fnOf "__init__" "InTurn.__init__" (defArgs s_p_InTurn_init) (defBody s_p_InTurn_init) (defScope s_p_InTurn_init) .none kV32 dc32 pm32 an32 cd32 ct32), sl32⟩)
    (c32 : PySem.W.codeIn K cd32 "InTurn.__init__" = true) (k32 : PySem.W.keepIn K (.ref f32) = true)
    (a33 : PySem.W.findIn K (.ref oInTurn) "is_first" = some (some (.ref f33))) (i33 : PySem.W.isFn K (.ref f33) = true)
    (l33 : K.lookup f33 = some ⟨oc33, od33, .func (PySem.W.fnOf "is_first" "InTurn.is_first" (defArgs s_p_InTurn_is_first) (defBody s_p_InTurn_is_first) (defScope s_p_InTurn_is_first) .none kV33 dc33 pm33 an33 cd33 ct33), sl33⟩)
    (c33 : PySem.W.codeIn K cd33 "InTurn.is_first" = true) (k33 : PySem.W.keepIn K (.ref f33) = true)
    (a34 : PySem.W.findIn K (.ref oInTurn) "options" = some (some (.ref f34))) (i34 : PySem.W.isFn K (.ref f34) = true)
    (l34 : K.lookup f34 = some ⟨oc34, od34, .func (PySem.W.fnOf "options" "InTurn.options" (defArgs s_p_InTurn_options) (defBody s_p_InTurn_options) (defScope s_p_InTurn_options) .none kV34 dc34 pm34 an34 cd34 ct34), sl34⟩)
    (c34 : PySem.W.codeIn K cd34 "InTurn.options" = true) (k34 : PySem.W.keepIn K (.ref f34) = true)
    (a35 : PySem.W.nsIn K mainGlobals "table_in_turn" = some (some (.ref f35)))
    (l35 : K.lookup f35 = some ⟨oc35, od35, .func (PySem.W.fnOf "table_in_turn" "table_in_turn" (defArgs s_p_table_in_turn) (defBody s_p_table_in_turn) (defScope s_p_table_in_turn) .none kV35 dc35 pm35 an35 cd35 ct35), sl35⟩)
    (c35 : PySem.W.codeIn K cd35 "table_in_turn" = true) (k35 : PySem.W.keepIn K (.ref f35) = true)
    (a36 : PySem.W.nsIn K mainGlobals "negative_first" = some (some (.ref f36)))
    (l36 : K.lookup f36 = some ⟨oc36, od36, .func (PySem.W.fnOf "negative_first" "negative_first" (defArgs s_p_negative_first) (defBody s_p_negative_first) (defScope s_p_negative_first) .none kV36 dc36 pm36 an36 cd36 ct36), sl36⟩)
    (c36 : PySem.W.codeIn K cd36 "negative_first" = true) (k36 : PySem.W.keepIn K (.ref f36) = true)
    (a37 : PySem.W.nsIn K mainGlobals "check_two" = some (some (.ref f37)))
    (l37 : K.lookup f37 = some ⟨oc37, od37, .func (PySem.W.fnOf "check_two" "check_two" (defArgs s_p_check_two) (defBody s_p_check_two) (defScope s_p_check_two) .none kV37 dc37 pm37 an37 cd37 ct37), sl37⟩)
    (c37 : PySem.W.codeIn K cd37 "check_two" = true) (k37 : PySem.W.keepIn K (.ref f37) = true)
    (a38 : PySem.W.nsIn K mainGlobals "west_first" = some (some (.ref f38)))
    (l38 : K.lookup f38 = some ⟨oc38, od38, .func (PySem.W.fnOf "west_first" "west_first" (defArgs s_p_west_first) (defBody s_p_west_first) (defScope s_p_west_first) .none kV38 dc38 pm38 an38 cd38 ct38), sl38⟩)
    (c38 : PySem.W.codeIn K cd38 "west_first" = true) (k38 : PySem.W.keepIn K (.ref f38) = true)
    (a39 : PySem.W.nsIn K mainGlobals "north_last" = some (some (.ref f39)))
    (l39 : K.lookup f39 = some ⟨oc39, od39, .func (PySem.W.fnOf "north_last" "north_last" (defArgs s_p_north_last) (defBody s_p_north_last) (defScope s_p_north_last) .none kV39 dc39 pm39 an39 cd39 ct39), sl39⟩)
    (c39 : PySem.W.codeIn K cd39 "north_last" = true) (k39 : PySem.W.keepIn K (.ref f39) = true)
    (a40 : PySem.W.nsIn K mainGlobals "_law_mix" = some (some (.ref f40)))
    (l40 : K.lookup f40 = some ⟨oc40, od40, .func (PySem.W.fnOf "_law_mix" "_law_mix" (defArgs s_l_mix) (defBody s_l_mix) (defScope s_l_mix) .none kV40 dc40 pm40 an40 cd40 ct40), sl40⟩)
    (c40 : PySem.W.codeIn K cd40 "_law_mix" = true) (k40 : PySem.W.keepIn K (.ref f40) = true)
    (a41 : PySem.W.nsIn K mainGlobals "_law_tape" = some (some (.ref f41)))
    (l41 : K.lookup f41 = some ⟨oc41, od41, .func (PySem.W.fnOf "_law_tape" "_law_tape" (defArgs s_l_tape) (defBody s_l_tape) (defScope s_l_tape) .none kV41 dc41 pm41 an41 cd41 ct41), sl41⟩)
    (c41 : PySem.W.codeIn K cd41 "_law_tape" = true) (k41 : PySem.W.keepIn K (.ref f41) = true)
    (a42 : PySem.W.nsIn K mainGlobals "_law_take" = some (some (.ref f42)))
    (l42 : K.lookup f42 = some ⟨oc42, od42, .func (PySem.W.fnOf "_law_take" "_law_take" (defArgs s_l_take) (defBody s_l_take) (defScope s_l_take) .none kV42 dc42 pm42 an42 cd42 ct42), sl42⟩)
    (c42 : PySem.W.codeIn K cd42 "_law_take" = true) (k42 : PySem.W.keepIn K (.ref f42) = true)
    (a43 : PySem.W.nsIn K mainGlobals "_law_drawn_network" = some (some (.ref f43)))
    (l43 : K.lookup f43 = some ⟨oc43, od43, .func (PySem.W.fnOf "_law_drawn_network" "_law_drawn_network" (defArgs s_l_drawn_network) (defBody s_l_drawn_network) (defScope s_l_drawn_network) .none kV43 dc43 pm43 an43 cd43 ct43), sl43⟩)
    (c43 : PySem.W.codeIn K cd43 "_law_drawn_network" = true) (k43 : PySem.W.keepIn K (.ref f43) = true)
    (a44 : PySem.W.nsIn K mainGlobals "_law_far" = some (some (.ref f44)))
    (l44 : K.lookup f44 = some ⟨oc44, od44, .func (PySem.W.fnOf "_law_far" "_law_far" (defArgs s_l_far) (defBody s_l_far) (defScope s_l_far) .none kV44 dc44 pm44 an44 cd44 ct44), sl44⟩)
    (c44 : PySem.W.codeIn K cd44 "_law_far" = true) (k44 : PySem.W.keepIn K (.ref f44) = true)
    (a45 : PySem.W.nsIn K mainGlobals "_law_sizes" = some (some (.ref f45)))
    (l45 : K.lookup f45 = some ⟨oc45, od45, .func (PySem.W.fnOf "_law_sizes" "_law_sizes" (defArgs s_l_sizes25) (defBody s_l_sizes25) (defScope s_l_sizes25) .none kV45 dc45 pm45 an45 cd45 ct45), sl45⟩)
    (c45 : PySem.W.codeIn K cd45 "_law_sizes" = true) (k45 : PySem.W.keepIn K (.ref f45) = true)
    (a46 : PySem.W.nsIn K mainGlobals "_law_places" = some (some (.ref f46)))
    (l46 : K.lookup f46 = some ⟨oc46, od46, .func (PySem.W.fnOf "_law_places" "_law_places" (defArgs s_l_places) (defBody s_l_places) (defScope s_l_places) .none kV46 dc46 pm46 an46 cd46 ct46), sl46⟩)
    (c46 : PySem.W.codeIn K cd46 "_law_places" = true) (k46 : PySem.W.keepIn K (.ref f46) = true)
    (a47 : PySem.W.nsIn K mainGlobals "_law_grid" = some (some (.ref f47)))
    (l47 : K.lookup f47 = some ⟨oc47, od47, .func (PySem.W.fnOf "_law_grid" "_law_grid" (defArgs s_l_grid) (defBody s_l_grid) (defScope s_l_grid) .none kV47 dc47 pm47 an47 cd47 ct47), sl47⟩)
    (c47 : PySem.W.codeIn K cd47 "_law_grid" = true) (k47 : PySem.W.keepIn K (.ref f47) = true)
    (a48 : PySem.W.nsIn K mainGlobals "_law_network" = some (some (.ref f48)))
    (l48 : K.lookup f48 = some ⟨oc48, od48, .func (PySem.W.fnOf "_law_network" "_law_network" (defArgs s_l_network) (defBody s_l_network) (defScope s_l_network) .none kV48 dc48 pm48 an48 cd48 ct48), sl48⟩)
    (c48 : PySem.W.codeIn K cd48 "_law_network" = true) (k48 : PySem.W.keepIn K (.ref f48) = true)
    (a49 : PySem.W.nsIn K mainGlobals "_law_dateline_fits" = some (some (.ref f49)))
    (l49 : K.lookup f49 = some ⟨oc49, od49, .func (PySem.W.fnOf "_law_dateline_fits" "_law_dateline_fits" (defArgs s_l_dateline_fits) (defBody s_l_dateline_fits) (defScope s_l_dateline_fits) .none kV49 dc49 pm49 an49 cd49 ct49), sl49⟩)
    (c49 : PySem.W.codeIn K cd49 "_law_dateline_fits" = true) (k49 : PySem.W.keepIn K (.ref f49) = true)
    (a50 : PySem.W.nsIn K mainGlobals "_law_options" = some (some (.ref f50)))
    (l50 : K.lookup f50 = some ⟨oc50, od50, .func (PySem.W.fnOf "_law_options" "_law_options" (defArgs s_l_options25) (defBody s_l_options25) (defScope s_l_options25) .none kV50 dc50 pm50 an50 cd50 ct50), sl50⟩)
    (c50 : PySem.W.codeIn K cd50 "_law_options" = true) (k50 : PySem.W.keepIn K (.ref f50) = true)
    (a51 : PySem.W.nsIn K mainGlobals "_law_table" = some (some (.ref f51)))
    (l51 : K.lookup f51 = some ⟨oc51, od51, .func (PySem.W.fnOf "_law_table" "_law_table" (defArgs s_l_table) (defBody s_l_table) (defScope s_l_table) .none kV51 dc51 pm51 an51 cd51 ct51), sl51⟩)
    (c51 : PySem.W.codeIn K cd51 "_law_table" = true) (k51 : PySem.W.keepIn K (.ref f51) = true)
    (a52 : PySem.W.nsIn K mainGlobals "_law_told" = some (some (.ref f52)))
    (l52 : K.lookup f52 = some ⟨oc52, od52, .func (PySem.W.fnOf "_law_told" "_law_told" (defArgs s_l_told25) (defBody s_l_told25) (defScope s_l_told25) .none kV52 dc52 pm52 an52 cd52 ct52), sl52⟩)
    (c52 : PySem.W.codeIn K cd52 "_law_told" = true) (k52 : PySem.W.keepIn K (.ref f52) = true)
    (a53 : PySem.W.nsIn K mainGlobals "_law_shortest_fine" = some (some (.ref f53)))
    (l53 : K.lookup f53 = some ⟨oc53, od53, .func (PySem.W.fnOf "_law_shortest_fine" "_law_shortest_fine" (defArgs s_l_shortest_fine) (defBody s_l_shortest_fine) (defScope s_l_shortest_fine) .none kV53 dc53 pm53 an53 cd53 ct53), sl53⟩)
    (c53 : PySem.W.codeIn K cd53 "_law_shortest_fine" = true) (k53 : PySem.W.keepIn K (.ref f53) = true)
    (a54 : PySem.W.nsIn K mainGlobals "law" = some (some (.ref f54)))
    (l54 : K.lookup f54 = some ⟨oc54, od54, .func (PySem.W.fnOf "law" "law" (defArgs s_law25) (defBody s_law25) (defScope s_law25) .none kV54 dc54 pm54 an54 cd54 ct54), sl54⟩)
    (c54 : PySem.W.codeIn K cd54 "law" = true) (k54 : PySem.W.keepIn K (.ref f54) = true)
    (ybNearer : PySem.W.plainGet K oNearer Str.empty = true) (ycNearer : PySem.W.hasDictIn K oNearer = true) (ydNearer : PySem.W.plainOver K oNearer = true) (yeNearer : PySem.W.findIn K (.ref oNearer) "__setattr__" = some (some (.builtin "object.__setattr__"))) (yfNearer : PySem.W.makesIn K oNearer = true) (ygNearer : PySem.W.keepIn K (.ref oNearer) = true)
    (ynNearernetwork : PySem.W.findIn K (.ref oNearer) "network" = some none)
    (ynNearerfar : PySem.W.findIn K (.ref oNearer) "far" = some none)
    (ybGrid : PySem.W.plainGet K oGrid Str.empty = true) (ycGrid : PySem.W.hasDictIn K oGrid = true) (ydGrid : PySem.W.plainOver K oGrid = true) (yeGrid : PySem.W.findIn K (.ref oGrid) "__setattr__" = some (some (.builtin "object.__setattr__"))) (yfGrid : PySem.W.makesIn K oGrid = true) (ygGrid : PySem.W.keepIn K (.ref oGrid) = true)
    (ynGridsizes : PySem.W.findIn K (.ref oGrid) "sizes" = some none)
    (ynGridlanes : PySem.W.findIn K (.ref oGrid) "lanes" = some none)
    (ynGridnetwork : PySem.W.findIn K (.ref oGrid) "network" = some none)
    (ynGridplaces : PySem.W.findIn K (.ref oGrid) "places" = some none)
    (ybInOrder : PySem.W.plainGet K oInOrder Str.empty = true) (ycInOrder : PySem.W.hasDictIn K oInOrder = true) (ydInOrder : PySem.W.plainOver K oInOrder = true) (yeInOrder : PySem.W.findIn K (.ref oInOrder) "__setattr__" = some (some (.builtin "object.__setattr__"))) (yfInOrder : PySem.W.makesIn K oInOrder = true) (ygInOrder : PySem.W.keepIn K (.ref oInOrder) = true)
    (ynInOrdergrid : PySem.W.findIn K (.ref oInOrder) "grid" = some none)
    (ybAcrossLines : PySem.W.plainGet K oAcrossLines Str.empty = true) (ycAcrossLines : PySem.W.hasDictIn K oAcrossLines = true) (ydAcrossLines : PySem.W.plainOver K oAcrossLines = true) (yeAcrossLines : PySem.W.findIn K (.ref oAcrossLines) "__setattr__" = some (some (.builtin "object.__setattr__"))) (yfAcrossLines : PySem.W.makesIn K oAcrossLines = true) (ygAcrossLines : PySem.W.keepIn K (.ref oAcrossLines) = true)
    (ynAcrossLinesgrid : PySem.W.findIn K (.ref oAcrossLines) "grid" = some none)
    (ybInTurn : PySem.W.plainGet K oInTurn Str.empty = true) (ycInTurn : PySem.W.hasDictIn K oInTurn = true) (ydInTurn : PySem.W.plainOver K oInTurn = true) (yeInTurn : PySem.W.findIn K (.ref oInTurn) "__setattr__" = some (some (.builtin "object.__setattr__"))) (yfInTurn : PySem.W.makesIn K oInTurn = true) (ygInTurn : PySem.W.keepIn K (.ref oInTurn) = true)
    (ynInTurngrid : PySem.W.findIn K (.ref oInTurn) "grid" = some none)
    (ynInTurnkind : PySem.W.findIn K (.ref oInTurn) "kind" = some none)
    {t_c_MAX_CHANNELS : Tok} (c_MAX_CHANNELS : PySem.W.nsIn K mainGlobals "MAX_CHANNELS" = some (some (.int 400 t_c_MAX_CHANNELS)))
    {t_c_MAX_LANES : Tok} (c_MAX_LANES : PySem.W.nsIn K mainGlobals "MAX_LANES" = some (some (.int 8 t_c_MAX_LANES)))
    {t_c_MAX_NODES : Tok} (c_MAX_NODES : PySem.W.nsIn K mainGlobals "MAX_NODES" = some (some (.int 64 t_c_MAX_NODES)))
    {t_c_MAX_ROOM : Tok} (c_MAX_ROOM : PySem.W.nsIn K mainGlobals "MAX_ROOM" = some (some (.int 1000 t_c_MAX_ROOM)))
    {t_c_MAX_SIZE : Tok} (c_MAX_SIZE : PySem.W.nsIn K mainGlobals "MAX_SIZE" = some (some (.int 64 t_c_MAX_SIZE)))
    {t_c_MAX_SIZES : Tok} (c_MAX_SIZES : PySem.W.nsIn K mainGlobals "MAX_SIZES" = some (some (.int 6 t_c_MAX_SIZES)))
    {xaNotAllowed : Addr} (xnNotAllowed : PySem.W.nsIn K mainGlobals "NotAllowed" = some (some (.ref xaNotAllowed))) (xeNotAllowed : PySem.W.excIn K xaNotAllowed [.type "ValueError", .type "Exception", .type "BaseException", .type "object"] "ValueError.__new__" = true) (xkNotAllowed : PySem.W.keepIn K (.ref xaNotAllowed) = true)
    (xbNotAllowed : PySem.W.subIn K (.ref xaNotAllowed) (.type "BaseException") = some true) (xtNotAllowed : PySem.W.typeIn K (.ref xaNotAllowed) = some (.type "type")) (xiNotAllowed : PySem.W.isClsIn K xaNotAllowed = true) (xsNotAllowed : PySem.W.subIn K (.ref xaNotAllowed) (.ref xaNotAllowed) = some true)
    (z_abs : PySem.W.nsIn K mainGlobals "abs" = some none)
    (z_all : PySem.W.nsIn K mainGlobals "all" = some none)
    (z_bool : PySem.W.nsIn K mainGlobals "bool" = some none)
    (z_divmod : PySem.W.nsIn K mainGlobals "divmod" = some none)
    (z_enumerate : PySem.W.nsIn K mainGlobals "enumerate" = some none)
    (z_int : PySem.W.nsIn K mainGlobals "int" = some none)
    (z_isinstance : PySem.W.nsIn K mainGlobals "isinstance" = some none)
    (z_len : PySem.W.nsIn K mainGlobals "len" = some none)
    (z_list : PySem.W.nsIn K mainGlobals "list" = some none)
    (z_min : PySem.W.nsIn K mainGlobals "min" = some none)
    (z_range : PySem.W.nsIn K mainGlobals "range" = some none)
    (z_reversed : PySem.W.nsIn K mainGlobals "reversed" = some none)
    (z_sorted : PySem.W.nsIn K mainGlobals "sorted" = some none)
    (z_sum : PySem.W.nsIn K mainGlobals "sum" = some none)
    (z_tuple : PySem.W.nsIn K mainGlobals "tuple" = some none)
    (z_zip : PySem.W.nsIn K mainGlobals "zip" = some none)
    : LamX.LawAtS l w K CX0 10 63 "_law_script" mg fa h := by
  have e := hfa.symm.trans (PySem.W.mg_of X G a54)
  cases e
  have F0 := fun_mk (st := s_p_nodes_next) l0 c0 k0
  have b0 := F0.binds (ps := ["network"]) fun _ _ _ _ _ _ us hl => match us, hl with | [_], _ => rfl
  have F1 := fun_mk (st := s_p_distances_from) l1 c1 k1
  have b1 := F1.binds (ps := ["beside", "u"]) fun _ _ _ _ _ _ us hl => match us, hl with | [_, _], _ => rfl
  have F2 := fun_mk (st := s_p_distances) l2 c2 k2
  have b2 := F2.binds (ps := ["network"]) fun _ _ _ _ _ _ us hl => match us, hl with | [_], _ => rfl
  have F3 := fun_mk (st := s_p_is_numberI) l3 c3 k3
  have b3 := F3.binds (ps := ["value", "least", "most"]) fun _ _ _ _ _ _ us hl => match us, hl with | [_, _, _], _ => rfl
  have F4 := fun_mk (st := s_p_made) l4 c4 k4
  have b4 := F4.binds (ps := ["n", "links"]) fun _ _ _ _ _ _ us hl => match us, hl with | [_, _], _ => rfl
  have F5 := fun_mk (st := s_p_nodes_of) l5 c5 k5
  have b5 := F5.binds (ps := ["sizes"]) fun _ _ _ _ _ _ us hl => match us, hl with | [_], _ => rfl
  have F6 := fun_mk (st := s_p_node_at) l6 c6 k6
  have b6 := F6.binds (ps := ["sizes", "place"]) fun _ _ _ _ _ _ us hl => match us, hl with | [_, _], _ => rfl
  have F7 := fun_mk (st := s_p_place_of) l7 c7 k7
  have b7 := F7.binds (ps := ["sizes", "node"]) fun _ _ _ _ _ _ us hl => match us, hl with | [_, _], _ => rfl
  have F8 := fun_mk (st := s_p_stepped) l8 c8 k8
  have b8 := F8.binds (ps := ["place", "at", "by"]) fun _ _ _ _ _ _ us hl => match us, hl with | [_, _, _], _ => rfl
  have F9 := fun_mk (st := s_p_mesh_links) l9 c9 k9
  have b9 := F9.binds (ps := ["sizes", "wraps"]) fun _ _ _ _ _ _ us hl => match us, hl with | [_, _], _ => rfl
  have F10 := fun_mk (st := s_p_mesh) l10 c10 k10
  have b10 := F10.binds (ps := ["sizes"]) fun _ _ _ _ _ _ us hl => match us, hl with | [_], _ => rfl
  have F11 := fun_mk (st := s_p_torus) l11 c11 k11
  have b11 := F11.binds (ps := ["sizes"]) fun _ _ _ _ _ _ us hl => match us, hl with | [_], _ => rfl
  have F12 := fun_mk (st := s_p_network_of) l12 c12 k12
  have b12 := F12.binds (ps := ["frame", "lanes", "room"]) fun _ _ _ _ _ _ us hl => match us, hl with | [_, _, _], _ => rfl
  have F13 := fun_mk (st := s_p_link_of) l13 c13 k13
  have b13 := F13.binds (ps := ["lanes", "c"]) fun _ _ _ _ _ _ us hl => match us, hl with | [_, _], _ => rfl
  have F14 := fun_mk (st := s_p_table_of) l14 c14 k14
  have b14 := F14.binds (ps := ["network", "chooser"]) fun _ _ _ _ _ _ us hl => match us, hl with | [_, _], _ => rfl
  have F15 := fun_mk (st := s_p_channels_from) l15 c15 k15
  have b15 := F15.binds (ps := ["network", "u"]) fun _ _ _ _ _ _ us hl => match us, hl with | [_, _], _ => rfl
  have F16 := fun_mk (st := s_p_Nearer_init) l16 c16 k16
  have b16 := F16.binds (ps := ["self", "network"]) fun _ _ _ _ _ _ us hl => match us, hl with | [_, _], _ => rfl
  have F17 := fun_mk (st := s_p_Nearer_is_nearer) l17 c17 k17
  have b17 := F17.binds (ps := ["self", "u", "d", "c"]) fun _ _ _ _ _ _ us hl => match us, hl with | [_, _, _, _], _ => rfl
  have F18 := fun_mk (st := s_p_Nearer_options) l18 c18 k18
  have b18 := F18.binds (ps := ["self", "u", "d"]) fun _ _ _ _ _ _ us hl => match us, hl with | [_, _, _], _ => rfl
  have F19 := fun_mk (st := s_p_shortest) l19 c19 k19
  have b19 := F19.binds (ps := ["network"]) fun _ _ _ _ _ _ us hl => match us, hl with | [_], _ => rfl
  have F20 := fun_mk (st := s_p_Grid_init) l20 c20 k20
  have b20 := F20.binds (ps := ["self", "sizes", "lanes", "wraps"]) fun _ _ _ _ _ _ us hl => match us, hl with | [_, _, _, _], _ => rfl
  have F21 := fun_mk (st := s_p_Grid_step) l21 c21 k21
  have b21 := F21.binds (ps := ["self", "c"]) fun _ _ _ _ _ _ us hl => match us, hl with | [_, _], _ => rfl
  have F22 := fun_mk (st := s_p_Grid_is_useful) l22 c22 k22
  have b22 := F22.binds (ps := ["self", "u", "d", "c"]) fun _ _ _ _ _ _ us hl => match us, hl with | [_, _, _, _], _ => rfl
  have F23 := fun_mk (st := s_p_Grid_useful) l23 c23 k23
  have b23 := F23.binds (ps := ["self", "u", "d"]) fun _ _ _ _ _ _ us hl => match us, hl with | [_, _, _], _ => rfl
  have F24 := fun_mk (st := s_p_first_other) l24 c24 k24
  have b24 := F24.binds (ps := ["one", "other"]) fun _ _ _ _ _ _ us hl => match us, hl with | [_, _], _ => rfl
  have F25 := fun_mk (st := s_p_InOrder_init) l25 c25 k25
  have b25 := F25.binds (ps := ["self", "grid"]) fun _ _ _ _ _ _ us hl => match us, hl with | [_, _], _ => rfl
  have F26 := fun_mk (st := s_p_InOrder_options) l26 c26 k26
  have b26 := F26.binds (ps := ["self", "u", "d"]) fun _ _ _ _ _ _ us hl => match us, hl with | [_, _, _], _ => rfl
  have F27 := fun_mk (st := s_p_dimension_order) l27 c27 k27
  have b27 := F27.binds (ps := ["sizes", "lanes"]) fun _ _ _ _ _ _ us hl => match us, hl with | [_, _], _ => rfl
  have F28 := fun_mk (st := s_p_dateline_choice) l28 c28 k28
  have b28 := F28.binds (ps := ["size", "x", "t"]) fun _ _ _ _ _ _ us hl => match us, hl with | [_, _, _], _ => rfl
  have F29 := fun_mk (st := s_p_AcrossLines_init) l29 c29 k29
  have b29 := F29.binds (ps := ["self", "grid"]) fun _ _ _ _ _ _ us hl => match us, hl with | [_, _], _ => rfl
  have F30 := fun_mk (st := s_p_AcrossLines_options) l30 c30 k30
  have b30 := F30.binds (ps := ["self", "u", "d"]) fun _ _ _ _ _ _ us hl => match us, hl with | [_, _, _], _ => rfl
  have F31 := fun_mk (st := s_p_dateline) l31 c31 k31
  have b31 := F31.binds (ps := ["sizes", "lanes"]) fun _ _ _ _ _ _ us hl => match us, hl with | [_, _], _ => rfl
  have F32 := fun_mk (st := s_p_InTurn_init) l32 c32 k32
  have b32 := F32.binds (ps := ["self", "grid", "kind"]) fun _ _ _ _ _ _ us hl => match us, hl with | [_, _, _], _ => rfl
  have F33 := fun_mk (st := s_p_InTurn_is_first) l33 c33 k33
  have b33 := F33.binds (ps := ["self", "step"]) fun _ _ _ _ _ _ us hl => match us, hl with | [_, _], _ => rfl
  have F34 := fun_mk (st := s_p_InTurn_options) l34 c34 k34
  have b34 := F34.binds (ps := ["self", "u", "d"]) fun _ _ _ _ _ _ us hl => match us, hl with | [_, _, _], _ => rfl
  have F35 := fun_mk (st := s_p_table_in_turn) l35 c35 k35
  have b35 := F35.binds (ps := ["sizes", "lanes", "kind"]) fun _ _ _ _ _ _ us hl => match us, hl with | [_, _, _], _ => rfl
  have F36 := fun_mk (st := s_p_negative_first) l36 c36 k36
  have b36 := F36.binds (ps := ["sizes", "lanes"]) fun _ _ _ _ _ _ us hl => match us, hl with | [_, _], _ => rfl
  have F37 := fun_mk (st := s_p_check_two) l37 c37 k37
  have b37 := F37.binds (ps := ["sizes"]) fun _ _ _ _ _ _ us hl => match us, hl with | [_], _ => rfl
  have F38 := fun_mk (st := s_p_west_first) l38 c38 k38
  have b38 := F38.binds (ps := ["sizes", "lanes"]) fun _ _ _ _ _ _ us hl => match us, hl with | [_, _], _ => rfl
  have F39 := fun_mk (st := s_p_north_last) l39 c39 k39
  have b39 := F39.binds (ps := ["sizes", "lanes"]) fun _ _ _ _ _ _ us hl => match us, hl with | [_, _], _ => rfl
  have F40 := fun_mk (st := s_l_mix) l40 c40 k40
  have b40 := F40.binds (ps := ["_law_number"]) fun _ _ _ _ _ _ us hl => match us, hl with | [_], _ => rfl
  have F41 := fun_mk (st := s_l_tape) l41 c41 k41
  have b41 := F41.binds (ps := ["_law_script", "_law_budget"]) fun _ _ _ _ _ _ us hl => match us, hl with | [_, _], _ => rfl
  have F42 := fun_mk (st := s_l_take) l42 c42 k42
  have b42 := F42.binds (ps := ["_law_tape_here", "_law_many"]) fun _ _ _ _ _ _ us hl => match us, hl with | [_, _], _ => rfl
  have F43 := fun_mk (st := s_l_drawn_network) l43 c43 k43
  have b43 := F43.binds (ps := ["_law_tape_here", "_law_most", "_law_channels"]) fun _ _ _ _ _ _ us hl => match us, hl with | [_, _, _], _ => rfl
  have F44 := fun_mk (st := s_l_far) l44 c44 k44
  have b44 := F44.binds (ps := ["_law_network_here"]) fun _ _ _ _ _ _ us hl => match us, hl with | [_], _ => rfl
  have F45 := fun_mk (st := s_l_sizes25) l45 c45 k45
  have b45 := F45.binds (ps := ["_law_tape_here", "_law_many"]) fun _ _ _ _ _ _ us hl => match us, hl with | [_, _], _ => rfl
  have F46 := fun_mk (st := s_l_places) l46 c46 k46
  have b46 := F46.binds (ps := ["_law_sizes_here"]) fun _ _ _ _ _ _ us hl => match us, hl with | [_], _ => rfl
  have F47 := fun_mk (st := s_l_grid) l47 c47 k47
  have b47 := F47.binds (ps := ["_law_sizes_here", "_law_lanes", "_law_wraps"]) fun _ _ _ _ _ _ us hl => match us, hl with | [_, _, _], _ => rfl
  have F48 := fun_mk (st := s_l_network) l48 c48 k48
  have b48 := F48.binds (ps := ["_law_sizes_here", "_law_lanes", "_law_wraps", "_law_room"]) fun _ _ _ _ _ _ us hl => match us, hl with | [_, _, _, _], _ => rfl
  have F49 := fun_mk (st := s_l_dateline_fits) l49 c49 k49
  have b49 := F49.binds (ps := ["_law_sizes_here", "_law_here", "_law_there", "_law_row"]) fun _ _ _ _ _ _ us hl => match us, hl with | [_, _, _, _], _ => rfl
  have F50 := fun_mk (st := s_l_options25) l50 c50 k50
  have b50 := F50.binds (ps := ["_law_word", "_law_sizes_here", "_law_rows", "_law_places_here", "_law_u", "_law_d"]) fun _ _ _ _ _ _ us hl => match us, hl with | [_, _, _, _, _, _], _ => rfl
  have F51 := fun_mk (st := s_l_table) l51 c51 k51
  have b51 := F51.binds (ps := ["_law_word", "_law_sizes_here", "_law_lanes"]) fun _ _ _ _ _ _ us hl => match us, hl with | [_, _, _], _ => rfl
  have F52 := fun_mk (st := s_l_told25) l52 c52 k52
  have b52 := F52.binds (ps := ["_law_word", "_law_sizes_here", "_law_lanes"]) fun _ _ _ _ _ _ us hl => match us, hl with | [_, _, _], _ => rfl
  have F53 := fun_mk (st := s_l_shortest_fine) l53 c53 k53
  have b53 := F53.binds (ps := ["_law_network_here"]) fun _ _ _ _ _ _ us hl => match us, hl with | [_], _ => rfl
  have F54 := fun_mk (st := s_law25) l54 c54 k54
  have b54 := F54.binds (ps := ["_law_script"]) fun _ _ _ _ _ _ us hl => match us, hl with | [_], _ => rfl
  have hE : ∀ p ∈ ([] : List (Addr × Addr)), h.get? p.2 = some { cls := .none, data := .fields #[] } := by
    intro p hp
    simp only [List.mem_cons, List.not_mem_nil, or_false] at hp
  have hN : ∀ p ∈ ([] : List (Addr × Addr)), K.lookup p.2 = none := by
    intro p hp
    simp only [List.mem_cons, List.not_mem_nil, or_false] at hp
  have hC : ∀ p ∈ ([] : List (Addr × Addr)), PySem.W.CodeHd h p.1 p.2 := by
    intro p hp
    simp only [List.mem_cons, List.not_mem_nil, or_false] at hp
  letI : Tbs K := tbsOf K ([] : List Addr)
  refine ⟨PySem.W.fnOf "law" "law" (defArgs s_law25) (defBody s_law25) (defScope s_law25) .none kV54 dc54 pm54 an54 cd54 ct54, [], spLawT K ([] : List Addr), hE, hN, hC, fun s v => .of_eq rfl, fun H a ns _ _ hH hS => ⟨a, ns, rfl, hS, fun P hP => ?_, fun _ => rfl⟩, fun base _ _ hTB => ?_⟩
  · have hP : P ∈ ([] : List (Addr × Addr)).map (·.2) := hP
    obtain ⟨p, hp, rfl⟩ := List.mem_map.mp hP
    exact tab_empty (hH p hp)
  · let T : Tx K mg base := ⟨([] : List Addr), fun t ht => ⟨t, rfl, ht⟩, _, _, _, _, _, _, _, F0, b0, PySem.W.mg_of X G a0, _, _, F1, b1, PySem.W.mg_of X G a1, _, _, F2, b2, PySem.W.mg_of X G a2, _, _, F3, b3, PySem.W.mg_of X G a3, _, _, F4, b4, PySem.W.mg_of X G a4, _, _, F5, b5, PySem.W.mg_of X G a5, _, _, F6, b6, PySem.W.mg_of X G a6, _, _, F7, b7, PySem.W.mg_of X G a7, _, _, F8, b8, PySem.W.mg_of X G a8, _, _, F9, b9, PySem.W.mg_of X G a9, _, _, F10, b10, PySem.W.mg_of X G a10, _, _, F11, b11, PySem.W.mg_of X G a11, _, _, F12, b12, PySem.W.mg_of X G a12, _, _, F13, b13, PySem.W.mg_of X G a13, _, _, F14, b14, PySem.W.mg_of X G a14, _, _, F15, b15, PySem.W.mg_of X G a15, _, _, F16, b16, _, _, F17, b17, _, _, F18, b18, _, _, F19, b19, PySem.W.mg_of X G a19, _, _, F20, b20, _, _, F21, b21, _, _, F22, b22, _, _, F23, b23, _, _, F24, b24, PySem.W.mg_of X G a24, _, _, F25, b25, _, _, F26, b26, _, _, F27, b27, PySem.W.mg_of X G a27, _, _, F28, b28, PySem.W.mg_of X G a28, _, _, F29, b29, _, _, F30, b30, _, _, F31, b31, PySem.W.mg_of X G a31, _, _, F32, b32, _, _, F33, b33, _, _, F34, b34, _, _, F35, b35, PySem.W.mg_of X G a35, _, _, F36, b36, PySem.W.mg_of X G a36, _, _, F37, b37, PySem.W.mg_of X G a37, _, _, F38, b38, PySem.W.mg_of X G a38, _, _, F39, b39, PySem.W.mg_of X G a39, _, _, F40, b40, PySem.W.mg_of X G a40, _, _, F41, b41, PySem.W.mg_of X G a41, _, _, F42, b42, PySem.W.mg_of X G a42, _, _, F43, b43, PySem.W.mg_of X G a43, _, _, F44, b44, PySem.W.mg_of X G a44, _, _, F45, b45, PySem.W.mg_of X G a45, _, _, F46, b46, PySem.W.mg_of X G a46, _, _, F47, b47, PySem.W.mg_of X G a47, _, _, F48, b48, PySem.W.mg_of X G a48, _, _, F49, b49, PySem.W.mg_of X G a49, _, _, F50, b50, PySem.W.mg_of X G a50, _, _, F51, b51, PySem.W.mg_of X G a51, _, _, F52, b52, PySem.W.mg_of X G a52, _, _, F53, b53, PySem.W.mg_of X G a53, _, _, F54, b54, PySem.W.mg_of X G a54, PySem.W.mg_of X G yaNearer, ⟨ybNearer, ycNearer, ydNearer, yeNearer⟩, ⟨yfNearer, a16, i16, ygNearer⟩, ynNearernetwork, ynNearerfar, ⟨a17, i17, k17⟩, ⟨a18, i18, k18⟩, PySem.W.mg_of X G yaGrid, ⟨ybGrid, ycGrid, ydGrid, yeGrid⟩, ⟨yfGrid, a20, i20, ygGrid⟩, ynGridsizes, ynGridlanes, ynGridnetwork, ynGridplaces, ⟨a21, i21, k21⟩, ⟨a22, i22, k22⟩, ⟨a23, i23, k23⟩, PySem.W.mg_of X G yaInOrder, ⟨ybInOrder, ycInOrder, ydInOrder, yeInOrder⟩, ⟨yfInOrder, a25, i25, ygInOrder⟩, ynInOrdergrid, ⟨a26, i26, k26⟩, PySem.W.mg_of X G yaAcrossLines, ⟨ybAcrossLines, ycAcrossLines, ydAcrossLines, yeAcrossLines⟩, ⟨yfAcrossLines, a29, i29, ygAcrossLines⟩, ynAcrossLinesgrid, ⟨a30, i30, k30⟩, PySem.W.mg_of X G yaInTurn, ⟨ybInTurn, ycInTurn, ydInTurn, yeInTurn⟩, ⟨yfInTurn, a32, i32, ygInTurn⟩, ynInTurngrid, ynInTurnkind, ⟨a33, i33, k33⟩, ⟨a34, i34, k34⟩, _, PySem.W.mg_of X G c_MAX_CHANNELS, _, PySem.W.mg_of X G c_MAX_LANES, _, PySem.W.mg_of X G c_MAX_NODES, _, PySem.W.mg_of X G c_MAX_ROOM, _, PySem.W.mg_of X G c_MAX_SIZE, _, PySem.W.mg_of X G c_MAX_SIZES, _, ⟨PySem.W.mg_of X G xnNotAllowed, xeNotAllowed, xkNotAllowed, xbNotAllowed, xtNotAllowed, exm_self xbNotAllowed xiNotAllowed xtNotAllowed xsNotAllowed⟩, PySem.W.mg_none_of X G z_abs, PySem.W.mg_none_of X G z_all, PySem.W.mg_none_of X G z_bool, PySem.W.mg_none_of X G z_divmod, PySem.W.mg_none_of X G z_enumerate, PySem.W.mg_none_of X G z_int, PySem.W.mg_none_of X G z_isinstance, PySem.W.mg_none_of X G z_len, PySem.W.mg_none_of X G z_list, PySem.W.mg_none_of X G z_min, PySem.W.mg_none_of X G z_range, PySem.W.mg_none_of X G z_reversed, PySem.W.mg_none_of X G z_sorted, PySem.W.mg_none_of X G z_sum, PySem.W.mg_none_of X G z_tuple, PySem.W.mg_none_of X G z_zip⟩
    exact ok_law25 T hm_law25
end Cf
open PySem PySem.W PyProof.Rows
set_option maxHeartbeats 0 in
theorem PySem.Challenge.cw_calmfabric_k25_tables_of_known_forms_holds : PySem.Challenge.rw_calmfabric_k25_tables_of_known_forms.Holds := by
  w_on; o_law; k_head; (case hw => w_witness2)
  k_fill
  refine LamX.walk_ofTab (l := PySem.Challenge.rw_calmfabric_k25_tables_of_known_forms) (n := 63) (k := 10) (x := "_law_script") (CX := fun _ => L2.CX0) [] rfl (by decide) rfl ⟨rfl, by decide, by decide⟩ (by decide +kernel) (fun w h Y => PySem.W.kIn_of Y) ?F (fun _ _ _ _ _ h => h)
  case F =>
    intro w mg fa h Y0 KX G hmg own
    refine' Cf.all_mk KX G own hmg (yaNearer := ?yaNearer) (yaGrid := ?yaGrid) (yaInOrder := ?yaInOrder) (yaAcrossLines := ?yaAcrossLines) (yaInTurn := ?yaInTurn) (a0 := ?a0) (l0 := ?l0) (c0 := ?c0) (k0 := ?k0) (a1 := ?a1) (l1 := ?l1) (c1 := ?c1) (k1 := ?k1) (a2 := ?a2) (l2 := ?l2) (c2 := ?c2) (k2 := ?k2) (a3 := ?a3) (l3 := ?l3) (c3 := ?c3) (k3 := ?k3) (a4 := ?a4) (l4 := ?l4) (c4 := ?c4) (k4 := ?k4) (a5 := ?a5) (l5 := ?l5) (c5 := ?c5) (k5 := ?k5) (a6 := ?a6) (l6 := ?l6) (c6 := ?c6) (k6 := ?k6) (a7 := ?a7) (l7 := ?l7) (c7 := ?c7) (k7 := ?k7) (a8 := ?a8) (l8 := ?l8) (c8 := ?c8) (k8 := ?k8) (a9 := ?a9) (l9 := ?l9) (c9 := ?c9) (k9 := ?k9) (a10 := ?a10) (l10 := ?l10) (c10 := ?c10) (k10 := ?k10) (a11 := ?a11) (l11 := ?l11) (c11 := ?c11) (k11 := ?k11) (a12 := ?a12) (l12 := ?l12) (c12 := ?c12) (k12 := ?k12) (a13 := ?a13) (l13 := ?l13) (c13 := ?c13) (k13 := ?k13) (a14 := ?a14) (l14 := ?l14) (c14 := ?c14) (k14 := ?k14) (a15 := ?a15) (l15 := ?l15) (c15 := ?c15) (k15 := ?k15) (a16 := ?a16) (i16 := ?i16) (l16 := ?l16) (c16 := ?c16) (k16 := ?k16) (a17 := ?a17) (i17 := ?i17) (l17 := ?l17) (c17 := ?c17) (k17 := ?k17) (a18 := ?a18) (i18 := ?i18) (l18 := ?l18) (c18 := ?c18) (k18 := ?k18) (a19 := ?a19) (l19 := ?l19) (c19 := ?c19) (k19 := ?k19) (a20 := ?a20) (i20 := ?i20) (l20 := ?l20) (c20 := ?c20) (k20 := ?k20) (a21 := ?a21) (i21 := ?i21) (l21 := ?l21) (c21 := ?c21) (k21 := ?k21) (a22 := ?a22) (i22 := ?i22) (l22 := ?l22) (c22 := ?c22) (k22 := ?k22) (a23 := ?a23) (i23 := ?i23) (l23 := ?l23) (c23 := ?c23) (k23 := ?k23) (a24 := ?a24) (l24 := ?l24) (c24 := ?c24) (k24 := ?k24) (a25 := ?a25) (i25 := ?i25) (l25 := ?l25) (c25 := ?c25) (k25 := ?k25) (a26 := ?a26) (i26 := ?i26) (l26 := ?l26) (c26 := ?c26) (k26 := ?k26) (a27 := ?a27) (l27 := ?l27) (c27 := ?c27) (k27 := ?k27) (a28 := ?a28) (l28 := ?l28) (c28 := ?c28) (k28 := ?k28) (a29 := ?a29) (i29 := ?i29) (l29 := ?l29) (c29 := ?c29) (k29 := ?k29) (a30 := ?a30) (i30 := ?i30) (l30 := ?l30) (c30 := ?c30) (k30 := ?k30) (a31 := ?a31) (l31 := ?l31) (c31 := ?c31) (k31 := ?k31) (a32 := ?a32) (i32 := ?i32) (l32 := ?l32) (c32 := ?c32) (k32 := ?k32) (a33 := ?a33) (i33 := ?i33) (l33 := ?l33) (c33 := ?c33) (k33 := ?k33) (a34 := ?a34) (i34 := ?i34) (l34 := ?l34) (c34 := ?c34) (k34 := ?k34) (a35 := ?a35) (l35 := ?l35) (c35 := ?c35) (k35 := ?k35) (a36 := ?a36) (l36 := ?l36) (c36 := ?c36) (k36 := ?k36) (a37 := ?a37) (l37 := ?l37) (c37 := ?c37) (k37 := ?k37) (a38 := ?a38) (l38 := ?l38) (c38 := ?c38) (k38 := ?k38) (a39 := ?a39) (l39 := ?l39) (c39 := ?c39) (k39 := ?k39) (a40 := ?a40) (l40 := ?l40) (c40 := ?c40) (k40 := ?k40) (a41 := ?a41) (l41 := ?l41) (c41 := ?c41) (k41 := ?k41) (a42 := ?a42) (l42 := ?l42) (c42 := ?c42) (k42 := ?k42) (a43 := ?a43) (l43 := ?l43) (c43 := ?c43) (k43 := ?k43) (a44 := ?a44) (l44 := ?l44) (c44 := ?c44) (k44 := ?k44) (a45 := ?a45) (l45 := ?l45) (c45 := ?c45) (k45 := ?k45) (a46 := ?a46) (l46 := ?l46) (c46 := ?c46) (k46 := ?k46) (a47 := ?a47) (l47 := ?l47) (c47 := ?c47) (k47 := ?k47) (a48 := ?a48) (l48 := ?l48) (c48 := ?c48) (k48 := ?k48) (a49 := ?a49) (l49 := ?l49) (c49 := ?c49) (k49 := ?k49) (a50 := ?a50) (l50 := ?l50) (c50 := ?c50) (k50 := ?k50) (a51 := ?a51) (l51 := ?l51) (c51 := ?c51) (k51 := ?k51) (a52 := ?a52) (l52 := ?l52) (c52 := ?c52) (k52 := ?k52) (a53 := ?a53) (l53 := ?l53) (c53 := ?c53) (k53 := ?k53) (a54 := ?a54) (l54 := ?l54) (c54 := ?c54) (k54 := ?k54) (ybNearer := ?ybNearer) (ycNearer := ?ycNearer) (ydNearer := ?ydNearer) (yeNearer := ?yeNearer) (yfNearer := ?yfNearer) (ygNearer := ?ygNearer) (ynNearernetwork := ?ynNearernetwork) (ynNearerfar := ?ynNearerfar) (ybGrid := ?ybGrid) (ycGrid := ?ycGrid) (ydGrid := ?ydGrid) (yeGrid := ?yeGrid) (yfGrid := ?yfGrid) (ygGrid := ?ygGrid) (ynGridsizes := ?ynGridsizes) (ynGridlanes := ?ynGridlanes) (ynGridnetwork := ?ynGridnetwork) (ynGridplaces := ?ynGridplaces) (ybInOrder := ?ybInOrder) (ycInOrder := ?ycInOrder) (ydInOrder := ?ydInOrder) (yeInOrder := ?yeInOrder) (yfInOrder := ?yfInOrder) (ygInOrder := ?ygInOrder) (ynInOrdergrid := ?ynInOrdergrid) (ybAcrossLines := ?ybAcrossLines) (ycAcrossLines := ?ycAcrossLines) (ydAcrossLines := ?ydAcrossLines) (yeAcrossLines := ?yeAcrossLines) (yfAcrossLines := ?yfAcrossLines) (ygAcrossLines := ?ygAcrossLines) (ynAcrossLinesgrid := ?ynAcrossLinesgrid) (ybInTurn := ?ybInTurn) (ycInTurn := ?ycInTurn) (ydInTurn := ?ydInTurn) (yeInTurn := ?yeInTurn) (yfInTurn := ?yfInTurn) (ygInTurn := ?ygInTurn) (ynInTurngrid := ?ynInTurngrid) (ynInTurnkind := ?ynInTurnkind) (c_MAX_CHANNELS := ?c_MAX_CHANNELS) (c_MAX_LANES := ?c_MAX_LANES) (c_MAX_NODES := ?c_MAX_NODES) (c_MAX_ROOM := ?c_MAX_ROOM) (c_MAX_SIZE := ?c_MAX_SIZE) (c_MAX_SIZES := ?c_MAX_SIZES) (z_abs := ?z_abs) (z_all := ?z_all) (z_bool := ?z_bool) (z_divmod := ?z_divmod) (z_enumerate := ?z_enumerate) (z_int := ?z_int) (z_isinstance := ?z_isinstance) (z_len := ?z_len) (z_list := ?z_list) (z_min := ?z_min) (z_range := ?z_range) (z_reversed := ?z_reversed) (z_sorted := ?z_sorted) (z_sum := ?z_sum) (z_tuple := ?z_tuple) (z_zip := ?z_zip) (xnNotAllowed := ?xnNotAllowed) (xeNotAllowed := ?xeNotAllowed) (xkNotAllowed := ?xkNotAllowed) (xbNotAllowed := ?xbNotAllowed) (xtNotAllowed := ?xtNotAllowed) (xiNotAllowed := ?xiNotAllowed) (xsNotAllowed := ?xsNotAllowed)
    (case yaNearer => k_is)
    (case yaGrid => k_is)
    (case yaInOrder => k_is)
    (case yaAcrossLines => k_is)
    (case yaInTurn => k_is)
    (case a16 => k_is)
    (case a17 => k_is)
    (case a18 => k_is)
    (case a20 => k_is)
    (case a21 => k_is)
    (case a22 => k_is)
    (case a23 => k_is)
    (case a25 => k_is)
    (case a26 => k_is)
    (case a29 => k_is)
    (case a30 => k_is)
    (case a32 => k_is)
    (case a33 => k_is)
    (case a34 => k_is)
    (case xnNotAllowed => k_is)
    (case xeNotAllowed => k_exc)
    any_goals k_is
    all_goals rfl
