import PyProof.Rows.All
import HandS.ForMost
import HandS.Exc
import HandS.Deep
import HandS.Flow
import HandS.TupAny
import HandS.Rev
import HandS.Zip
import KE.SortData
import KE.DataMinMax
import HandS.Wide
import HandS.More
import HandS.Dict
import HandS.Ends
import KE.GoesMore
import KE.GoesEnum
import HandS.Iter
import HandS.Conv
import KE.DataIsa
import HandS.Style
import HandS.WordsDict
import HandS.TupMul
import HandS.Call
import HandS.SetFor
import KE.KDictDisplayH
import HandS.TupLen
import PyProof.SumWalk
import PyProof.ListOps
import KE.DataAny
import HandS.WordsExc
import HandS.TryOnly
import HandS.TupSets
import HandS.ExcIs
import PySem.Challenge.RW_calmfabric_k20_frames
set_option Elab.async false
set_option linter.all false
set_option maxRecDepth 100000
/-! WL: readings over plain data. Part 1: transformers, data, environments. -/
namespace WL
open PySem PySem.Spec PyProof.Rows L2

/-! ### what a piece of code asks, said of plain data -/
inductive Xn where
  | plain (c : Nat)
  | num (c : Nat) (n : Int)
abbrev Wp (α : Type) := (α → Prop) → (Xn → Prop) → Prop
section
variable {α β γ : Type}
def ret (a : α) : Wp α := fun P _ => P a
def bnd (m : Wp α) (k : α → Wp β) : Wp β := fun P X => m (fun a => k a P X) X
def thr (x : Xn) : Wp α := fun _ X => X x
def grd (c : Prop) (m : Wp α) : Wp α := fun P X => c ∧ m P X
def opt (o : Option α) : Wp α := fun P _ => ∃ a, o = some a ∧ P a
def cut : Wp α := fun _ _ => False
/-- any value with p -/
def anyW (p : α → Prop) : Wp α := fun P _ => ∀ a, p a → P a
def mapW (f : α → β) (m : Wp α) : Wp β := fun P X => m (fun a => P (f a)) X
theorem ret_bnd (a : α) (k : α → Wp β) : bnd (ret a) k = k a := rfl
theorem bnd_ret (m : Wp α) : bnd m ret = m := rfl
theorem bnd_bnd (m : Wp α) (k : α → Wp β) (l : β → Wp γ) : bnd (bnd m k) l = bnd m fun a => bnd (k a) l := rfl
theorem opt_some (a : α) : opt (some a) = ret a := by
  funext P X
  exact propext ⟨fun ⟨b, e, h⟩ => by cases e; exact h, fun h => ⟨a, rfl, h⟩⟩
theorem grd_true {c : Prop} {m : Wp α} (h : c) : grd c m = m := by
  funext P X
  exact propext ⟨fun z => z.2, fun z => ⟨h, z⟩⟩
theorem thr_bnd (x : Xn) (k : α → Wp β) : bnd (thr x) k = thr x := rfl
theorem mapW_ret (f : α → β) (a : α) : mapW f (ret a) = ret (f a) := rfl
theorem mapW_bnd (f : α → β) (m : Wp α) : mapW f m = bnd m fun a => ret (f a) := rfl
/-- if c: a else: b, the test a Bool -/
def sel (b : Bool) (m n : Wp α) : Wp α := if b = true then m else n
@[simp] theorem sel_true (m n : Wp α) : sel true m n = m := rfl
@[simp] theorem sel_false (m n : Wp α) : sel false m n = n := rfl
theorem sel_bnd (b : Bool) (m n : Wp α) (k : α → Wp β) : bnd (sel b m n) k = sel b (bnd m k) (bnd n k) := by cases b <;> rfl
theorem sel_same (b : Bool) (m : Wp α) : sel b m m = m := by cases b <;> rfl
end

/-! ### data that stands for ever: through tuples alone -/
def still : HO → Bool
  | .tup _ => true
  | .frz _ _ => true
  | _ => false
mutual
inductive Fz (K : PySem.W.Frag) (H : Hp) : V → PyData → Prop
  | non : Fz K H .non .none
  | bl (b : Bool) : Fz K H (.bl b) (.bool b)
  | int (i : Int) : Fz K H (.int i) (.int i)
  | str (x : Str) : Fz K H (.str x) (.str x)
  | tup {a : Addr} {xs : List V} {ds : List PyData} : SqT K H a xs → FzAll K H xs ds → Fz K H (.ref a) (.tuple ds)
inductive FzAll (K : PySem.W.Frag) (H : Hp) : List V → List PyData → Prop
  | nil : FzAll K H [] []
  | cons {v : V} {vs : List V} {d : PyData} {ds : List PyData} : Fz K H v d → FzAll K H vs ds → FzAll K H (v :: vs) (d :: ds)
end
def Stay (H H' : Hp) : Prop := ∀ a o, H a = some o → still o = true → H' a = some o
section
variable {K : PySem.W.Frag} {H H' : Hp} {v : V} {d : PyData} {vs : List V} {ds : List PyData}
theorem sqT_stay (st : Stay H H') {a : Addr} {xs : List V} (h : SqT K H a xs) : SqT K H' a xs := by
  rcases h with (h | ⟨o, h⟩) | h
  · exact .inl (.inl (st _ _ h rfl))
  · exact .inl (.inr ⟨o, st _ _ h rfl⟩)
  · exact .inr h
mutual
theorem Fz.stay (st : Stay H H') : ∀ {v : V} {d : PyData}, Fz K H v d → Fz K H' v d
  | _, _, .non => .non
  | _, _, .bl b => .bl b
  | _, _, .int i => .int i
  | _, _, .str x => .str x
  | _, _, .tup h1 h2 => .tup (sqT_stay st h1) (FzAll.stay st h2)
theorem FzAll.stay (st : Stay H H') : ∀ {vs : List V} {ds : List PyData}, FzAll K H vs ds → FzAll K H' vs ds
  | _, _, .nil => .nil
  | _, _, .cons h1 h2 => .cons (Fz.stay st h1) (FzAll.stay st h2)
end
mutual
theorem Fz.dp : ∀ {v : V} {d : PyData}, Fz K H v d → Dp K H v d
  | _, _, .non => .non
  | _, _, .bl b => .bl b
  | _, _, .int i => .int i
  | _, _, .str x => .str x
  | _, _, .tup h1 h2 => .tup h1 (FzAll.dp h2)
theorem FzAll.dp : ∀ {vs : List V} {ds : List PyData}, FzAll K H vs ds → DpAll K H vs ds
  | _, _, .nil => .nil
  | _, _, .cons h1 h2 => .cons (Fz.dp h1) (FzAll.dp h2)
end
theorem Fz.int_inv {n : Int} (h : Fz K H v (.int n)) : v = .int n := by cases h; rfl
theorem Fz.bl_inv {b : Bool} (h : Fz K H v (.bool b)) : v = .bl b := by cases h; rfl
theorem Fz.str_inv {x : Str} (h : Fz K H v (.str x)) : v = .str x := by cases h; rfl
theorem Fz.non_inv (h : Fz K H v .none) : v = .non := by cases h; rfl
theorem Fz.tup_inv (h : Fz K H v (.tuple ds)) : ∃ a xs, v = .ref a ∧ SqT K H a xs ∧ FzAll K H xs ds := by
  cases h with
  | tup h1 h2 => exact ⟨_, _, rfl, h1, h2⟩
theorem FzAll.length : ∀ {vs : List V} {ds : List PyData}, FzAll K H vs ds → vs.length = ds.length
  | _, _, .nil => rfl
  | _, _, .cons _ t => by
    rw [List.length_cons, List.length_cons, FzAll.length t]
theorem FzAll.get : ∀ {vs : List V} {ds : List PyData} {i : Nat} {d : PyData}, FzAll K H vs ds → ds[i]? = some d → ∃ v, vs[i]? = some v ∧ Fz K H v d
  | _, _, _, _, .nil, e => by simp at e
  | _, _, 0, _, .cons r _, e => by simp at e; subst e; exact ⟨_, rfl, r⟩
  | _, _, i + 1, d, .cons _ t, e => by
    obtain ⟨u, h1, h2⟩ := FzAll.get (i := i) (d := d) t (by simpa using e)
    exact ⟨u, by simpa using h1, h2⟩
theorem FzAll.getV : ∀ {vs : List V} {ds : List PyData} {i : Nat} {v : V}, FzAll K H vs ds → vs[i]? = some v → ∃ d, ds[i]? = some d ∧ Fz K H v d
  | _, _, _, _, .nil, e => by simp at e
  | _, _, 0, _, .cons r _, e => by simp at e; subst e; exact ⟨_, rfl, r⟩
  | _, _, i + 1, d, .cons _ t, e => by
    obtain ⟨u, h1, h2⟩ := FzAll.getV (i := i) (v := d) t (by simpa using e)
    exact ⟨u, by simpa using h1, h2⟩
theorem FzAll.append : ∀ {vs ws : List V} {ds es : List PyData}, FzAll K H vs ds → FzAll K H ws es → FzAll K H (vs ++ ws) (ds ++ es)
  | _, _, _, _, .nil, s => s
  | _, _, _, _, .cons r t, s => .cons r (FzAll.append t s)
theorem FzAll.take : ∀ {vs : List V} {ds : List PyData} (n : Nat), FzAll K H vs ds → FzAll K H (vs.take n) (ds.take n)
  | _, _, 0, _ => .nil
  | _, _, _ + 1, .nil => .nil
  | _, _, n + 1, .cons r t => .cons r (FzAll.take n t)
theorem FzAll.drop : ∀ {vs : List V} {ds : List PyData} (n : Nat), FzAll K H vs ds → FzAll K H (vs.drop n) (ds.drop n)
  | _, _, 0, h => h
  | _, _, _ + 1, .nil => .nil
  | _, _, n + 1, .cons _ t => FzAll.drop n t
theorem FzAll.set : ∀ {vs : List V} {ds : List PyData} {v : V} {d : PyData} (i : Nat), FzAll K H vs ds → Fz K H v d → FzAll K H (vs.set i v) (ds.set i d)
  | _, _, _, _, _, .nil, _ => .nil
  | _, _, _, _, 0, .cons _ t, z => .cons z t
  | _, _, _, _, i + 1, .cons r t, z => .cons r (FzAll.set i t z)
theorem FzAll.reverse : ∀ {vs : List V} {ds : List PyData}, FzAll K H vs ds → FzAll K H vs.reverse ds.reverse
  | _, _, .nil => .nil
  | _, _, .cons r t => by
    rw [List.reverse_cons, List.reverse_cons]
    exact FzAll.append (FzAll.reverse t) (.cons r .nil)
theorem FzAll.one (h : Fz K H v d) : FzAll K H [v] [d] := .cons h .nil
theorem FzAll.ints : ∀ {vs : List V} {ns : List Int}, FzAll K H vs (ns.map PyData.int) → vs = ns.map V.int
  | _, [], h => by cases h; rfl
  | _, n :: ns, h => by
    cases h with
    | cons h1 h2 => rw [h1.int_inv, FzAll.ints h2]; rfl
theorem FzAll.bools : ∀ {vs : List V} {ns : List Bool}, FzAll K H vs (ns.map PyData.bool) → vs = ns.map V.bl
  | _, [], h => by cases h; rfl
  | _, n :: ns, h => by
    cases h with
    | cons h1 h2 => rw [h1.bl_inv, FzAll.bools h2]; rfl
theorem FzAll.strs : ∀ {vs : List V} {ns : List Str}, FzAll K H vs (ns.map PyData.str) → vs = ns.map V.str
  | _, [], h => by cases h; rfl
  | _, n :: ns, h => by
    cases h with
    | cons h1 h2 => rw [h1.str_inv, FzAll.strs h2]; rfl
end

/-! ### how typed things are written as data -/
section
variable {α β γ δ ε ζ : Type}
def eI : Int → PyData := .int
def eB : Bool → PyData := .bool
def eS : Str → PyData := .str
def eU : Unit → PyData := fun _ => .none
def eD : PyData → PyData := fun d => d
def eO (e : α → PyData) : Option α → PyData
  | none => .none
  | some a => e a
def eT (e : α → PyData) : List α → PyData := fun xs => .tuple (xs.map e)
def e0 : Unit → PyData := fun _ => .tuple []
def e1 (a : α → PyData) : α → PyData := fun x => .tuple [a x]
def e2 (a : α → PyData) (b : β → PyData) : α × β → PyData := fun x => .tuple [a x.1, b x.2]
def e3 (a : α → PyData) (b : β → PyData) (c : γ → PyData) : α × β × γ → PyData := fun x => .tuple [a x.1, b x.2.1, c x.2.2]
def e4 (a : α → PyData) (b : β → PyData) (c : γ → PyData) (d : δ → PyData) : α × β × γ × δ → PyData := fun x => .tuple [a x.1, b x.2.1, c x.2.2.1, d x.2.2.2]
def e5 (a : α → PyData) (b : β → PyData) (c : γ → PyData) (d : δ → PyData) (e : ε → PyData) : α × β × γ × δ × ε → PyData := fun x => .tuple [a x.1, b x.2.1, c x.2.2.1, d x.2.2.2.1, e x.2.2.2.2]
def e6 (a : α → PyData) (b : β → PyData) (c : γ → PyData) (d : δ → PyData) (e : ε → PyData) (f : ζ → PyData) : α × β × γ × δ × ε × ζ → PyData := fun x => .tuple [a x.1, b x.2.1, c x.2.2.1, d x.2.2.2.1, e x.2.2.2.2.1, f x.2.2.2.2.2]
end

/-! ### what a slot holds -/
/-- a thing that a name holds, with the objects that are its own -/
structure Sl where
  own : Hp → V → List Addr → Prop
  ro : Bool
  dom : ∀ {H : Hp} {v : V} {fp : List Addr} {a : Addr}, own H v fp → a ∈ fp → ∃ o, H a = some o ∧ still o = false
  keep : ∀ {H H' : Hp} {v : V} {fp : List Addr}, own H v fp → (∀ a o, H a = some o → (a ∈ fp ∨ still o = true) → H' a = some o) → own H' v fp
/-- data -/
def fz (K : PySem.W.Frag) (d : PyData) : Sl where
  own := fun H v fp => fp = [] ∧ Fz K H v d
  ro := false
  dom := fun h ha => by rw [h.1] at ha; cases ha
  keep := fun h k => ⟨h.1, h.2.stay fun a o e z => k a o e (.inr z)⟩
/-- a list of data of its own -/
def lsOwn (K : PySem.W.Frag) (ds : List PyData) (H : Hp) (v : V) (fp : List Addr) : Prop := ∃ p vs, v = .ref p ∧ fp = [p] ∧ H p = some (.lst vs) ∧ FzAll K H vs ds
def ls (K : PySem.W.Frag) (ds : List PyData) : Sl where
  own := lsOwn K ds
  ro := false
  dom := fun h ha => by
    obtain ⟨p, vs, _, e, hp, _⟩ := h
    rw [e] at ha
    rw [List.mem_singleton.mp ha]
    exact ⟨_, hp, rfl⟩
  keep := fun h k => by
    obtain ⟨p, vs, e1, e2, hp, hz⟩ := h
    exact ⟨p, vs, e1, e2, k p _ hp (.inl (by rw [e2]; exact List.mem_singleton.mpr rfl)), hz.stay fun a o e z => k a o e (.inr z)⟩
inductive Ety where
  | un
  | sl (S : Sl)
  | tp (S : Sl)
  /-- a list of the caller's, only read -/
  | rd (K : PySem.W.Frag) (ds : List PyData)
  /-- a thing of another's, only read -/
  | rb (S : Sl)

/-! ### where one stands -/
/-- a fixed heap, the objects of it that may change, the tape -/
structure Bs where
  H : Hp
  O : List Addr
  T : Option (Sl × V × List Addr)
  /-- lists that stand -/
  R : List (Addr × HO)
def Bs.off (B : Bs) (a : Addr) : Prop := ∀ t, B.T = some t → a ∉ t.2.2
def Frame (B : Bs) (H : Hp) : Prop := ∀ a o, B.H a = some o → ∃ o', H a = some o' ∧ (a ∉ B.O → B.off a → o' = o) ∧ (still o = true → o' = o)
def TpSt (B : Bs) (H : Hp) : Prop := ∀ t, B.T = some t → t.1.own H t.2.1 t.2.2
structure En (B : Bs) (Γ : List Ety) (σ : List (Option V)) (H : Hp) (fp : Nat → List Addr) : Prop where
  len : σ.length = Γ.length
  sl : ∀ (i : Nat) (S : Sl), Γ[i]? = some (.sl S) → ∃ v, σ[i]? = some (some v) ∧ S.own H v (fp i)
  tp : ∀ (i : Nat) (S : Sl), Γ[i]? = some (.tp S) → ∃ v fq, B.T = some (S, v, fq) ∧ σ[i]? = some (some v)
  off : ∀ (i : Nat), (∀ S : Sl, Γ[i]? ≠ some (.sl S)) → fp i = []
  dis : ∀ (i j : Nat) (a : Addr), a ∈ fp i → a ∈ fp j → i = j
  nt : ∀ (i : Nat) (a : Addr), a ∈ fp i → B.off a
  new : ∀ (i : Nat) (a : Addr) (S : Sl), Γ[i]? = some (.sl S) → S.ro = false → a ∈ fp i → B.H a = none ∨ a ∈ B.O
  rd : ∀ (i : Nat) (K : PySem.W.Frag) (ds : List PyData), Γ[i]? = some (.rd K ds) → ∃ (p : Addr) (vs : List V), ((p, HO.lst vs) ∈ B.R ∨ ∀ H', SqL K H' p vs) ∧ σ[i]? = some (some (.ref p)) ∧ FzAll K H vs ds
  rb : ∀ (i : Nat) (S : Sl), Γ[i]? = some (.rb S) → ∃ v fq, σ[i]? = some (some v) ∧ S.own H v fq ∧ ∀ a ∈ fq, ∃ o, (a, o) ∈ B.R
  rr : ∀ r, r ∈ B.R → Rd H r.1 r.2 ∧ B.off r.1 ∧ ∀ (i : Nat), r.1 ∉ fp i
  fr : Frame B H
  tps : TpSt B H
/-- behind an expression: all stands but the tape -/
structure Stp (B : Bs) (H H' : Hp) : Prop where
  kp : ∀ a o, H a = some o → B.off a → H' a = some o
  ts : TpSt B H'
section
variable {K : PySem.W.Frag} {B : Bs} {Γ : List Ety} {σ : List (Option V)} {H H' H'' : Hp} {fp : Nat → List Addr} {a p : Addr} {o : HO}
theorem TpSt.notstill (h : TpSt B H) (e : H a = some o) (st : still o = true) : B.off a := fun t ht hm => by
  obtain ⟨o', e', st'⟩ := t.1.dom (h t ht) hm
  rw [e] at e'
  cases e'
  rw [st] at st'; cases st'
theorem TpSt.new (h : TpSt B H) (e : H a = none) : B.off a := fun t ht hm => by
  obtain ⟨o', e', _⟩ := t.1.dom (h t ht) hm
  rw [e] at e'; cases e'
theorem Stp.refl (h : TpSt B H) : Stp B H H := ⟨fun _ _ e _ => e, h⟩
theorem Stp.trans (a : Stp B H H') (b : Stp B H' H'') : Stp B H H'' := ⟨fun x o e n => b.kp x o (a.kp x o e n) n, b.ts⟩
theorem Stp.stay (h : TpSt B H) (a : Stp B H H') : Stay H H' := fun x o e z => a.kp x o e (h.notstill e z)
theorem TpSt.same (h : TpSt B H) (s : ∀ a o, H a = some o → H' a = some o) : TpSt B H' := fun t ht => t.1.keep (h t ht) fun a o e _ => s a o e
theorem Stp.same (h : TpSt B H) (s : ∀ a o, H a = some o → H' a = some o) : Stp B H H' := ⟨fun x o e _ => s x o e, h.same s⟩
theorem upd_keeps (h : H p = none) : ∀ a u, H a = some u → upd H p o a = some u := fun a u e => by
  rw [upd_ne (ne_of_none e h)]
  exact e
theorem Stp.new (h : TpSt B H) (e : H p = none) : Stp B H (upd H p o) := Stp.same h (upd_keeps e)
theorem Stp.dom (h : TpSt B H) (s : Stp B H H') (e : H a = some o) : ∃ o', H' a = some o' := by
  by_cases q : B.off a
  · exact ⟨o, s.kp a o e q⟩
  · unfold Bs.off at q
    simp only [Classical.not_forall] at q
    obtain ⟨t, ht, q⟩ := q
    obtain ⟨o', e', _⟩ := t.1.dom (s.ts t ht) (Classical.byContradiction fun z => q z)
    exact ⟨o', e'⟩
theorem Stp.back (h : TpSt B H) (s : Stp B H H') (e : H' a = none) : H a = none := by
  cases q : H a with
  | none => rfl
  | some o =>
    obtain ⟨o', e'⟩ := s.dom h q
    rw [e'] at e; cases e
theorem Frame.step (f : Frame B H) (h : TpSt B H) (s : Stp B H H') : Frame B H' := fun a o e => by
  obtain ⟨o', e1, e2, e3⟩ := f a o e
  obtain ⟨o'', e4⟩ := s.dom h e1
  refine ⟨o'', e4, fun n1 n2 => ?_, fun z => ?_⟩
  · have := s.kp a o' e1 n2
    rw [e4] at this
    exact (Option.some.inj this).trans (e2 n1 n2)
  · have e5 := e3 z
    subst e5
    have := s.kp a _ e1 (h.notstill e1 z)
    rw [e4] at this
    exact Option.some.inj this
theorem Stp.rd {u : HO} (s : Stp B H H') (h : B.off a) (r : Rd H a u) : Rd H' a u := by
  rcases r with r | ⟨o, r⟩
  · exact .inl (s.kp _ _ r h)
  · exact .inr ⟨o, s.kp _ _ r h⟩
theorem En.step (en : En B Γ σ H fp) (s : Stp B H H') : En B Γ σ H' fp where
  len := en.len
  sl := fun i S hi => by
    obtain ⟨v, h1, h2⟩ := en.sl i S hi
    refine ⟨v, h1, S.keep h2 fun a o e z => ?_⟩
    rcases z with z | z
    · exact s.kp a o e (en.nt i a z)
    · exact s.kp a o e (en.tps.notstill e z)
  tp := en.tp
  off := en.off
  dis := en.dis
  nt := en.nt
  new := en.new
  rd := fun i K ds hi => by
    obtain ⟨r, us, h1, h2, h3⟩ := en.rd i K ds hi
    exact ⟨r, us, h1, h2, h3.stay (s.stay en.tps)⟩
  rb := fun i S hi => by
    obtain ⟨v, fq, h1, h2, h3⟩ := en.rb i S hi
    refine ⟨v, fq, h1, S.keep h2 fun a o e z => ?_, h3⟩
    rcases z with z | z
    · obtain ⟨o', hm⟩ := h3 a z
      exact s.kp a o e (en.rr _ hm).2.1
    · exact s.kp a o e (en.tps.notstill e z)
  rr := fun r hr => by
    obtain ⟨h1, h2, h3⟩ := en.rr r hr
    exact ⟨s.rd h2 h1, h2, h3⟩
  fr := en.fr.step en.tps s
  tps := s.ts
end
end WL
/-! WL, part 2: expressions. -/
namespace WL
open PySem PySem.Spec PyProof.Rows L2

/-- what stands around a body: the written part, the wish about exceptions, the classes' values -/
structure Cn where
  K : PySem.W.Frag
  E : XK
  ct : Nat → Value × Str
inductive XnIs (C : Cn) (H : Hp) : Xn → Value → Option Addr → Prop
  | plain (c : Nat) : XnIs C H (.plain c) (C.ct c).1 none
  | num (c : Nat) (n : Int) (d : Addr) : H d = some (.xd [((C.ct c).2, .int n)]) → XnIs C H (.num c n) (C.ct c).1 (some d)
def Exok (C : Cn) (B : Bs) (X : Xn → Prop) : Prop := ∀ x v d H', X x → Frame B H' → TpSt B H' → XnIs C H' x v d → C.E v d H'

/-! ### kinds of results: the base, the heap at the start, the heap, the value -/
abbrev Rk := Bs → Hp → Hp → V → Prop
def RF (K : PySem.W.Frag) (d : PyData) : Rk := fun _ _ H v => Fz K H v d
/-- a list that may be read -/
def RdA (K : PySem.W.Frag) (B : Bs) (H : Hp) (p : Addr) (vs : List V) : Prop := (Rd H p (.lst vs) ∧ B.off p) ∨ ∀ H', SqL K H' p vs
theorem RdA.sq {K : PySem.W.Frag} {B : Bs} {H : Hp} {p : Addr} {vs : List V} (h : RdA K B H p vs) : SqL K H p vs := by
  rcases h with h | h
  · exact .inl h.1
  · exact h H
def RL (K : PySem.W.Frag) (ds : List PyData) : Rk := fun B _ H v => ∃ p vs, v = .ref p ∧ RdA K B H p vs ∧ FzAll K H vs ds
def RN (S : Sl) : Rk := fun _ H0 H v => ∃ fp, S.own H v fp ∧ ∀ a ∈ fp, H0 a = none
def RT (S : Sl) : Rk := fun B _ _ v => ∃ fq, B.T = some (S, v, fq)
/-- a thing that may be read -/
def RB (S : Sl) : Rk := fun B _ H v => ∃ fq, S.own H v fq ∧ ∀ a ∈ fq, B.off a
/-- a stable kind; H0 the start -/
def StR (R : Rk) : Prop := ∀ B H0 H1 H H' v, TpSt B H0 → TpSt B H → Stp B H H' → R B H0 H v → (∀ a, H0 a = none → H1 a = none) → R B H1 H' v
section
variable {K : PySem.W.Frag} {C : Cn} {Γ : List Ety} {α β γ δ : Type}
theorem st_F {d : PyData} : StR (RF K d) := fun B H0 H1 H H' v _ t s h _ => Fz.stay (s.stay t) h
theorem st_L {ds : List PyData} : StR (RL K ds) := fun B H0 H1 H H' v _ t s ⟨p, vs, e, hs, hz⟩ _ => by
  refine ⟨p, vs, e, ?_, hz.stay (s.stay t)⟩
  rcases hs with hs | hs
  · exact .inl ⟨s.rd hs.2 hs.1, hs.2⟩
  · exact .inr hs
theorem st_N {S : Sl} : StR (RN S) := fun B H0 H1 H H' v t0 t s ⟨fp, ho, hf⟩ hb => by
  refine ⟨fp, S.keep ho fun a o e z => ?_, fun a ha => hb a (hf a ha)⟩
  rcases z with z | z
  · exact s.kp a o e (t0.new (hf a z))
  · exact s.kp a o e (t.notstill e z)
theorem st_B {S : Sl} : StR (RB S) := fun B H0 H1 H H' v _ t s ⟨fq, ho, hf⟩ _ => by
  refine ⟨fq, S.keep ho fun a o e z => ?_, hf⟩
  rcases z with z | z
  · exact s.kp a o e (hf a z)
  · exact s.kp a o e (t.notstill e z)
theorem st_T {S : Sl} : StR (RT S) := fun B H0 H1 H H' v _ t s h _ => h

/-- a slot's thing, one's own or borrowed -/
def Has (Γ : List Ety) (i : Nat) (S : Sl) : Prop := Γ[i]? = some (.sl S) ∨ Γ[i]? = some (.rb S)
theorem En.hold {B : Bs} {σ : List (Option V)} {H : Hp} {fp : Nat → List Addr} (en : En B Γ σ H fp) {i : Nat} {S : Sl} (h : Has Γ i S) : ∃ v fq, σ[i]? = some (some v) ∧ S.own H v fq ∧ ∀ a ∈ fq, B.off a := by
  rcases h with h | h
  · obtain ⟨v, hv, ho⟩ := en.sl i S h
    exact ⟨v, fp i, hv, ho, fun a ha => en.nt i a ha⟩
  · obtain ⟨v, fq, hv, ho, hq⟩ := en.rb i S h
    exact ⟨v, fq, hv, ho, fun a ha => by
      obtain ⟨o, hm⟩ := hq a ha
      exact (en.rr _ hm).2.1⟩
/-! ### what evaluates to what -/
def EvG (C : Cn) (Γ : List Ety) (t : TE) (w : Wp α) (R : α → Rk) : Prop := ∀ (P : α → Prop) (X : Xn → Prop), w P X → ∀ B σ H fp, En B Γ σ H fp → Exok C B X →
  ∀ Q : VK, (∀ r v H', P r → Stp B H H' → R r B H H' v → Q v H') → t σ H Q
def EvT (C : Cn) (Γ : List Ety) (t : TT) (w : Wp Bool) : Prop := ∀ (P : Bool → Prop) (X : Xn → Prop), w P X → ∀ B σ H fp, En B Γ σ H fp → Exok C B X →
  ∀ Q : Bool → Hp → Prop, (∀ b H', P b → Stp B H H' → Q b H') → t σ H Q
inductive RAll (B : Bs) (H0 H : Hp) : List V → List Rk → Prop
  | nil : RAll B H0 H [] []
  | cons {v : V} {vs : List V} {R : Rk} {Rs : List Rk} : R B H0 H v → RAll B H0 H vs Rs → RAll B H0 H (v :: vs) (R :: Rs)
def EvA (C : Cn) (Γ : List Ety) (t : TA) (w : Wp α) (R : α → List Rk) : Prop := ∀ (P : α → Prop) (X : Xn → Prop), w P X → ∀ B σ H fp, En B Γ σ H fp → Exok C B X →
  ∀ Q : List V → Hp → Prop, (∀ r vs H', P r → Stp B H H' → RAll B H H' vs (R r) → Q vs H') → t σ H Q
theorem EvG.is {t : TE} {w w' : Wp α} {R : α → Rk} (h : EvG C Γ t w R) (e : w = w') : EvG C Γ t w' R := e ▸ h
theorem EvT.is {t : TT} {w w' : Wp Bool} (h : EvT C Γ t w) (e : w = w') : EvT C Γ t w' := e ▸ h
theorem EvA.is {t : TA} {w w' : Wp α} {R : α → List Rk} (h : EvA C Γ t w R) (e : w = w') : EvA C Γ t w' R := e ▸ h
theorem EvG.res {t : TE} {w : Wp α} {R R' : α → Rk} (h : EvG C Γ t w R) (e : ∀ r B H0 H v, TpSt B H0 → R r B H0 H v → R' r B H0 H v) : EvG C Γ t w R' := fun P X hw B σ H fp en ex Q q =>
  h P X hw B σ H fp en ex Q fun r v H' hp s hr => q r v H' hp s (e r B H H' v en.tps hr)
/-- another name for the result -/
theorem EvG.as {t : TE} {w : Wp α} {R : α → Rk} (f : α → β) {R' : β → Rk} (h : EvG C Γ t w R) (e : ∀ r, R' (f r) = R r) : EvG C Γ t (mapW f w) R' := fun P X hw B σ H fp en ex Q q =>
  h _ X hw B σ H fp en ex Q fun r v H' hp s hr => q (f r) v H' hp s (by rw [e]; exact hr)

/-! ### names, constants -/
theorem ev_f {i : Nat} {e : α → PyData} (x : α) (h : Γ[i]? = some (.sl (fz C.K (e x)))) : EvG C Γ (tVar i) (ret x) (fun r => RF C.K (e r)) := fun P X hw B σ H fp en ex Q q => by
  obtain ⟨v, hv, ho⟩ := en.sl i _ h
  exact ⟨v, hv, q x v H hw (.refl en.tps) ho.2⟩
theorem ev_l {i : Nat} {e : α → PyData} (xs : List α) (h : Γ[i]? = some (.sl (ls C.K (xs.map e)))) : EvG C Γ (tVar i) (ret xs) (fun r => RL C.K (r.map e)) := fun P X hw B σ H fp en ex Q q => by
  obtain ⟨v, hv, p, vs, rfl, e2, hp, hz⟩ := en.sl i _ h
  exact ⟨_, hv, q xs _ H hw (.refl en.tps) ⟨p, vs, rfl, .inl ⟨.inl hp, en.nt i p (by rw [e2]; exact List.mem_singleton.mpr rfl)⟩, hz⟩⟩
theorem ev_r {i : Nat} {e : α → PyData} (xs : List α) (h : Γ[i]? = some (.rd C.K (xs.map e))) : EvG C Γ (tVar i) (ret xs) (fun r => RL C.K (r.map e)) := fun P X hw B σ H fp en ex Q q => by
  obtain ⟨r, us, hr, hv, hz⟩ := en.rd i _ _ h
  refine ⟨_, hv, q xs _ H hw (.refl en.tps) ⟨r, us, rfl, ?_, hz⟩⟩
  rcases hr with hr | hr
  · obtain ⟨h1, h2, _⟩ := en.rr _ hr
    exact .inl ⟨h1, h2⟩
  · exact .inr hr
theorem ev_t {i : Nat} {S : Sl} (h : Γ[i]? = some (.tp S)) : EvG C Γ (tVar i) (ret ()) (fun _ => RT S) := fun P X hw B σ H fp en ex Q q => by
  obtain ⟨v, fq, ht, hv⟩ := en.tp i S h
  exact ⟨_, hv, q () _ H hw (.refl en.tps) ⟨fq, ht⟩⟩
theorem ev_int {n : Int} : EvG C Γ (tC (.int n)) (ret n) (fun r => RF C.K (eI r)) := fun P X hw B σ H fp en ex Q q => q n _ H hw (.refl en.tps) (.int n)
theorem ev_bl {b : Bool} : EvG C Γ (tC (.bl b)) (ret b) (fun r => RF C.K (eB r)) := fun P X hw B σ H fp en ex Q q => q b _ H hw (.refl en.tps) (.bl b)
theorem ev_str {x : Str} : EvG C Γ (tC (.str x)) (ret x) (fun r => RF C.K (eS r)) := fun P X hw B σ H fp en ex Q q => q x _ H hw (.refl en.tps) (.str x)
theorem ev_non : EvG C Γ (tC .non) (ret ()) (fun r => RF C.K (eU r)) := fun P X hw B σ H fp en ex Q q => q () _ H hw (.refl en.tps) .non
theorem ev_nonO {e : α → PyData} : EvG C Γ (tC .non) (ret none) (fun r => RF C.K (eO e r)) := fun P X hw B σ H fp en ex Q q => q none _ H hw (.refl en.tps) .non
/-- a thing where a thing or None is wanted -/
theorem ev_some {t : TE} {w : Wp α} {e : α → PyData} (h : EvG C Γ t w (fun r => RF C.K (e r))) : EvG C Γ t (mapW some w) (fun r => RF C.K (eO e r)) := h.as some fun _ => rfl
theorem ev_data {t : TE} {w : Wp α} {e : α → PyData} (h : EvG C Γ t w (fun r => RF C.K (e r))) : EvG C Γ t (mapW e w) (fun r => RF C.K (eD r)) := h.as e fun _ => rfl

/-! ### operators, by values -/
def OpG (C : Cn) (r : R2) (R1 R2' : Rk) (w : Wp γ) (R : γ → Rk) : Prop := ∀ (P : γ → Prop) (X : Xn → Prop), w P X → ∀ B H0 H x y, TpSt B H0 → TpSt B H → (∀ a, H a = none → H0 a = none) → R1 B H0 H x → R2' B H0 H y →
  ∀ Q : VK, (∀ z v H', P z → Stp B H H' → R z B H0 H' v → Q v H') → r x y H Q
theorem Stp.back' {B : Bs} {H H' : Hp} (t : TpSt B H) (s : Stp B H H') : ∀ a, H' a = none → H a = none := fun _ e => s.back t e
theorem ev_op {r : R2} {ta tb : TE} {wa : Wp α} {wb : α → Wp β} {Ra : α → Rk} {Rb : α → β → Rk} {w : α → β → Wp γ} {R : γ → Rk} (ha : EvG C Γ ta wa Ra) (hb : ∀ a, EvG C Γ tb (wb a) (Rb a)) (hr : ∀ a b, OpG C r (Ra a) (Rb a b) (w a b) R)
    (sa : ∀ a, StR (Ra a)) (sb : ∀ a b, StR (Rb a b)) : EvG C Γ (tOp r ta tb) (bnd wa fun a => bnd (wb a) fun b => w a b) R := fun P X hw B σ H fp en ex Q q => by
  refine ha _ X hw B σ H fp en ex _ fun a x H1 h1 s1 r1 => ?_
  refine hb a _ X h1 B σ H1 fp (en.step s1) ex _ fun b y H2 h2 s2 r2 => ?_
  have s12 := s1.trans s2
  refine hr a b P X h2 B H H2 x y en.tps s2.ts (s12.back' en.tps) (sa a B H H H1 H2 x en.tps s1.ts s2 r1 fun _ z => z) (sb a b B H1 H H2 H2 y s1.ts s2.ts (.refl s2.ts) r2 (s1.back' en.tps)) Q fun z v H3 h3 s3 r3 => ?_
  exact q z v H3 h3 (s12.trans s3) r3
def UnG (C : Cn) (r : V → Hp → VK → Prop) (R1 : Rk) (w : Wp γ) (R : γ → Rk) : Prop := ∀ (P : γ → Prop) (X : Xn → Prop), w P X → ∀ B H0 H x, TpSt B H0 → TpSt B H → (∀ a, H a = none → H0 a = none) → R1 B H0 H x →
  ∀ Q : VK, (∀ z v H', P z → Stp B H H' → R z B H0 H' v → Q v H') → r x H Q
theorem ev_un {r : V → Hp → VK → Prop} {ta : TE} {wa : Wp α} {Ra : α → Rk} {w : α → Wp γ} {R : γ → Rk} (ha : EvG C Γ ta wa Ra) (hr : ∀ a, UnG C r (Ra a) (w a) R) : EvG C Γ (tUn r ta) (bnd wa w) R := fun P X hw B σ H fp en ex Q q =>
  ha _ X hw B σ H fp en ex _ fun a x H1 h1 s1 r1 => hr a P X h1 B H H1 x en.tps s1.ts (s1.back' en.tps) r1 Q fun z v H3 h3 s3 r3 => q z v H3 h3 (s1.trans s3) r3
/-- ints -/
theorem o_I0 {g : Int → Int → V} {e : γ → PyData} {f : Int → Int → γ} (hg : ∀ H i j, Fz C.K H (g i j) (e (f i j))) (i j : Int) : OpG C (rI0 g) (RF C.K (eI i)) (RF C.K (eI j)) (ret (f i j)) (fun r => RF C.K (e r)) := fun P X hw B H0 H x y _ ts _ hx hy Q q =>
  ⟨i, j, Fz.int_inv hx, Fz.int_inv hy, q _ _ H hw (.refl ts) (hg H i j)⟩
theorem o_add (i j : Int) : OpG C (rI0 fun i j => .int (i + j)) (RF C.K (eI i)) (RF C.K (eI j)) (ret (i + j)) (fun r => RF C.K (eI r)) := o_I0 (fun _ _ _ => .int _) i j
theorem o_sub (i j : Int) : OpG C (rI0 fun i j => .int (i - j)) (RF C.K (eI i)) (RF C.K (eI j)) (ret (i - j)) (fun r => RF C.K (eI r)) := o_I0 (fun _ _ _ => .int _) i j
theorem o_lt (i j : Int) : OpG C (rI0 fun i j => .bl (decide (i < j))) (RF C.K (eI i)) (RF C.K (eI j)) (ret (decide (i < j))) (fun r => RF C.K (eB r)) := o_I0 (fun _ _ _ => .bl _) i j
theorem o_le (i j : Int) : OpG C (rI0 fun i j => .bl (decide (i ≤ j))) (RF C.K (eI i)) (RF C.K (eI j)) (ret (decide (i ≤ j))) (fun r => RF C.K (eB r)) := o_I0 (fun _ _ _ => .bl _) i j
theorem o_gt (i j : Int) : OpG C (rI0 fun i j => .bl (decide (j < i))) (RF C.K (eI i)) (RF C.K (eI j)) (ret (decide (j < i))) (fun r => RF C.K (eB r)) := o_I0 (fun _ _ _ => .bl _) i j
theorem o_ge (i j : Int) : OpG C (rI0 fun i j => .bl (decide (j ≤ i))) (RF C.K (eI i)) (RF C.K (eI j)) (ret (decide (j ≤ i))) (fun r => RF C.K (eB r)) := o_I0 (fun _ _ _ => .bl _) i j
theorem o_I {D : Int → Int → Prop} {g : Int → Int → V} {e : γ → PyData} {f : Int → Int → γ} (hg : ∀ H i j, Fz C.K H (g i j) (e (f i j))) (i j : Int) : OpG C (rI D g) (RF C.K (eI i)) (RF C.K (eI j)) (grd (D i j) (ret (f i j))) (fun r => RF C.K (e r)) := fun P X hw B H0 H x y _ ts _ hx hy Q q =>
  ⟨i, j, Fz.int_inv hx, Fz.int_inv hy, hw.1, q _ _ H hw.2 (.refl ts) (hg H i j)⟩
theorem o_mul (i j : Int) : OpG C (rI CMul fun i j => .int (i * j)) (RF C.K (eI i)) (RF C.K (eI j)) (grd (CMul i j) (ret (i * j))) (fun r => RF C.K (eI r)) := o_I (fun _ _ _ => .int _) i j
theorem o_fdiv (i j : Int) : OpG C (rI CDivN fun i j => .int (i.fdiv j)) (RF C.K (eI i)) (RF C.K (eI j)) (grd (CDivN i j) (ret (i.fdiv j))) (fun r => RF C.K (eI r)) := o_I (fun _ _ _ => .int _) i j
theorem o_mod (i j : Int) : OpG C (rI (fun _ j => j ≠ 0) fun i j => .int (i.fmod j)) (RF C.K (eI i)) (RF C.K (eI j)) (grd (j ≠ 0) (ret (i.fmod j))) (fun r => RF C.K (eI r)) := o_I (fun _ _ _ => .int _) i j
theorem u_neg (i : Int) : UnG C (rU fun i => .int (-i)) (RF C.K (eI i)) (ret (-i)) (fun r => RF C.K (eI r)) := fun P X hw B H0 H x _ ts _ hx Q q => ⟨i, Fz.int_inv hx, q _ _ H hw (.refl ts) (.int _)⟩
/-- == of ints, texts, bools alike -/
theorem o_eqI (i j : Int) : OpG C rEq (RF C.K (eI i)) (RF C.K (eI j)) (ret (decide (i = j))) (fun r => RF C.K (eB r)) := fun P X hw B H0 H x y _ ts _ hx hy Q q => by
  have e1 := Fz.int_inv (n := i) hx
  have e2 := Fz.int_inv (n := j) hy
  subst e1
  subst e2
  refine ⟨rfl, q _ _ H hw (.refl ts) ?_⟩
  rw [show decide (V.int i = V.int j) = decide (i = j) from by
    by_cases e : i = j
    · subst e; simp
    · rw [decide_eq_false e, decide_eq_false (fun z => e (V.int.inj z))]]
  exact .bl _
theorem o_neI (i j : Int) : OpG C rNe (RF C.K (eI i)) (RF C.K (eI j)) (ret (!decide (i = j))) (fun r => RF C.K (eB r)) := fun P X hw B H0 H x y _ ts _ hx hy Q q => by
  have e1 := Fz.int_inv (n := i) hx
  have e2 := Fz.int_inv (n := j) hy
  subst e1
  subst e2
  refine ⟨rfl, q _ _ H hw (.refl ts) ?_⟩
  rw [show decide (V.int i = V.int j) = decide (i = j) from by
    by_cases e : i = j
    · subst e; simp
    · rw [decide_eq_false e, decide_eq_false (fun z => e (V.int.inj z))]]
  exact .bl _
theorem o_eqS (i j : Str) : OpG C rEq (RF C.K (eS i)) (RF C.K (eS j)) (ret (decide (i = j))) (fun r => RF C.K (eB r)) := fun P X hw B H0 H x y _ ts _ hx hy Q q => by
  have e1 := Fz.str_inv (x := i) hx
  have e2 := Fz.str_inv (x := j) hy
  subst e1
  subst e2
  refine ⟨rfl, q _ _ H hw (.refl ts) ?_⟩
  rw [show decide (V.str i = V.str j) = decide (i = j) from by
    by_cases e : i = j
    · subst e; simp
    · rw [decide_eq_false e, decide_eq_false (fun z => e (V.str.inj z))]]
  exact .bl _
theorem o_neS (i j : Str) : OpG C rNe (RF C.K (eS i)) (RF C.K (eS j)) (ret (!decide (i = j))) (fun r => RF C.K (eB r)) := fun P X hw B H0 H x y _ ts _ hx hy Q q => by
  have e1 := Fz.str_inv (x := i) hx
  have e2 := Fz.str_inv (x := j) hy
  subst e1
  subst e2
  refine ⟨rfl, q _ _ H hw (.refl ts) ?_⟩
  rw [show decide (V.str i = V.str j) = decide (i = j) from by
    by_cases e : i = j
    · subst e; simp
    · rw [decide_eq_false e, decide_eq_false (fun z => e (V.str.inj z))]]
  exact .bl _
def isN : PyData → Bool
  | .none => true
  | _ => false
theorem fz_non {H : Hp} {v : V} {d : PyData} (h : Fz K H v d) : decide (v = .non) = isN d := by
  cases h <;> rfl
/-- x is None, x is not None -/
abbrev rIsN : R2 := fun x y H Q => y = .non ∧ Q (.bl (decide (x = .non))) H
abbrev rNotN : R2 := fun x y H Q => y = .non ∧ Q (.bl (!decide (x = .non))) H
theorem o_isN (d : PyData) (u : Unit) : OpG C rIsN (RF C.K d) (RF C.K (eU u)) (ret (isN d)) (fun r => RF C.K (eB r)) := fun P X hw B H0 H x y _ ts _ hx hy Q q => by
  refine ⟨Fz.non_inv hy, q _ _ H hw (.refl ts) ?_⟩
  rw [fz_non hx]
  exact .bl _
theorem o_notN (d : PyData) (u : Unit) : OpG C rNotN (RF C.K d) (RF C.K (eU u)) (ret (!isN d)) (fun r => RF C.K (eB r)) := fun P X hw B H0 H x y _ ts _ hx hy Q q => by
  refine ⟨Fz.non_inv hy, q _ _ H hw (.refl ts) ?_⟩
  rw [fz_non hx]
  exact .bl _
/-- of a thing or None -/
theorem o_isNO {e : α → PyData} (he : ∀ a, isN (e a) = false) (o : Option α) (u : Unit) : OpG C rIsN (RF C.K (eO e o)) (RF C.K (eU u)) (ret o.isNone) (fun r => RF C.K (eB r)) := by
  have h := o_isN (C := C) (eO e o) u
  have e2 : isN (eO e o) = o.isNone := by
    cases o with
    | none => rfl
    | some a => exact he a
  rw [e2] at h
  exact h
theorem o_notNO {e : α → PyData} (he : ∀ a, isN (e a) = false) (o : Option α) (u : Unit) : OpG C rNotN (RF C.K (eO e o)) (RF C.K (eU u)) (ret o.isSome) (fun r => RF C.K (eB r)) := by
  have h := o_notN (C := C) (eO e o) u
  have e2 : (!isN (eO e o)) = o.isSome := by
    cases o with
    | none => rfl
    | some a =>
      rw [show isN (eO e (some a)) = false from he a]
      rfl
  rw [e2] at h
  exact h
/-- == and != of data -/
theorem o_eqD (d d' : PyData) : OpG C (rEqD C.K) (RF C.K d) (RF C.K d') (grd (SeqAt.shaped d = true ∧ SeqAt.shaped d' = true) (ret (PyData.eqv d d'))) (fun r => RF C.K (eB r)) := fun P X hw B H0 H x y _ ts _ hx hy Q q =>
  ⟨d, d', hx.dp, hy.dp, hw.1.1, hw.1.2, q _ _ H hw.2 (.refl ts) (.bl _)⟩
theorem o_neD (d d' : PyData) : OpG C (rNeD C.K) (RF C.K d) (RF C.K d') (grd (SeqAt.shaped d = true ∧ SeqAt.shaped d' = true) (ret (!PyData.eqv d d'))) (fun r => RF C.K (eB r)) := fun P X hw B H0 H x y _ ts _ hx hy Q q =>
  ⟨d, d', hx.dp, hy.dp, hw.1.1, hw.1.2, q _ _ H hw.2 (.refl ts) (.bl _)⟩
theorem rl_dp {B : Bs} {H0 H : Hp} {v : V} {ds : List PyData} (h : RL K ds B H0 H v) : Dp K H v (.list ds) := by
  obtain ⟨p, vs, rfl, hs, hz⟩ := h
  exact .lst hs.sq hz.dp
theorem o_eqL (d d' : List PyData) : OpG C (rEqD C.K) (RL C.K d) (RL C.K d') (grd (SeqAt.shaped (.list d) = true ∧ SeqAt.shaped (.list d') = true) (ret (PyData.eqv (.list d) (.list d')))) (fun r => RF C.K (eB r)) := fun P X hw B H0 H x y _ ts _ hx hy Q q =>
  ⟨_, _, rl_dp hx, rl_dp hy, hw.1.1, hw.1.2, q _ _ H hw.2 (.refl ts) (.bl _)⟩
theorem o_neL (d d' : List PyData) : OpG C (rNeD C.K) (RL C.K d) (RL C.K d') (grd (SeqAt.shaped (.list d) = true ∧ SeqAt.shaped (.list d') = true) (ret (!PyData.eqv (.list d) (.list d')))) (fun r => RF C.K (eB r)) := fun P X hw B H0 H x y _ ts _ hx hy Q q =>
  ⟨_, _, rl_dp hx, rl_dp hy, hw.1.1, hw.1.2, q _ _ H hw.2 (.refl ts) (.bl _)⟩

/-! ### places -/
theorem atI_fz {H : Hp} {vs : List V} {e : α → PyData} {xs : List α} {i : Int} {x : α} (hz : FzAll K H vs (xs.map e)) (h : atI xs i = some x) : ∃ v, atI vs i = some v ∧ Fz K H v (e x) := by
  have hl : vs.length = xs.length := by rw [hz.length, List.length_map]
  unfold atI at h ⊢
  rw [hl]
  cases q : ixN xs.length i with
  | none => rw [q] at h; cases h
  | some j =>
    rw [q] at h
    have h' : xs[j]? = some x := h
    obtain ⟨v, h1, h2⟩ := hz.get (i := j) (d := e x) (by rw [List.getElem?_map, h']; rfl)
    exact ⟨v, h1, h2⟩
/-- t[i], t a row of things alike -/
theorem o_ixT {e : α → PyData} (xs : List α) (i : Int) : OpG C (rIxT C.K) (RF C.K (eT e xs)) (RF C.K (eI i)) (opt (atI xs i)) (fun r => RF C.K (e r)) := fun P X ⟨x, hx, hp⟩ B H0 H v y _ ts _ hv hy Q q => by
  obtain ⟨a, vs, rfl, hs, hz⟩ := Fz.tup_inv hv
  obtain ⟨u, h1, h2⟩ := atI_fz hz hx
  exact ⟨a, vs, i, u, rfl, Fz.int_inv hy, hs, h1, q x u H hp (.refl ts) h2⟩
theorem o_ixL {e : α → PyData} (xs : List α) (i : Int) : OpG C (rIxL C.K) (RL C.K (xs.map e)) (RF C.K (eI i)) (opt (atI xs i)) (fun r => RF C.K (e r)) := fun P X ⟨x, hx, hp⟩ B H0 H v y _ ts _ hv hy Q q => by
  obtain ⟨a, vs, rfl, hs, hz⟩ := hv
  obtain ⟨u, h1, h2⟩ := atI_fz hz hx
  exact ⟨a, vs, i, u, rfl, Fz.int_inv hy, hs.sq, h1, q x u H hp (.refl ts) h2⟩
/-- a written place of a tuple of a fixed form: h by rfl -/
theorem o_ixW {e' : γ → PyData} (ds : List PyData) (k : Nat) (z : γ) (h : ds[k]? = some (e' z)) : OpG C (rIxT C.K) (RF C.K (.tuple ds)) (RF C.K (eI (k : Int))) (ret z) (fun r => RF C.K (e' r)) := fun P X hw B H0 H v y _ ts _ hv hy Q q => by
  obtain ⟨a, vs, rfl, hs, hz⟩ := Fz.tup_inv hv
  obtain ⟨u, h1, h2⟩ := hz.get h
  exact ⟨a, vs, (k : Int), u, rfl, Fz.int_inv hy, hs, atI_nat h1, q z u H hw (.refl ts) h2⟩

/-! ### tests -/
theorem et_test {t : TE} {w : Wp Bool} (h : EvG C Γ t w (fun r => RF C.K (eB r))) : EvT C Γ (tTest t) w := fun P X hw B σ H fp en ex Q q =>
  h P X hw B σ H fp en ex _ fun r v H' hp s hr => ⟨r, Fz.bl_inv hr, q r H' hp s⟩
theorem et_B {t : TE} {w : Wp Bool} (h : EvG C Γ t w (fun r => RF C.K (eB r))) : EvT C Γ (tB t) w := fun P X hw B σ H fp en ex Q q =>
  h P X hw B σ H fp en ex _ fun r v H' hp s hr => ⟨r, Fz.bl_inv hr, q r H' hp s⟩
theorem et_and {t u : TT} {w : Wp Bool} {w' : Wp Bool} (h : EvT C Γ t w) (h' : EvT C Γ u w') : EvT C Γ (tAnd t u) (bnd w fun b => sel b w' (ret false)) := fun P X hw B σ H fp en ex Q q =>
  h _ X hw B σ H fp en ex _ fun b H1 hp s => by
    cases b with
    | true =>
      show u σ H1 Q
      exact h' P X hp B σ H1 fp (en.step s) ex Q fun b2 H2 hp2 s2 => q b2 H2 hp2 (s.trans s2)
    | false =>
      show Q false H1
      exact q false H1 hp s
theorem et_or {t u : TT} {w : Wp Bool} {w' : Wp Bool} (h : EvT C Γ t w) (h' : EvT C Γ u w') : EvT C Γ (tOr t u) (bnd w fun b => sel b (ret true) w') := fun P X hw B σ H fp en ex Q q =>
  h _ X hw B σ H fp en ex _ fun b H1 hp s => by
    cases b with
    | false =>
      show u σ H1 Q
      exact h' P X hp B σ H1 fp (en.step s) ex Q fun b2 H2 hp2 s2 => q b2 H2 hp2 (s.trans s2)
    | true =>
      show Q true H1
      exact q true H1 hp s
theorem et_not {t : TT} {w : Wp Bool} (h : EvT C Γ t w) : EvT C Γ (tNot t) (bnd w fun b => ret (!b)) := fun P X hw B σ H fp en ex Q q =>
  h _ X hw B σ H fp en ex _ fun b H1 hp s => q (!b) H1 hp s
theorem ev_andV {ta tb : TE} {w : Wp Bool} {w' : Wp Bool} (h : EvG C Γ ta w (fun r => RF C.K (eB r))) (h' : EvG C Γ tb w' (fun r => RF C.K (eB r))) : EvG C Γ (tAndV ta tb) (bnd w fun b => sel b w' (ret false)) (fun r => RF C.K (eB r)) := fun P X hw B σ H fp en ex Q q =>
  h _ X hw B σ H fp en ex _ fun b v H1 hp s hr => ⟨b, Fz.bl_inv hr, by
    cases b with
    | true =>
      show tb σ H1 Q
      exact h' P X hp B σ H1 fp (en.step s) ex Q fun b2 v2 H2 hp2 s2 r2 => q b2 v2 H2 hp2 (s.trans s2) r2
    | false =>
      show Q (.bl false) H1
      exact q false _ H1 hp s (.bl false)⟩
theorem ev_orV {ta tb : TE} {w : Wp Bool} {w' : Wp Bool} (h : EvG C Γ ta w (fun r => RF C.K (eB r))) (h' : EvG C Γ tb w' (fun r => RF C.K (eB r))) : EvG C Γ (tOrV ta tb) (bnd w fun b => sel b (ret true) w') (fun r => RF C.K (eB r)) := fun P X hw B σ H fp en ex Q q =>
  h _ X hw B σ H fp en ex _ fun b v H1 hp s hr => ⟨b, Fz.bl_inv hr, by
    cases b with
    | false =>
      show tb σ H1 Q
      exact h' P X hp B σ H1 fp (en.step s) ex Q fun b2 v2 H2 hp2 s2 r2 => q b2 v2 H2 hp2 (s.trans s2) r2
    | true =>
      show Q (.bl true) H1
      exact q true _ H1 hp s (.bl true)⟩
theorem ev_notV {ta : TE} {w : Wp Bool} (h : EvG C Γ ta w (fun r => RF C.K (eB r))) : EvG C Γ (tNotV ta) (bnd w fun b => ret (!b)) (fun r => RF C.K (eB r)) := fun P X hw B σ H fp en ex Q q =>
  h _ X hw B σ H fp en ex _ fun b v H1 hp s hr => ⟨b, Fz.bl_inv hr, q (!b) _ H1 hp s (.bl _)⟩
theorem ev_if {t : TT} {ta tb : TE} {w : Wp Bool} {wa wb : Wp α} {R : α → Rk} (h : EvT C Γ t w) (h1 : EvG C Γ ta wa R) (h2 : EvG C Γ tb wb R) (sr : ∀ r, StR (R r)) : EvG C Γ (tIf t ta tb) (bnd w fun b => sel b wa wb) R := fun P X hw B σ H fp en ex Q q =>
  h _ X hw B σ H fp en ex _ fun b H1 hp s => by
    cases b with
    | true =>
      show ta σ H1 Q
      exact h1 P X hp B σ H1 fp (en.step s) ex Q fun r v H2 hp2 s2 r2 => q r v H2 hp2 (s.trans s2) (sr r B H1 H H2 H2 v s.ts s2.ts (.refl s2.ts) r2 (s.back' en.tps))
    | false =>
      show tb σ H1 Q
      exact h2 P X hp B σ H1 fp (en.step s) ex Q fun r v H2 hp2 s2 r2 => q r v H2 hp2 (s.trans s2) (sr r B H1 H H2 H2 v s.ts s2.ts (.refl s2.ts) r2 (s.back' en.tps))
/-- a op b op' c -/
theorem ev_chain {r r' : R2} {ta tb tc : TE} {wa : Wp α} {wb : Wp β} {wc : Wp γ} {Ra : α → Rk} {Rb : β → Rk} {Rc : γ → Rk} {w : α → β → Wp Bool} {w' : β → γ → Wp Bool} (ha : EvG C Γ ta wa Ra) (hb : EvG C Γ tb wb Rb) (hc : EvG C Γ tc wc Rc)
    (hr : ∀ a b, OpG C r (Ra a) (Rb b) (w a b) (fun r => RF C.K (eB r))) (hr' : ∀ b c, OpG C r' (Rb b) (Rc c) (w' b c) (fun r => RF C.K (eB r))) (sa : ∀ a, StR (Ra a)) (sb : ∀ b, StR (Rb b)) (sc : ∀ c, StR (Rc c)) :
    EvG C Γ (tChain r r' ta tb tc) (bnd wa fun a => bnd wb fun b => bnd (w a b) fun k => sel k (bnd wc fun c => w' b c) (ret false)) (fun r => RF C.K (eB r)) := fun P X hw B σ H fp en ex Q q => by
  refine ha _ X hw B σ H fp en ex _ fun a x H1 h1 s1 r1 => ?_
  refine hb _ X h1 B σ H1 fp (en.step s1) ex _ fun b y H2 h2 s2 r2 => ?_
  have s12 := s1.trans s2
  have rb := sb b B H1 H H2 H2 y s1.ts s2.ts (.refl s2.ts) r2 (s1.back' en.tps)
  refine hr a b _ X h2 B H H2 x y en.tps s2.ts (s12.back' en.tps) (sa a B H H H1 H2 x en.tps s1.ts s2 r1 fun _ z => z) rb _ fun k v H3 h3 s3 r3 => ?_
  have s13 := s12.trans s3
  refine ⟨k, Fz.bl_inv r3, ?_⟩
  cases k with
  | true =>
    show tc σ H3 _
    refine hc _ X h3 B σ H3 fp (en.step s13) ex _ fun c z H4 h4 s4 r4 => ?_
    have s14 := s13.trans s4
    exact hr' b c P X h4 B H H4 y z en.tps s4.ts (s14.back' en.tps) (sb b B H H H2 H4 y en.tps s2.ts (s3.trans s4) rb fun _ z => z) (sc c B H3 H H4 H4 z s3.ts s4.ts (.refl s4.ts) r4 (s13.back' en.tps)) Q fun z v H5 h5 s5 r5 => q z v H5 h5 (s14.trans s5) r5
  | false =>
    show Q (.bl false) H3
    exact q false _ H3 h3 s13 (.bl false)

/-! ### arguments, displays -/
theorem ea_nil : EvA C Γ tNil (ret ()) (fun _ => []) := fun P X hw B σ H fp en ex Q q => q () [] H hw (.refl en.tps) .nil
theorem RAll.stable {B : Bs} {H0 H1 H H' : Hp} (t0 : TpSt B H0) (t : TpSt B H) (s : Stp B H H') (hb : ∀ a, H0 a = none → H1 a = none) : ∀ {vs : List V} {Rs : List Rk}, (∀ R ∈ Rs, StR R) → RAll B H0 H vs Rs → RAll B H1 H' vs Rs
  | _, _, _, .nil => .nil
  | _, _, hs, .cons h r => .cons (hs _ (List.mem_cons_self) B H0 H1 H H' _ t0 t s h hb) (RAll.stable t0 t s hb (fun R hR => hs R (List.mem_cons_of_mem _ hR)) r)
theorem ea_cons {te : TE} {tr : TA} {wa : Wp α} {wr : Wp β} {Ra : α → Rk} {Rr : β → List Rk} (h : EvG C Γ te wa Ra) (hr : EvA C Γ tr wr Rr) (sa : ∀ a, StR (Ra a)) (sr : ∀ b, ∀ R ∈ Rr b, StR R) :
    EvA C Γ (tCons te tr) (bnd wa fun a => bnd wr fun r => ret (a, r)) (fun x => Ra x.1 :: Rr x.2) := fun P X hw B σ H fp en ex Q q => by
  refine h _ X hw B σ H fp en ex _ fun a x H1 h1 s1 r1 => ?_
  refine hr _ X h1 B σ H1 fp (en.step s1) ex _ fun b vs H2 h2 s2 r2 => ?_
  exact q (a, b) (x :: vs) H2 h2 (s1.trans s2) (.cons (sa a B H H H1 H2 x en.tps s1.ts s2 r1 fun _ z => z) (RAll.stable s1.ts s2.ts (.refl s2.ts) (s1.back' en.tps) (sr b) r2))
/-- all the arguments data -/
inductive AllF (K : PySem.W.Frag) : List Rk → List PyData → Prop
  | nil : AllF K [] []
  | cons {d : PyData} {Rs : List Rk} {ds : List PyData} : AllF K Rs ds → AllF K (RF K d :: Rs) (d :: ds)
theorem AllF.fz {B : Bs} {H0 H : Hp} : ∀ {Rs : List Rk} {ds : List PyData} {vs : List V}, AllF K Rs ds → RAll B H0 H vs Rs → FzAll K H vs ds
  | _, _, _, .nil, h => by cases h; exact .nil
  | _, _, _, .cons t, h => by
    cases h with
    | cons h1 h2 => exact .cons h1 (AllF.fz t h2)
/-- (a, b, ..) -/
theorem ev_tup {ta : TA} {w : Wp α} {Rs : α → List Rk} {ds : α → List PyData} (h : EvA C Γ ta w Rs) (hd : ∀ a, AllF C.K (Rs a) (ds a)) (hl : ∀ a, (ds a).length ≤ 100) : EvG C Γ (tTup ta) w (fun a => RF C.K (.tuple (ds a))) := fun P X hw B σ H fp en ex Q q =>
  h P X hw B σ H fp en ex _ fun a vs H1 h1 s1 r1 => by
    have hz := (hd a).fz r1
    have hlen := hz.length
    have h100 := hl a
    refine ⟨by rw [hlen]; exact Nat.le_trans h100 (by decide), fun p hp => ?_⟩
    have s2 : Stp B H1 (upd H1 p (.tup vs)) := .new s1.ts hp
    exact q a (.ref p) _ h1 (s1.trans s2) (.tup (.inl (.inl upd_same)) (hz.stay (s2.stay s1.ts)))
/-- [a, b, ..] -/
theorem ev_lst {ta : TA} {w : Wp α} {Rs : α → List Rk} {ds : α → List PyData} (h : EvA C Γ ta w Rs) (hd : ∀ a, AllF C.K (Rs a) (ds a)) (hl : ∀ a, (ds a).length ≤ 100) : EvG C Γ (tLst ta) w (fun a => RN (ls C.K (ds a))) := fun P X hw B σ H fp en ex Q q =>
  h P X hw B σ H fp en ex _ fun a vs H1 h1 s1 r1 => by
    have hz := (hd a).fz r1
    have hlen := hz.length
    have h100 := hl a
    refine ⟨by rw [hlen]; exact Nat.le_trans h100 (by decide), fun p hp => ?_⟩
    have s2 : Stp B H1 (upd H1 p (.lst vs)) := .new s1.ts hp
    refine q a (.ref p) _ h1 (s1.trans s2) ⟨[p], ⟨p, vs, rfl, rfl, upd_same, hz.stay (s2.stay s1.ts)⟩, fun b hb => ?_⟩
    rw [List.mem_singleton.mp hb]
    exact s1.back en.tps hp
/-- a new list may be read -/
theorem EvG.rl {t : TE} {w : Wp α} {ds : α → List PyData} (h : EvG C Γ t w (fun a => RN (ls C.K (ds a)))) : EvG C Γ t w (fun a => RL C.K (ds a)) := fun P X hw B σ H fp en ex Q q =>
  h P X hw B σ H fp en ex Q fun r v H' hp s ⟨fp', ⟨p, vs, e1, e2, e3, hz⟩, hf⟩ => q r v H' hp s ⟨p, vs, e1, .inl ⟨.inl e3, en.tps.new (hf p (by rw [e2]; exact List.mem_singleton.mpr rfl))⟩, hz⟩

/-! ### calls by values -/
def CaG (C : Cn) (r : List V → Hp → VK → Prop) (Rs : List Rk) (w : Wp γ) (R : γ → Rk) : Prop := ∀ (P : γ → Prop) (X : Xn → Prop), w P X → ∀ B H0 H vs, TpSt B H0 → TpSt B H → (∀ a, H a = none → H0 a = none) → RAll B H0 H vs Rs →
  ∀ Q : VK, (∀ z v H', P z → Stp B H H' → R z B H0 H' v → Q v H') → r vs H Q
theorem ev_cb {r : List V → Hp → VK → Prop} {ta : TA} {w : Wp α} {Rs : α → List Rk} {w' : α → Wp γ} {R : γ → Rk} (h : EvA C Γ ta w Rs) (hr : ∀ a, CaG C r (Rs a) (w' a) R) : EvG C Γ (tCB r ta) (bnd w w') R := fun P X hw B σ H fp en ex Q q =>
  h _ X hw B σ H fp en ex _ fun a vs H1 h1 s1 r1 => hr a P X h1 B H H1 vs en.tps s1.ts (s1.back' en.tps) r1 Q fun z v H2 h2 s2 r2 => q z v H2 h2 (s1.trans s2) r2
end
end WL
/-! WL, part 3: slots stored, what is walked, comprehensions, built-ins. -/
namespace WL
open PySem PySem.Spec PyProof.Rows L2

/-! ### slots -/
section
variable {K : PySem.W.Frag} {B : Bs} {Γ : List Ety} {σ : List (Option V)} {H H' : Hp} {fp : Nat → List Addr}
def put (fp : Nat → List Addr) (i : Nat) (q : List Addr) : Nat → List Addr := fun j => if j = i then q else fp j
theorem put_same (i : Nat) (q : List Addr) : put fp i q i = q := by unfold put; rw [if_pos rfl]
theorem put_ne {i j : Nat} {q : List Addr} (h : j ≠ i) : put fp i q j = fp j := by unfold put; rw [if_neg h]
theorem En.lt (en : En B Γ σ H fp) {i : Nat} {a : Addr} (h : a ∈ fp i) : ∃ S : Sl, Γ[i]? = some (.sl S) := by
  apply Classical.byContradiction
  intro z
  have := en.off i fun S hS => z ⟨S, hS⟩
  rw [this] at h; cases h
theorem rd_upd {a p : Addr} {u o : HO} (hne : a ≠ p) (h : Rd H a u) : Rd (upd H p o) a u := by
  rcases h with h | ⟨x, h⟩
  · exact .inl (by rw [upd_ne hne]; exact h)
  · exact .inr ⟨x, by rw [upd_ne hne]; exact h⟩
theorem rd_new {a : Addr} {u : HO} (h : Rd H a u) (n : H a = none) : False := by
  rcases h with h | ⟨o, h⟩ <;> rw [n] at h <;> cases h
/-- a name is stored -/
theorem En.put (en : En B Γ σ H fp) {i : Nat} {S : Sl} {v : V} {q : List Addr} (hi : i < Γ.length) (ho : S.own H v q) (hd : ∀ a ∈ q, ∀ j, a ∈ fp j → j = i) (ht : ∀ a ∈ q, B.off a) (hn : S.ro = false → ∀ a ∈ q, B.H a = none ∨ a ∈ B.O) (hR : ∀ r ∈ B.R, r.1 ∉ q) :
    En B (Γ.set i (.sl S)) (σ.set i (some v)) H (put fp i q) where
  len := by rw [List.length_set, List.length_set]; exact en.len
  sl := fun j S' hj => by
    by_cases e : j = i
    · subst e
      rw [List.getElem?_set_self hi] at hj
      cases hj
      rw [put_same]
      exact ⟨v, List.getElem?_set_self (by rw [en.len]; exact hi), ho⟩
    · rw [List.getElem?_set_ne (Ne.symm e)] at hj
      rw [put_ne e, List.getElem?_set_ne (Ne.symm e)]
      exact en.sl j S' hj
  tp := fun j T hj => by
    by_cases e : j = i
    · subst e
      rw [List.getElem?_set_self hi] at hj
      cases hj
    · rw [List.getElem?_set_ne (Ne.symm e)] at hj
      rw [List.getElem?_set_ne (Ne.symm e)]
      exact en.tp j T hj
  off := fun j hj => by
    by_cases e : j = i
    · subst e
      exact absurd (List.getElem?_set_self hi) (hj S)
    · rw [put_ne e]
      exact en.off j fun S' z => hj S' (by rw [List.getElem?_set_ne (Ne.symm e)]; exact z)
  dis := fun j k a hj hk => by
    by_cases e : j = i
    · subst e
      rw [put_same] at hj
      by_cases e2 : k = j
      · exact e2.symm
      · rw [put_ne e2] at hk
        exact (hd a hj k hk).symm
    · rw [put_ne e] at hj
      by_cases e2 : k = i
      · subst e2
        rw [put_same] at hk
        exact hd a hk j hj
      · rw [put_ne e2] at hk
        exact en.dis j k a hj hk
  nt := fun j a hj => by
    by_cases e : j = i
    · subst e
      rw [put_same] at hj
      exact ht a hj
    · rw [put_ne e] at hj
      exact en.nt j a hj
  new := fun j a S' hj hr ha => by
    by_cases e : j = i
    · subst e
      rw [List.getElem?_set_self hi] at hj
      cases hj
      rw [put_same] at ha
      exact hn hr a ha
    · rw [List.getElem?_set_ne (Ne.symm e)] at hj
      rw [put_ne e] at ha
      exact en.new j a S' hj hr ha
  rd := fun j K' ds hj => by
    by_cases e : j = i
    · subst e
      rw [List.getElem?_set_self hi] at hj
      cases hj
    · rw [List.getElem?_set_ne (Ne.symm e)] at hj
      rw [List.getElem?_set_ne (Ne.symm e)]
      exact en.rd j K' ds hj
  rb := fun j T hj => by
    by_cases e : j = i
    · subst e
      rw [List.getElem?_set_self hi] at hj
      cases hj
    · rw [List.getElem?_set_ne (Ne.symm e)] at hj
      rw [List.getElem?_set_ne (Ne.symm e)]
      exact en.rb j T hj
  rr := fun r hr => by
    obtain ⟨h1, h2, h3⟩ := en.rr r hr
    refine ⟨h1, h2, fun j hj => ?_⟩
    by_cases e : j = i
    · subst e
      rw [put_same] at hj
      exact hR r hr hj
    · rw [put_ne e] at hj
      exact h3 j hj
  fr := en.fr
  tps := en.tps
/-- data is stored -/
theorem En.putF (en : En B Γ σ H fp) {i : Nat} {v : V} {d : PyData} (hi : i < Γ.length) (h : Fz K H v d) : En B (Γ.set i (.sl (fz K d))) (σ.set i (some v)) H (WL.put fp i []) :=
  en.put hi ⟨rfl, h⟩ (fun a z => absurd z (by simp)) (fun a z => absurd z (by simp)) (fun _ a z => absurd z (by simp)) fun r _ z => absurd z (by simp)
/-- a new thing is stored; H0: where it was new -/
theorem En.putN (en : En B Γ σ H fp) {i : Nat} {S : Sl} {v : V} {q : List Addr} {H0 : Hp} (hi : i < Γ.length) (ho : S.own H v q) (en0 : En B Γ σ H0 fp) (hf : ∀ a ∈ q, H0 a = none) : En B (Γ.set i (.sl S)) (σ.set i (some v)) H (WL.put fp i q) := by
  refine en.put hi ho (fun a ha j hj => ?_) (fun a ha => en0.tps.new (hf a ha)) (fun _ a ha => ?_) fun r hr ha => ?_
  · obtain ⟨S', hS⟩ := en0.lt hj
    obtain ⟨v', _, ho'⟩ := en0.sl j S' hS
    obtain ⟨o, e, _⟩ := S'.dom ho' hj
    rw [hf a ha] at e; cases e
  · left
    cases e : B.H a with
    | none => rfl
    | some o =>
      obtain ⟨o', e', _⟩ := en0.fr a o e
      rw [hf a ha] at e'; cases e'
  · exact rd_new (en0.rr r hr).1 (hf _ ha)
/-- a name is forgotten; x: whatever the slot holds now -/
theorem En.drop (en : En B Γ σ H fp) (i : Nat) (x : Option V) : En B (Γ.set i .un) (σ.set i x) H (WL.put fp i []) where
  len := by rw [List.length_set, List.length_set]; exact en.len
  sl := fun j S' hj => by
    by_cases e : j = i
    · subst e
      by_cases hl : j < Γ.length
      · rw [List.getElem?_set_self hl] at hj
        cases hj
      · rw [List.getElem?_eq_none (by rw [List.length_set]; omega)] at hj
        cases hj
    · rw [List.getElem?_set_ne (Ne.symm e)] at hj
      rw [put_ne e, List.getElem?_set_ne (Ne.symm e)]
      exact en.sl j S' hj
  tp := fun j T hj => by
    by_cases e : j = i
    · subst e
      by_cases hl : j < Γ.length
      · rw [List.getElem?_set_self hl] at hj
        cases hj
      · rw [List.getElem?_eq_none (by rw [List.length_set]; omega)] at hj
        cases hj
    · rw [List.getElem?_set_ne (Ne.symm e)] at hj
      rw [List.getElem?_set_ne (Ne.symm e)]
      exact en.tp j T hj
  off := fun j hj => by
    by_cases e : j = i
    · subst e
      exact put_same j []
    · rw [put_ne e]
      exact en.off j fun S' z => hj S' (by rw [List.getElem?_set_ne (Ne.symm e)]; exact z)
  dis := fun j k a hj hk => by
    by_cases e : j = i
    · subst e
      rw [put_same] at hj
      cases hj
    · rw [put_ne e] at hj
      by_cases e2 : k = i
      · subst e2
        rw [put_same] at hk
        cases hk
      · rw [put_ne e2] at hk
        exact en.dis j k a hj hk
  nt := fun j a hj => by
    by_cases e : j = i
    · subst e
      rw [put_same] at hj
      cases hj
    · rw [put_ne e] at hj
      exact en.nt j a hj
  new := fun j a S' hj hr ha => by
    by_cases e : j = i
    · subst e
      rw [put_same] at ha
      cases ha
    · rw [List.getElem?_set_ne (Ne.symm e)] at hj
      rw [put_ne e] at ha
      exact en.new j a S' hj hr ha
  rd := fun j K' ds hj => by
    by_cases e : j = i
    · subst e
      by_cases hl : j < Γ.length
      · rw [List.getElem?_set_self hl] at hj
        cases hj
      · rw [List.getElem?_eq_none (by rw [List.length_set]; omega)] at hj
        cases hj
    · rw [List.getElem?_set_ne (Ne.symm e)] at hj
      rw [List.getElem?_set_ne (Ne.symm e)]
      exact en.rd j K' ds hj
  rb := fun j T hj => by
    by_cases e : j = i
    · subst e
      by_cases hl : j < Γ.length
      · rw [List.getElem?_set_self hl] at hj
        cases hj
      · rw [List.getElem?_eq_none (by rw [List.length_set]; omega)] at hj
        cases hj
    · rw [List.getElem?_set_ne (Ne.symm e)] at hj
      rw [List.getElem?_set_ne (Ne.symm e)]
      exact en.rb j T hj
  rr := fun r hr => by
    obtain ⟨h1, h2, h3⟩ := en.rr r hr
    refine ⟨h1, h2, fun j hj => ?_⟩
    by_cases e : j = i
    · subst e
      rw [put_same] at hj
      cases hj
    · rw [put_ne e] at hj
      exact h3 j hj
  fr := en.fr
  tps := en.tps
/-- a name is forgotten, its slot as it is -/
theorem set_id : ∀ (l : List (Option V)) (i : Nat) (x : Option V), l[i]? = some x → l.set i x = l
  | [], _, _, h => by simp at h
  | _ :: _, 0, _, h => by
    simp at h
    rw [h]
    rfl
  | a :: l, i + 1, x, h => by
    rw [List.set_cons_succ, set_id l i x (by simpa using h)]
theorem set_out {α : Type} : ∀ (l : List α) (i : Nat) (x : α), l.length ≤ i → l.set i x = l
  | [], _, _, _ => rfl
  | _ :: _, 0, _, h => by simp at h
  | a :: l, i + 1, x, h => by
    rw [List.set_cons_succ, set_out l i x (by simpa using h)]
theorem En.forget (en : En B Γ σ H fp) (i : Nat) : En B (Γ.set i .un) σ H (WL.put fp i []) := by
  cases e : σ[i]? with
  | none =>
    have hl : σ.length ≤ i := List.getElem?_eq_none_iff.mp e
    have h := en.drop i none
    rw [set_out σ i none hl] at h
    exact h
  | some x =>
    have h := en.drop i x
    rw [set_id σ i x e] at h
    exact h
/-- a list that is one's own is changed -/
theorem En.mut (en : En B Γ σ H fp) {i : Nat} {S S' : Sl} {v : V} {p : Addr} {o : HO} (hS : Γ[i]? = some (.sl S)) (hr : S.ro = false) (hv : σ[i]? = some (some v)) (hp : p ∈ fp i) (hl : ∀ q, q ∈ fp i → q = p) (ho : still o = false) (h : S'.own (upd H p o) v (fp i)) :
    En B (Γ.set i (.sl S')) σ (upd H p o) fp := by
  have hi : i < Γ.length := (List.getElem?_eq_some_iff.mp hS).1
  obtain ⟨v', hv', ho'⟩ := en.sl i S hS
  obtain ⟨o1, e1, st1⟩ := S.dom ho' hp
  refine ⟨by rw [List.length_set]; exact en.len, fun j T hj => ?_, fun j T hj => ?_, fun j hj => ?_, en.dis, en.nt, fun j a T hj hro ha => ?_, fun j K' ds hj => ?_, fun j T hj => ?_, fun r hr2 => ?_, fun a o' e => ?_, fun t ht => ?_⟩
  · by_cases e : j = i
    · subst e
      rw [List.getElem?_set_self hi] at hj
      cases hj
      exact ⟨v, hv, h⟩
    · rw [List.getElem?_set_ne (Ne.symm e)] at hj
      obtain ⟨u, hu, hT⟩ := en.sl j T hj
      refine ⟨u, hu, T.keep hT fun a ob ea z => ?_⟩
      have : a ≠ p := by
        rintro rfl
        rcases z with z | z
        · exact e (en.dis j i a z hp)
        · rw [e1] at ea
          cases ea
          rw [st1] at z; cases z
      rw [upd_ne this]
      exact ea
  · by_cases e : j = i
    · subst e
      rw [List.getElem?_set_self hi] at hj
      cases hj
    · rw [List.getElem?_set_ne (Ne.symm e)] at hj
      exact en.tp j T hj
  · by_cases e : j = i
    · subst e
      exact absurd (List.getElem?_set_self hi) (hj S')
    · exact en.off j fun S'' z => hj S'' (by rw [List.getElem?_set_ne (Ne.symm e)]; exact z)
  · by_cases e : j = i
    · subst e
      exact en.new j a S hS hr ha
    · rw [List.getElem?_set_ne (Ne.symm e)] at hj
      exact en.new j a T hj hro ha
  · by_cases e : j = i
    · subst e
      rw [List.getElem?_set_self hi] at hj
      cases hj
    · rw [List.getElem?_set_ne (Ne.symm e)] at hj
      obtain ⟨r, us, h1, h2, h3⟩ := en.rd j K' ds hj
      refine ⟨r, us, h1, h2, h3.stay fun a ob ea z => ?_⟩
      have : a ≠ p := by
        rintro rfl
        rw [e1] at ea
        cases ea
        rw [st1] at z; cases z
      rw [upd_ne this]
      exact ea
  · by_cases e : j = i
    · subst e
      rw [List.getElem?_set_self hi] at hj
      cases hj
    · rw [List.getElem?_set_ne (Ne.symm e)] at hj
      obtain ⟨u, fq, hu, hT, hR⟩ := en.rb j T hj
      refine ⟨u, fq, hu, T.keep hT fun a ob ea z => ?_, hR⟩
      have : a ≠ p := by
        rintro rfl
        rcases z with z | z
        · obtain ⟨o', hm⟩ := hR a z
          exact (en.rr _ hm).2.2 i hp
        · rw [e1] at ea
          cases ea
          rw [st1] at z; cases z
      rw [upd_ne this]
      exact ea
  · obtain ⟨h1, h2, h3⟩ := en.rr r hr2
    have : r.1 ≠ p := fun z => h3 i (z ▸ hp)
    exact ⟨rd_upd this h1, h2, h3⟩
  · obtain ⟨o2, e2, k1, k2⟩ := en.fr a o' e
    by_cases z : a = p
    · subst z
      refine ⟨o, upd_same, fun n1 _ => ?_, fun z => ?_⟩
      · rcases en.new i a S hS hr hp with q | q
        · rw [e] at q; cases q
        · exact absurd q n1
      · have e5 := k2 z
        subst e5
        rw [e1] at e2
        cases e2
        rw [st1] at z; cases z
    · exact ⟨o2, by rw [upd_ne z]; exact e2, k1, k2⟩
  · have hoff := en.nt i p hp t ht
    refine t.1.keep (en.tps t ht) fun a ob ea z => ?_
    have : a ≠ p := by
      rintro rfl
      rcases z with z | z
      · exact hoff z
      · rw [e1] at ea
        cases ea
        rw [st1] at z; cases z
    rw [upd_ne this]
    exact ea
end

/-! ### what is walked -/
theorem le_beta {a b i : Nat} (h : a = b) (hi : b ≤ i) : a ≤ i := h ▸ hi
theorem lt_beta {a b i : Nat} (h : a = b) (hi : i < b) : i < a := h ▸ hi
theorem wipe_get : ∀ (l : List Nat) (τ : List (Option V)) (j : Nat), (wipe τ l)[j]? = if j ∈ l then (τ[j]?).map (fun _ => none) else τ[j]?
  | [], τ, j => by simp [wipe]
  | v :: l, τ, j => by
    show ((wipe τ l).set v none)[j]? = _
    rw [List.getElem?_set]
    by_cases ev : v = j
    · subst ev
      rw [if_pos rfl, if_pos List.mem_cons_self, wipe_length]
      by_cases hl : v < τ.length
      · rw [if_pos hl, List.getElem?_eq_getElem hl]
        rfl
      · rw [if_neg hl, List.getElem?_eq_none (by omega)]
        rfl
    · rw [if_neg ev, wipe_get l τ j]
      have : (j ∈ v :: l) ↔ j ∈ l := by
        rw [List.mem_cons]
        exact ⟨fun z => z.resolve_left (fun q => ev q.symm), .inr⟩
      simp only [this]
theorem wipe_idem (l : List Nat) (τ : List (Option V)) : wipe (wipe τ l) l = wipe τ l := by
  refine List.ext_getElem? fun j => ?_
  rw [wipe_get, wipe_get]
  split
  · rw [Option.map_map]
    rfl
  · rfl
structure ItOk (K : PySem.W.Frag) (B : Bs) (J : It) (H1 : Hp) (ds : List PyData) (sup : List Addr) : Prop where
  sp : ∀ a ∈ sup, B.off a ∧ ∃ o, H1 a = some o
  go : ∀ (i : Nat) (H : Hp), (∀ a o, H1 a = some o → (a ∈ sup ∨ still o = true) → H a = some o) → i < ds.length → J.go i H ∧ ∀ x H', J.yld i H x H' → (∀ a o, H a = some o → H' a = some o) ∧ ∃ d, ds[i]? = some d ∧ Fz K H' x d
  stop : ∀ (i : Nat) (H : Hp), (∀ a o, H1 a = some o → (a ∈ sup ∨ still o = true) → H a = some o) → ds.length ≤ i → J.stop i H
/-- own: slots whose lists are walked -/
def ItG (C : Cn) (Γ : List Ety) {α : Type} (wi : TI) (w : Wp α) (ds : α → List PyData) (own : Nat → Bool) : Prop := ∀ (P : α → Prop) (X : Xn → Prop), w P X → ∀ B σ H fp, En B Γ σ H fp → Exok C B X →
  ∀ R : It → Hp → Prop, (∀ r J H' sup, P r → Stp B H H' → ItOk C.K B J H' (ds r) sup → (∀ a ∈ sup, H a = none ∨ (∃ i, own i = true ∧ a ∈ fp i) ∨ ∃ r, r ∈ B.R ∧ r.1 = a) → R J H') → wi σ H R
section
variable {C : Cn} {Γ : List Ety} {α β γ : Type}
theorem ItG.is {wi : TI} {w w' : Wp α} {ds : α → List PyData} {own : Nat → Bool} (h : ItG C Γ wi w ds own) (e : w = w') : ItG C Γ wi w' ds own := e ▸ h
def noOwn : Nat → Bool := fun _ => false
def ownOf (i : Nat) : Nat → Bool := fun j => decide (j = i)
theorem sqT_uniq {K : PySem.W.Frag} {B : Bs} {H : Hp} {a : Addr} {xs ys : List V} (h : Rd H a (.tup xs)) (h' : Rd H a (.tup ys)) : xs = ys := by
  rcases h with h | ⟨o, h⟩ <;> rcases h' with h' | ⟨o', h'⟩ <;> rw [h] at h' <;> cases h' <;> rfl
/-- a tuple -/
theorem it_tup {te : TE} {w : Wp (List α)} {e : α → PyData} (h : EvG C Γ te w (fun r => RF C.K (eT e r))) : ItG C Γ (iTup C.K te) w (fun r => r.map e) noOwn := fun P X hw B σ H fp en ex R q => by
  refine h P X hw B σ H fp en ex _ fun r v H1 hp s hr => ?_
  obtain ⟨a, vs, rfl, hs, hz⟩ := Fz.tup_inv hr
  have hlen := hz.length
  refine ⟨a, rfl, ⟨_, hs⟩, q r _ H1 [] hp s ⟨fun a h => absurd h (by simp), fun i H2 st hi => ?_, fun i H2 st hi => ⟨vs, sqT_stay (fun a o e z => st a o e (.inr z)) hs, le_beta hlen hi⟩⟩ fun a h => absurd h (by simp)⟩
  have stay : Stay H1 H2 := fun a o e z => st a o e (.inr z)
  have hs2 := sqT_stay stay hs
  have hi2 : i < vs.length := lt_beta hlen hi
  refine ⟨⟨vs, vs[i], hs2, List.getElem?_eq_getElem hi2⟩, fun x H3 hy => ?_⟩
  obtain ⟨rfl, hx⟩ := hy
  obtain ⟨d, hd, hf⟩ := (hz.stay stay).getV (hx vs hs2)
  exact ⟨fun _ _ e => e, d, hd, hf⟩
/-- a list read by name (slot i), or new -/
theorem it_list {te : TE} {w : Wp (List α)} {e : α → PyData} (h : EvG C Γ te w (fun r => RN (ls C.K (r.map e)))) : ItG C Γ (iList C.K te) w (fun r => r.map e) noOwn := fun P X hw B σ H fp en ex R q => by
  refine h P X hw B σ H fp en ex _ fun r v H1 hp s hr => ?_
  obtain ⟨fq, ⟨p, vs, rfl, e2, hs, hz⟩, hf⟩ := hr
  have hlen := hz.length
  have hfp : H p = none := hf p (by rw [e2]; exact List.mem_singleton.mpr rfl)
  refine ⟨p, rfl, ⟨vs, .inl (.inl hs)⟩, q r _ H1 [p] hp s ⟨fun a h => ?_, fun i H2 st hi => ?_, fun i H2 st hi => ⟨vs, .inl (.inl (st p _ hs (.inl (by simp)))), le_beta hlen hi⟩⟩ fun a h => ?_⟩
  · rw [List.mem_singleton.mp h]
    exact ⟨en.tps.new hfp, _, hs⟩
  · have stay : Stay H1 H2 := fun a o e z => st a o e (.inr z)
    have hs2 : SqL C.K H2 p vs := .inl (.inl (st p _ hs (.inl (by simp))))
    have hi2 : i < vs.length := lt_beta hlen hi
    refine ⟨⟨vs, vs[i], hs2, List.getElem?_eq_getElem hi2⟩, fun x H3 hy => ?_⟩
    obtain ⟨rfl, hx⟩ := hy
    obtain ⟨d, hd, hf⟩ := (hz.stay stay).getV (hx vs hs2)
    exact ⟨fun _ _ e => e, d, hd, hf⟩
  · rw [List.mem_singleton.mp h]
    exact .inl hfp
theorem it_var {i : Nat} {e : α → PyData} (xs : List α) (h : Γ[i]? = some (.sl (ls C.K (xs.map e)))) : ItG C Γ (iList C.K (tVar i)) (ret xs) (fun r => r.map e) (ownOf i) := fun P X hw B σ H fp en ex R q => by
  obtain ⟨v, hv, p, vs, rfl, e2, hp, hz⟩ := en.sl i _ h
  have hlen := hz.length
  have hm : p ∈ fp i := by rw [e2]; exact List.mem_singleton.mpr rfl
  refine ⟨_, hv, p, rfl, ⟨vs, .inl (.inl hp)⟩, q xs _ H [p] hw (.refl en.tps) ⟨fun a h => ?_, fun i H2 st hi => ?_, fun i H2 st hi => ⟨vs, .inl (.inl (st p _ hp (.inl (by simp)))), le_beta hlen hi⟩⟩ fun a h => ?_⟩
  · rw [List.mem_singleton.mp h]
    exact ⟨en.nt i p hm, _, hp⟩
  · have stay : Stay H H2 := fun a o e z => st a o e (.inr z)
    have hs2 : SqL C.K H2 p vs := .inl (.inl (st p _ hp (.inl (by simp))))
    have hi2 : i < vs.length := lt_beta hlen hi
    refine ⟨⟨vs, vs[i], hs2, List.getElem?_eq_getElem hi2⟩, fun x H3 hy => ?_⟩
    obtain ⟨rfl, hx⟩ := hy
    obtain ⟨d, hd, hf⟩ := (hz.stay stay).getV (hx vs hs2)
    exact ⟨fun _ _ e => e, d, hd, hf⟩
  · rw [List.mem_singleton.mp h]
    exact .inr (.inl ⟨i, by unfold ownOf; simp, hm⟩)
theorem it_rd {i : Nat} {e : α → PyData} (xs : List α) (h : Γ[i]? = some (.rd C.K (xs.map e))) : ItG C Γ (iList C.K (tVar i)) (ret xs) (fun r => r.map e) noOwn := fun P X hw B σ H fp en ex R q => by
  obtain ⟨p, vs, hr, hv, hz⟩ := en.rd i _ _ h
  have hlen := hz.length
  have core : ∀ sup : List Addr, (∀ H2 : Hp, (∀ a o, H a = some o → (a ∈ sup ∨ still o = true) → H2 a = some o) → SqL C.K H2 p vs) → (∀ a ∈ sup, B.off a ∧ ∃ o, H a = some o) → ItOk C.K B (Itl C.K p) H (xs.map e) sup := fun sup hk hsp => by
    refine ⟨hsp, fun i H2 st hi => ?_, fun i H2 st hi => ⟨vs, hk H2 st, le_beta hlen hi⟩⟩
    have stay : Stay H H2 := fun a o e z => st a o e (.inr z)
    have hs2 := hk H2 st
    have hi2 : i < vs.length := lt_beta hlen hi
    refine ⟨⟨vs, vs[i], hs2, List.getElem?_eq_getElem hi2⟩, fun x H3 hy => ?_⟩
    obtain ⟨rfl, hx⟩ := hy
    obtain ⟨d, hd, hf⟩ := (FzAll.stay stay hz).getV (hx vs hs2)
    exact ⟨fun _ _ e => e, d, hd, hf⟩
  rcases hr with hr | hr
  · obtain ⟨h1, h2, _⟩ := en.rr _ hr
    have there : ∃ o, H p = some o := by
      rcases h1 with h1 | ⟨o, h1⟩
      · exact ⟨_, h1⟩
      · exact ⟨_, h1⟩
    have hk : ∀ H2 : Hp, (∀ a o, H a = some o → (a ∈ [p] ∨ still o = true) → H2 a = some o) → SqL C.K H2 p vs := fun H2 st => by
      rcases h1 with h1 | ⟨o, h1⟩
      · exact .inl (.inl (st p _ h1 (.inl (by simp))))
      · exact .inl (.inr ⟨o, st p _ h1 (.inl (by simp))⟩)
    refine ⟨_, hv, p, rfl, ⟨vs, .inl h1⟩, q xs _ H [p] hw (.refl en.tps) (core [p] hk fun a h => ?_) fun a h => ?_⟩
    · rw [List.mem_singleton.mp h]
      exact ⟨h2, there⟩
    · rw [List.mem_singleton.mp h]
      exact .inr (.inr ⟨_, hr, rfl⟩)
  · exact ⟨_, hv, p, rfl, ⟨vs, hr H⟩, q xs _ H [] hw (.refl en.tps) (core [] (fun H2 _ => hr H2) fun a h => absurd h (by simp)) fun a h => absurd h (by simp)⟩
/-- lo, lo + 1, .. -/
def span (lo : Int) (n : Nat) : List Int := (List.range n).map fun k => lo + (k : Nat)
theorem span_length (lo : Int) (n : Nat) : (span lo n).length = n := by unfold span; rw [List.length_map, List.length_range]
theorem itr_ok {B : Bs} {H1 : Hp} {lo : Int} {n : Nat} : ItOk C.K B (Itr lo n) H1 ((span lo n).map eI) [] := by
  refine ⟨fun a h => absurd h (by simp), fun i H2 st hi => ?_, fun i H2 st hi => ?_⟩
  · rw [List.length_map, span_length] at hi
    refine ⟨hi, fun x H3 hy => ?_⟩
    obtain ⟨rfl, rfl⟩ := hy
    refine ⟨fun _ _ e => e, _, ?_, .int _⟩
    unfold span
    rw [List.map_map, List.getElem?_map, List.getElem?_range hi]
    rfl
  · rw [List.length_map, span_length] at hi
    exact hi
def Rng (i : Int) : Prop := -(2 ^ 62) ≤ i ∧ i < 2 ^ 62
theorem it_range1 {te : TE} {w : Wp Int} (h : EvG C Γ te w (fun r => RF C.K (eI r))) : ItG C Γ (iRng1 (tCons te tNil)) (bnd w fun j => grd (Rng j) (ret (span 0 j.toNat))) (fun r => r.map eI) noOwn := fun P X hw B σ H fp en ex R q =>
  h _ X hw B σ H fp en ex _ fun j v H1 hp s hr => by
    have e1 := Fz.int_inv (n := j) hr
    subst e1
    exact ⟨j, rfl, hp.1.1, hp.1.2, q _ _ H1 [] hp.2 s itr_ok fun a h => absurd h (by simp)⟩
theorem it_range2 {ta tb : TE} {w w' : Wp Int} (h : EvG C Γ ta w (fun r => RF C.K (eI r))) (h' : EvG C Γ tb w' (fun r => RF C.K (eI r))) :
    ItG C Γ (iRng2 (tCons ta (tCons tb tNil))) (bnd w fun i => bnd w' fun j => grd (Rng i ∧ Rng j) (ret (span i (j - i).toNat))) (fun r => r.map eI) noOwn := fun P X hw B σ H fp en ex R q =>
  h _ X hw B σ H fp en ex _ fun i v H1 hp s hr => h' _ X hp B σ H1 fp (en.step s) ex _ fun j u H2 hp2 s2 hr2 => by
    have e1 := Fz.int_inv (n := i) hr
    have e2 := Fz.int_inv (n := j) hr2
    subst e1
    subst e2
    exact ⟨i, j, rfl, ⟨hp2.1.1.1, hp2.1.1.2, hp2.1.2.1, hp2.1.2.2⟩, q _ _ H2 [] hp2.2 (s.trans s2) itr_ok fun a h => absurd h (by simp)⟩

/-! ### comprehensions -/
/-- nothing is raised -/
def noX (m : Wp α) : Wp α := fun P _ => m P fun _ => False
theorem noX_ret (a : α) : noX (ret a) = ret a := rfl
def lcW (c : α → Wp Bool) (f : α → Wp β) : List α → Wp (List β)
  | [] => ret []
  | x :: xs => bnd (c x) fun b => sel b (bnd (f x) fun y => bnd (lcW c f xs) fun ys => ret (y :: ys)) (lcW c f xs)
def lcG (c : α → Wp Bool) (f : α → Wp β) (xs : List α) : Wp (List β) := grd (xs.length ≤ 16777216) (noX (lcW c f xs))
theorem lcW_eq {c : α → Wp Bool} {f : α → Wp β} {p : α → Bool} {g : α → β} : ∀ (xs : List α), (∀ x ∈ xs, c x = ret (p x)) → (∀ x ∈ xs, p x = true → f x = ret (g x)) → lcW c f xs = ret ((xs.filter p).map g)
  | [], _, _ => rfl
  | x :: xs, h1, h2 => by
    have ih := lcW_eq xs (fun y hy => h1 y (List.mem_cons_of_mem _ hy)) fun y hy => h2 y (List.mem_cons_of_mem _ hy)
    show bnd (c x) _ = _
    rw [h1 x List.mem_cons_self, ret_bnd, ih]
    cases e : p x with
    | true =>
      rw [sel_true, h2 x List.mem_cons_self e, ret_bnd, ret_bnd, List.filter_cons_of_pos e, List.map_cons]
    | false =>
      rw [sel_false, List.filter_cons_of_neg (by rw [e]; exact Bool.false_ne_true)]
theorem lcG_eq {c : α → Wp Bool} {f : α → Wp β} {p : α → Bool} {g : α → β} (xs : List α) (hl : xs.length ≤ 16777216) (h1 : ∀ x ∈ xs, c x = ret (p x)) (h2 : ∀ x ∈ xs, p x = true → f x = ret (g x)) : lcG c f xs = ret ((xs.filter p).map g) := by
  unfold lcG
  rw [grd_true hl, lcW_eq xs h1 h2, noX_ret]
abbrev Cn.nox (C : Cn) : Cn := { C with E := fun _ _ _ => False }
theorem exok_no {C : Cn} {B : Bs} : Exok C B (fun _ => False) := fun _ _ _ _ h => h.elim
/-- the tape apart, all objects of H1 stand in H -/
theorem lc_list_room (n : Nat) (h : n < 16777216) : n < sizeLine := Nat.lt_of_lt_of_le h (by decide)
/-- the block's target: data x comes in -/
structure TgG (K : PySem.W.Frag) (Γ : List Ety) (g : TG) (vs : List Nat) (d : PyData) (Γ' : List Ety) : Prop where
  run : ∀ B σ H fp v, En B Γ σ H fp → Fz K H v d → ∀ Q : List (Option V) → Hp → Prop, (∀ σ' fp', En B Γ' σ' H fp' → wipe σ' vs = wipe σ vs → (∀ a i, a ∈ fp' i → ∃ j, a ∈ fp j) → Q σ' H) → g v σ H Q
theorem wipe1 (σ : List (Option V)) (i : Nat) (x : Option V) : wipe (σ.set i x) [i] = wipe σ [i] := by
  show (σ.set i x).set i none = σ.set i none
  rw [List.set_set]
theorem tg_name {K : PySem.W.Frag} {i : Nat} {d : PyData} (hi : i < Γ.length) : TgG K Γ (gName i) [i] d (Γ.set i (.sl (fz K d))) := ⟨fun B σ H fp v en hz Q q => q _ _ (en.putF hi hz) (wipe1 σ i _) fun a j h => by
  by_cases e : j = i
  · subst e
    rw [put_same] at h; cases h
  · rw [put_ne e] at h
    exact ⟨j, h⟩⟩
/-- the block's slots forgotten -/
def unA (Γ : List Ety) : List Nat → List Ety
  | [] => Γ
  | v :: vs => (unA Γ vs).set v .un
theorem En.wiped {B : Bs} {σ : List (Option V)} {H : Hp} {fp : Nat → List Addr} (en : En B Γ σ H fp) : ∀ vs : List Nat, ∃ fp', En B (unA Γ vs) (wipe σ vs) H fp' ∧ ∀ a i, a ∈ fp' i → a ∈ fp i
  | [] => ⟨fp, en, fun _ _ h => h⟩
  | v :: vs => by
    obtain ⟨fp', en', h⟩ := En.wiped en vs
    refine ⟨_, en'.drop v none, fun a i ha => ?_⟩
    by_cases e : i = v
    · subst e
      rw [put_same] at ha; cases ha
    · rw [put_ne e] at ha
      exact h a i ha
/-- an object that nobody of the names owns is changed -/
theorem En.side {B : Bs} {σ : List (Option V)} {H : Hp} {fp : Nat → List Addr} (en : En B Γ σ H fp) {D : Addr} {o o' : HO} (hD : H D = some o) (ho : still o = false) (hn : ∀ i, D ∉ fp i) (ht : B.off D) (hb : B.H D = none) (hR : ∀ r ∈ B.R, r.1 ≠ D) : En B Γ σ (upd H D o') fp where
  len := en.len
  sl := fun i S hS => by
    obtain ⟨v, hv, h⟩ := en.sl i S hS
    refine ⟨v, hv, S.keep h fun a ob e z => ?_⟩
    have : a ≠ D := by
      rintro rfl
      rcases z with z | z
      · exact hn i z
      · rw [hD] at e
        cases e
        rw [ho] at z; cases z
    rw [upd_ne this]
    exact e
  tp := en.tp
  off := en.off
  dis := en.dis
  nt := en.nt
  new := en.new
  rd := fun j K' ds hj => by
    obtain ⟨r, us, h1, h2, h3⟩ := en.rd j K' ds hj
    refine ⟨r, us, h1, h2, h3.stay fun a ob ea z => ?_⟩
    have : a ≠ D := by
      rintro rfl
      rw [hD] at ea
      cases ea
      rw [ho] at z; cases z
    rw [upd_ne this]
    exact ea
  rb := fun j T hj => by
    obtain ⟨u, fq, hu, hT, hq⟩ := en.rb j T hj
    refine ⟨u, fq, hu, T.keep hT fun a ob ea z => ?_, hq⟩
    have : a ≠ D := by
      rintro rfl
      rcases z with z | z
      · obtain ⟨o', hm⟩ := hq a z
        exact hR _ hm rfl
      · rw [hD] at ea
        cases ea
        rw [ho] at z; cases z
    rw [upd_ne this]
    exact ea
  rr := fun r hr => by
    obtain ⟨h1, h2, h3⟩ := en.rr r hr
    exact ⟨rd_upd (hR r hr) h1, h2, h3⟩
  fr := fun a ob e => by
    obtain ⟨o2, e2, k⟩ := en.fr a ob e
    have : a ≠ D := by
      rintro rfl
      rw [hb] at e; cases e
    exact ⟨o2, by rw [upd_ne this]; exact e2, k⟩
  tps := fun t h => by
    refine t.1.keep (en.tps t h) fun a ob ea z => ?_
    have : a ≠ D := by
      rintro rfl
      rcases z with z | z
      · exact ht t h z
      · rw [hD] at ea
        cases ea
        rw [ho] at z; cases z
    rw [upd_ne this]
    exact ea
theorem ev_lc {wi : TI} {g : TG} {tt : TT} {te : TE} {vs : List Nat} {w : Wp (List α)} {e : α → PyData} {own : Nat → Bool} {c : α → Wp Bool} {f : α → Wp β} {e' : β → PyData} {Γb : α → List Ety} (hi : ItG C Γ wi w (fun r => r.map e) own)
    (hg : ∀ x, TgG C.K (unA Γ vs) g vs (e x) (Γb x)) (ht : ∀ x, EvT C.nox (Γb x) tt (c x)) (hf : ∀ x, EvG C.nox (Γb x) te (f x) (fun r => RF C.K (e' r))) :
    EvG C Γ (tLc wi g tt te vs) (bnd w fun xs => lcG c f xs) (fun r => RN (ls C.K (r.map e'))) := fun P X hw B σ H fp en ex Q q => by
  refine hi _ X hw B σ H fp en ex _ fun xs J H1 sup hp s1 ok hsup => ?_
  obtain ⟨hlen, hp⟩ := hp
  intro D hD
  have hD0 : H D = none := s1.back en.tps hD
  have offD : B.off D := s1.ts.new hD
  have hBD : B.H D = none := by
    cases z : B.H D with
    | none => rfl
    | some o =>
      obtain ⟨o', e', _⟩ := (en.step s1).fr D o z
      rw [hD] at e'; cases e'
  have nD : ∀ i, D ∉ fp i := fun i hm => by
    obtain ⟨S, hS⟩ := en.lt hm
    obtain ⟨v, _, ho⟩ := en.sl i S hS
    obtain ⟨o, eo, _⟩ := S.dom ho hm
    rw [hD0] at eo; cases eo
  have nsup : D ∉ sup := fun hm => by
    obtain ⟨_, o, eo⟩ := ok.sp D hm
    rw [hD] at eo; cases eo
  have hRD : ∀ r ∈ B.R, r.1 ≠ D := fun r hr z => rd_new ((en.step s1).rr r hr).1 (by rw [z]; exact hD)
  obtain ⟨fpw, enw, subw⟩ := (en.step s1).wiped vs
  -- the invariant: what is still to come answers
  refine ⟨fun i m H2 => m = xs.length - i ∧ i ≤ xs.length ∧ (∀ a o, H1 a = some o → B.off a → H2 a = some o) ∧ TpSt B H2 ∧ En B (unA Γ vs) (wipe σ vs) H2 fpw ∧ ∃ (acc : List V) (ys : List β), H2 D = some (.lst acc) ∧ acc.length ≤ i ∧ FzAll C.K H2 acc (ys.map e') ∧
      lcW c f (xs.drop i) (fun zs => P (ys ++ zs)) (fun _ => False), ⟨xs.length, by omega, Nat.zero_le _, fun a o ea _ => ?_, ?_, ?_, [], [], upd_same, Nat.le_refl _, .nil, hp⟩, ?_⟩
  · rw [upd_ne (ne_of_none ea hD)]
    exact ea
  · exact s1.ts.same (upd_keeps hD)
  · exact enw.step (.new s1.ts hD)
  rintro i m H2 ⟨rfl, hi', kp, ts2, en2, acc, ys, hacc, hal, hz, hlc⟩
  have kst : ∀ a o, H1 a = some o → (a ∈ sup ∨ still o = true) → H2 a = some o := fun a o ea z => by
    rcases z with z | z
    · exact kp a o ea (ok.sp a z).1
    · exact kp a o ea (s1.ts.notstill ea z)
  by_cases hlt : i < xs.length
  · obtain ⟨go, yld⟩ := ok.go i H2 kst (by rw [List.length_map]; exact hlt)
    refine .inr ⟨go, fun H' => ∃ m', m' < xs.length - i ∧ (m' = xs.length - (i + 1) ∧ i + 1 ≤ xs.length ∧ (∀ a o, H1 a = some o → B.off a → H' a = some o) ∧ TpSt B H' ∧ En B (unA Γ vs) (wipe σ vs) H' fpw ∧ ∃ (acc : List V) (ys : List β), H' D = some (.lst acc) ∧ acc.length ≤ i + 1 ∧ FzAll C.K H' acc (ys.map e') ∧
      lcW c f (xs.drop (i + 1)) (fun zs => P (ys ++ zs)) (fun _ => False)), fun H' h => h, fun x H3 hy => ?_⟩
    obtain ⟨kp3, d, hd, hx⟩ := yld x H3 hy
    have ed : d = e xs[i] := by
      rw [List.getElem?_map, List.getElem?_eq_getElem hlt] at hd
      exact (Option.some.inj hd).symm
    subst ed
    have s3 : Stp B H2 H3 := .same ts2 kp3
    have en3 := en2.step s3
    refine (hg xs[i]).run B (wipe σ vs) H3 fpw x en3 hx _ fun σ4 fp4 en4 hw4 sub4 => ?_
    have nD4 : ∀ i, D ∉ fp4 i := fun i hm => by
      obtain ⟨j, hj⟩ := sub4 D i hm
      exact nD j (subw D j hj)
    have hdrop : xs.drop i = xs[i] :: xs.drop (i + 1) := List.drop_eq_getElem_cons hlt
    rw [hdrop] at hlc
    refine ⟨?_, ?_⟩
    · refine hw4.trans ?_
      exact wipe_idem vs σ
    refine ht xs[i] _ (fun _ => False) hlc B σ4 H3 fp4 en4 exok_no _ fun b H5 hb s5 => ?_
    have en5 := en4.step s5
    have s25 := s3.trans s5
    have kp5 : ∀ a o, H1 a = some o → B.off a → H5 a = some o := fun a o ea na => s25.kp a o (kp a o ea na) na
    cases b with
    | true =>
      refine iteT ?_
      refine hf xs[i] _ (fun _ => False) hb B σ4 H5 fp4 en5 exok_no _ fun y v H6 hy6 s6 r6 => ?_
      have en6 := en5.step s6
      have s26 := s25.trans s6
      have hD6 : H6 D = some (.lst acc) := s26.kp D _ hacc offD
      have hz6 := hz.stay (s26.stay ts2)
      have enw6 : En B (unA Γ vs) (wipe σ vs) H6 fpw := en2.step s26
      have stE : Stay H6 (upd H6 D (.lst (acc ++ [v]))) := fun a o ea z => by
        have : a ≠ D := by
          rintro rfl
          rw [hD6] at ea; cases ea; cases z
        rw [upd_ne this]
        exact ea
      have eny := enw6.side (o' := .lst (acc ++ [v])) hD6 rfl (fun i hm => nD i (subw D i hm)) offD hBD hRD
      refine ⟨acc, hD6, lc_list_room _ (by omega), xs.length - (i + 1), by omega, rfl, hlt, fun a o ea na => ?_, eny.tps, eny, acc ++ [v], ys ++ [y], upd_same, ?_, ?_, ?_⟩
      · have : a ≠ D := by
          rintro rfl
          rw [hD] at ea; cases ea
        rw [upd_ne this]
        exact s6.kp a o (kp5 a o ea na) na
      · rw [List.length_append, List.length_singleton]
        omega
      · rw [List.map_append]
        exact (hz6.stay stE).append (.one (Fz.stay stE r6))
      · have : (fun zs => P (ys ++ [y] ++ zs)) = fun zs => P (ys ++ y :: zs) := by
          funext zs
          rw [List.append_assoc]
          rfl
        rw [this]
        exact hy6
    | false =>
      refine iteF ?_
      exact ⟨xs.length - (i + 1), by omega, rfl, hlt, kp5, s5.ts, en2.step s25, acc, ys, s25.kp D _ hacc offD, by omega, hz.stay (s25.stay ts2), hb⟩
  · have ei : i = xs.length := by omega
    subst ei
    rw [List.drop_length] at hlc
    refine .inl ⟨ok.stop _ H2 kst (by rw [List.length_map]; exact Nat.le_refl _), ?_⟩
    have hP : P (ys ++ []) := hlc
    rw [List.append_nil] at hP
    refine q ys (.ref D) H2 hP ⟨fun a o ea na => kp a o (s1.kp a o ea na) na, ts2⟩ ⟨[D], ⟨D, acc, rfl, rfl, hacc, hz⟩, fun a ha => ?_⟩
    rw [List.mem_singleton.mp ha]
    exact hD0
theorem et_yes : EvT C Γ tYes (ret true) := fun P X hw B σ H fp en ex Q q => q true H hw (.refl en.tps)
end
end WL
/-! WL, part 4: statements. -/
namespace WL
open PySem PySem.Spec PyProof.Rows L2

/-- a def's outcome -/
inductive Oc where
  | fz (d : PyData)
  | nw (S : Sl)
def OcOk (K : PySem.W.Frag) (B : Bs) (H : Hp) : Oc → V → Prop
  | .fz d, v => Fz K H v d
  | .nw S, v => ∃ q, S.own H v q ∧ (∀ a ∈ q, B.H a = none ∨ a ∈ B.O) ∧ ∀ a ∈ q, B.off a
def Fin {F : Type} (C : Cn) (B : Bs) (D : Ends) (res : F → Oc) (P : F → Prop) : Prop := ∀ out v H', P out → Frame B H' → TpSt B H' → OcOk C.K B H' (res out) v → D.rt v H'
abbrev Cont (F : Type) := (F → Prop) → (Xn → Prop) → Bs → List (Option V) → Hp → Prop
section
variable {F : Type}
def SimB (C : Cn) (res : F → Oc) (N Bk Ct : Cont F) (t : TS) (Γ : List Ety) (m : Wp F) : Prop :=
  ∀ (P : F → Prop) (X : Xn → Prop), m P X → ∀ B D, Exok C B X → Fin C B D res P → (∀ σ H, N P X B σ H → D.nx σ H) → (∀ σ H, Bk P X B σ H → D.bk σ H) → (∀ σ H, Ct P X B σ H → D.ct σ H) →
    ∀ σ H fp, En B Γ σ H fp → t D σ H
def Lands (N : Cont F) (Γ : List Ety) (m : Wp F) : Prop := ∀ (P : F → Prop) (X : Xn → Prop) B σ H fp, m P X → En B Γ σ H fp → N P X B σ H
def noC : Cont F := fun _ _ _ _ _ => False
def atC {S : Type} (Γf : S → List Ety) (k : S → Wp F) : Cont F := fun P X B σ H => ∃ s fp, k s P X ∧ En B (Γf s) σ H fp
def intoC (C : Cn) (res : F → Oc) (N Bk Ct : Cont F) (u : TS) : Cont F := fun P X B σ H => ∃ Γ m fp, SimB C res N Bk Ct u Γ m ∧ m P X ∧ En B Γ σ H fp
/-- Γ' knows less -/
def WkG (Γ Γ' : List Ety) : Prop := ∀ B σ H fp, En B Γ σ H fp → ∃ fp', En B Γ' σ H fp' ∧ ∀ (i : Nat) (a : Addr), a ∈ fp' i → a ∈ fp i
def wkF : List Bool → List Ety → List Ety
  | _, [] => []
  | [], Γ => Γ
  | true :: bs, e :: Γ => e :: wkF bs Γ
  | false :: bs, _ :: Γ => .un :: wkF bs Γ
theorem wkF_length : ∀ (bs : List Bool) (Γ : List Ety), (wkF bs Γ).length = Γ.length
  | [], [] => rfl
  | _ :: _, [] => rfl
  | [], _ :: _ => rfl
  | true :: bs, _ :: Γ => by
    show (wkF bs Γ).length + 1 = _
    rw [wkF_length bs Γ]
    rfl
  | false :: bs, _ :: Γ => by
    show (wkF bs Γ).length + 1 = _
    rw [wkF_length bs Γ]
    rfl
theorem wkF_get : ∀ (bs : List Bool) (Γ : List Ety) (i : Nat), (wkF bs Γ)[i]? = Γ[i]? ∨ (wkF bs Γ)[i]? = some .un
  | [], [], i => .inl rfl
  | _ :: _, [], i => .inl rfl
  | [], _ :: _, i => .inl rfl
  | true :: bs, e :: Γ, 0 => .inl rfl
  | true :: bs, e :: Γ, i + 1 => wkF_get bs Γ i
  | false :: bs, e :: Γ, 0 => .inr rfl
  | false :: bs, e :: Γ, i + 1 => wkF_get bs Γ i
/-- fewer claims -/
theorem En.less {B : Bs} {Γ Γ' : List Ety} {σ : List (Option V)} {H : Hp} {fp : Nat → List Addr} (en : En B Γ σ H fp) (hl : Γ'.length = Γ.length) (h : ∀ i : Nat, Γ'[i]? = Γ[i]? ∨ Γ'[i]? = some .un) : ∃ fp', En B Γ' σ H fp' ∧ ∀ (i : Nat) (a : Addr), a ∈ fp' i → a ∈ fp i := by
  classical
  refine ⟨fun i => if Γ'[i]? = some .un then [] else fp i, ⟨by rw [hl]; exact en.len, fun i S hS => ?_, fun i T hS => ?_, fun i hS => ?_, fun i j a hi hj => ?_, fun i a hi => ?_, fun i a S hS hr ha => ?_, fun i K' ds hS => ?_, fun i S hS => ?_, fun r hr => ?_, en.fr, en.tps⟩, fun i a hi => ?_⟩
  · have : ¬ Γ'[i]? = some .un := by rw [hS]; intro z; cases z
    rw [if_neg this]
    rcases h i with e | e
    · rw [e] at hS
      exact en.sl i S hS
    · exact absurd e this
  · rcases h i with e | e
    · rw [e] at hS
      exact en.tp i T hS
    · rw [e] at hS; cases hS
  · by_cases e : Γ'[i]? = some .un
    · rw [if_pos e]
    · rw [if_neg e]
      rcases h i with e' | e'
      · exact en.off i fun S z => hS S (e'.trans z)
      · exact absurd e' e
  · by_cases e : Γ'[i]? = some .un
    · rw [if_pos e] at hi; cases hi
    · rw [if_neg e] at hi
      by_cases e2 : Γ'[j]? = some .un
      · rw [if_pos e2] at hj; cases hj
      · rw [if_neg e2] at hj
        exact en.dis i j a hi hj
  · by_cases e : Γ'[i]? = some .un
    · rw [if_pos e] at hi; cases hi
    · rw [if_neg e] at hi
      exact en.nt i a hi
  · have : ¬ Γ'[i]? = some .un := by rw [hS]; intro z; cases z
    rw [if_neg this] at ha
    rcases h i with e | e
    · rw [e] at hS
      exact en.new i a S hS hr ha
    · exact absurd e this
  · rcases h i with e | e
    · rw [e] at hS
      exact en.rd i K' ds hS
    · rw [e] at hS; cases hS
  · rcases h i with e | e
    · rw [e] at hS
      exact en.rb i S hS
    · rw [e] at hS; cases hS
  · obtain ⟨h1, h2, h3⟩ := en.rr r hr
    refine ⟨h1, h2, fun i hi => ?_⟩
    by_cases e : Γ'[i]? = some .un
    · rw [if_pos e] at hi; cases hi
    · rw [if_neg e] at hi
      exact h3 i hi
  · by_cases e : Γ'[i]? = some .un
    · have hi : a ∈ (if Γ'[i]? = some .un then [] else fp i) := hi
      rw [if_pos e] at hi; cases hi
    · have hi : a ∈ (if Γ'[i]? = some .un then [] else fp i) := hi
      rw [if_neg e] at hi
      exact hi
theorem wk_mask (bs : List Bool) (Γ : List Ety) : WkG Γ (wkF bs Γ) := fun B σ H fp en => en.less (wkF_length bs Γ) (wkF_get bs Γ)
theorem wk_refl (Γ : List Ety) : WkG Γ Γ := fun B σ H fp en => ⟨fp, en, fun _ _ h => h⟩
theorem WkG.trans {Γ Γ' Γ'' : List Ety} (a : WkG Γ Γ') (b : WkG Γ' Γ'') : WkG Γ Γ'' := fun B σ H fp en => by
  obtain ⟨fp', en', s1⟩ := a B σ H fp en
  obtain ⟨fp'', en'', s2⟩ := b B σ H fp' en'
  exact ⟨fp'', en'', fun i x h => s1 i x (s2 i x h)⟩
variable {C : Cn} {res : F → Oc} {N Bk Ct : Cont F} {Γ Γ' : List Ety} {t u : TS} {m : Wp F} {α β γ S : Type}
theorem Lands.wk (h : Lands N Γ' m) (w : WkG Γ Γ') : Lands N Γ m := fun P X B σ H fp hm en => by
  obtain ⟨fp', en', _⟩ := w B σ H fp en
  exact h P X B σ H fp' hm en'
theorem Lands.is {m' : Wp F} (h : Lands N Γ m) (e : m = m') : Lands N Γ m' := e ▸ h
theorem SimB.wk (h : SimB C res N Bk Ct t Γ' m) (w : WkG Γ Γ') : SimB C res N Bk Ct t Γ m := fun P X hm B D ex f n b c σ H fp en => by
  obtain ⟨fp', en', _⟩ := w B σ H fp en
  exact h P X hm B D ex f n b c σ H fp' en'
theorem SimB.is {m' : Wp F} (h : SimB C res N Bk Ct t Γ m) (e : m = m') : SimB C res N Bk Ct t Γ m' := e ▸ h
theorem la_at {Γf : S → List Ety} {k : S → Wp F} (s : S) : Lands (atC Γf k) (Γf s) (k s) := fun P X B σ H fp hm en => ⟨s, fp, hm, en⟩
theorem la_in (h : SimB C res N Bk Ct u Γ m) : Lands (intoC C res N Bk Ct u) Γ m := fun P X B σ H fp hm en => ⟨Γ, m, fp, h, hm, en⟩
theorem sb_seq (h : SimB C res (intoC C res N Bk Ct u) Bk Ct t Γ m) : SimB C res N Bk Ct (tSeq t u) Γ m := fun P X hm B D ex f n b c σ H fp en =>
  h P X hm B { D with nx := u D } ex f (fun σ' H' ⟨Γ', m', fp', hs, hm', en'⟩ => hs P X hm' B D ex f n b c σ' H' fp' en') b c σ H fp en
/-- behind t the rest is written once -/
theorem sb_join {Γf : S → List Ety} {k : S → Wp F} (h : SimB C res (atC Γf k) Bk Ct t Γ m) (hu : ∀ s, SimB C res N Bk Ct u (Γf s) (k s)) : SimB C res N Bk Ct (tSeq t u) Γ m := fun P X hm B D ex f n b c σ H fp en =>
  h P X hm B { D with nx := u D } ex f (fun σ' H' ⟨s, fp', hm', en'⟩ => hu s P X hm' B D ex f n b c σ' H' fp' en') b c σ H fp en
theorem sb_next (h : Lands N Γ m) : SimB C res N Bk Ct tNext Γ m := fun P X hm B D ex f n b c σ H fp en => n σ H (h P X B σ H fp hm en)
theorem sb_break (h : Lands Bk Γ m) : SimB C res N Bk Ct tBreak Γ m := fun P X hm B D ex f n b c σ H fp en => b σ H (h P X B σ H fp hm en)
theorem sb_cont (h : Lands Ct Γ m) : SimB C res N Bk Ct tCont Γ m := fun P X hm B D ex f n b c σ H fp en => c σ H (h P X B σ H fp hm en)
theorem sb_ret {te : TE} {w : Wp α} {e : α → PyData} {g : α → F} (h : EvG C Γ te w (fun r => RF C.K (e r))) (hr : ∀ r, res (g r) = .fz (e r)) : SimB C res N Bk Ct (tRet te) Γ (bnd w fun r => ret (g r)) := fun P X hm B D ex f n b c σ H fp en =>
  h _ X hm B σ H fp en ex _ fun r v H' hp s hv => f (g r) v H' hp (en.step s).fr s.ts (by rw [hr]; exact hv)
theorem sb_retS {te : TE} {w : Wp α} {S : α → Sl} {g : α → F} (h : EvG C Γ te w (fun r => RN (S r))) (hr : ∀ r, res (g r) = .nw (S r)) : SimB C res N Bk Ct (tRet te) Γ (bnd w fun r => ret (g r)) := fun P X hm B D ex f n b c σ H fp en =>
  h _ X hm B σ H fp en ex _ fun r v H' hp s ⟨q, ho, hn⟩ => f (g r) v H' hp (en.step s).fr s.ts (by
    rw [hr]
    refine ⟨q, ho, fun a ha => .inl ?_, fun a ha => en.tps.new (hn a ha)⟩
    cases e : B.H a with
    | none => rfl
    | some o =>
      obtain ⟨o', e', _⟩ := en.fr a o e
      rw [hn a ha] at e'; cases e')
theorem sb_retV {i : Nat} {S : Sl} {g : F} (h : Γ[i]? = some (.sl S)) (ro : S.ro = false) (hr : res g = .nw S) : SimB C res N Bk Ct (tRet (tVar i)) Γ (ret g) := fun P X hm B D ex f n b c σ H fp en => by
  obtain ⟨v, hv, ho⟩ := en.sl i S h
  exact ⟨v, hv, f g v H hm en.fr en.tps (by rw [hr]; exact ⟨fp i, ho, fun a ha => en.new i a S h ro ha, fun a ha => en.nt i a ha⟩)⟩
theorem sb_retN {g : F} (hr : res g = .fz .none) : SimB C res N Bk Ct tRetN Γ (ret g) := fun P X hm B D ex f n b c σ H fp en => f g .non H hm en.fr en.tps (by rw [hr]; exact .non)
theorem sb_if {tc : TT} {w : Wp Bool} {ma mb : Wp F} {ta tb : TS} (hc : EvT C Γ tc w) (ha : SimB C res N Bk Ct ta Γ ma) (hb : SimB C res N Bk Ct tb Γ mb) : SimB C res N Bk Ct (tIfS tc ta tb) Γ (bnd w fun k => sel k ma mb) := fun P X hm B D ex f n b c σ H fp en =>
  hc _ X hm B σ H fp en ex _ fun k H' hp s => by
    cases k with
    | true => exact iteT (ha P X hp B D ex f n b c σ H' fp (en.step s))
    | false => exact iteF (hb P X hp B D ex f n b c σ H' fp (en.step s))
/-- targets -/
theorem sb_asg {te : TE} {g : TG} {vs : List Nat} {w : Wp α} {e : α → PyData} {Γx : α → List Ety} {k : α → Wp F} (h : EvG C Γ te w (fun r => RF C.K (e r))) (hg : ∀ x, TgG C.K Γ g vs (e x) (Γx x)) (hk : ∀ x, Lands N (Γx x) (k x)) :
    SimB C res N Bk Ct (tAsg te g) Γ (bnd w k) := fun P X hm B D ex f n b c σ H fp en =>
  h _ X hm B σ H fp en ex _ fun r v H' hp s hv => (hg r).run B σ H' fp v (en.step s) hv _ fun σ' fp' en' _ _ => n σ' H' (hk r P X B σ' H' fp' hp en')
/-- x = data -/
theorem sb_set {te : TE} {i : Nat} {w : Wp α} {e : α → PyData} {k : α → Wp F} (h : EvG C Γ te w (fun r => RF C.K (e r))) (hi : i < Γ.length) (hk : ∀ x, Lands N (Γ.set i (.sl (fz C.K (e x)))) (k x)) :
    SimB C res N Bk Ct (tAsg te (gName i)) Γ (bnd w k) := sb_asg (vs := [i]) h (fun x => tg_name hi) hk
/-- x = a new thing -/
theorem sb_setN {te : TE} {i : Nat} {w : Wp α} {S : α → Sl} {k : α → Wp F} (h : EvG C Γ te w (fun r => RN (S r))) (hi : i < Γ.length) (hk : ∀ x, Lands N (Γ.set i (.sl (S x))) (k x)) :
    SimB C res N Bk Ct (tAsg te (gName i)) Γ (bnd w k) := fun P X hm B D ex f n b c σ H fp en =>
  h _ X hm B σ H fp en ex _ fun r v H' hp s ⟨q, ho, hf⟩ => n _ H' (hk r P X B _ H' _ hp ((en.step s).putN hi ho en hf))
/-- the list of one name goes to another: the first is forgotten -/
theorem sb_move {i j : Nat} {S : Sl} (h : Γ[j]? = some (.sl S)) (hi : i < Γ.length) (ro : S.ro = false) (hij : i ≠ j) (hk : Lands N ((Γ.set j .un).set i (.sl S)) m) : SimB C res N Bk Ct (tAsg (tVar j) (gName i)) Γ m := fun P X hm B D ex f n b c σ H fp en => by
  obtain ⟨v, hv, ho⟩ := en.sl j S h
  have en1 := en.forget j
  refine ⟨v, hv, n _ H (hk P X B _ H (put (put fp j []) i (fp j)) hm ?_)⟩
  refine en1.put (by rw [List.length_set]; exact hi) ho (fun a ha k hak => ?_) (fun a ha => en.nt j a ha) (fun _ a ha => en.new j a S h ro ha) fun r hr => (en.rr r hr).2.2 j
  by_cases e : k = j
  · subst e
    rw [put_same] at hak; cases hak
  · rw [put_ne e] at hak
    exact absurd (en.dis k j a hak ha) e
/-- x += e -/
theorem sb_aug {i : Nat} {te : TE} {op : Int → Int → Int} {x : Int} {w : Wp Int} {k : Int → Wp F} (h : Γ[i]? = some (.sl (fz C.K (eI x)))) (he : EvG C Γ te w (fun r => RF C.K (eI r))) (hk : ∀ z, Lands N (Γ.set i (.sl (fz C.K (eI z)))) (k z)) :
    SimB C res N Bk Ct (tAug i te (ipI op)) Γ (bnd w fun y => k (op x y)) := fun P X hm B D ex f n b c σ H fp en => by
  obtain ⟨v, hv, ho⟩ := en.sl i _ h
  have e1 := Fz.int_inv (n := x) ho.2
  subst e1
  refine ⟨_, hv, he _ X hm B σ H fp en ex _ fun y u H' hp s hy => ?_⟩
  have e2 := Fz.int_inv (n := y) hy
  subst e2
  exact ⟨x, y, rfl, rfl, n _ H' (hk _ P X B _ H' _ hp ((en.step s).putF (List.getElem?_eq_some_iff.mp h).1 (.int _)))⟩
theorem sb_drop {te : TE} {w : Wp α} {R : α → Rk} {k : α → Wp F} (h : EvG C Γ te w R) (hk : ∀ x, Lands N Γ (k x)) : SimB C res N Bk Ct (tDrop te) Γ (bnd w k) := fun P X hm B D ex f n b c σ H fp en =>
  h _ X hm B σ H fp en ex _ fun r v H' hp s _ => n _ H' (hk r P X B σ H' fp hp (en.step s))

/-! ### a list that is one's own -/
theorem En.lst {B : Bs} {σ : List (Option V)} {H : Hp} {fp : Nat → List Addr} {i : Nat} {ds : List PyData} (en : En B Γ σ H fp) (h : Γ[i]? = some (.sl (ls C.K ds))) : ∃ p vs, σ[i]? = some (some (.ref p)) ∧ fp i = [p] ∧ H p = some (.lst vs) ∧ FzAll C.K H vs ds := by
  obtain ⟨v, hv, p, vs, rfl, e2, hp, hz⟩ := en.sl i _ h
  exact ⟨p, vs, hv, e2, hp, hz⟩
/-- its content changes -/
theorem En.relist {B : Bs} {σ : List (Option V)} {H : Hp} {fp : Nat → List Addr} {i : Nat} {ds ds' : List PyData} {p : Addr} {vs vs' : List V} (en : En B Γ σ H fp) (h : Γ[i]? = some (.sl (ls C.K ds))) (hv : σ[i]? = some (some (.ref p))) (hf : fp i = [p]) (hp : H p = some (.lst vs)) (hz : FzAll C.K H vs' ds') :
    En B (Γ.set i (.sl (ls C.K ds'))) σ (upd H p (.lst vs')) fp := by
  refine en.mut h rfl hv (by rw [hf]; exact List.mem_singleton.mpr rfl) (fun q hq => by rw [hf] at hq; exact List.mem_singleton.mp hq) rfl ⟨p, vs', rfl, hf, upd_same, hz.stay fun a o e z => ?_⟩
  have : a ≠ p := by
    rintro rfl
    rw [hp] at e; cases e; cases z
  rw [upd_ne this]
  exact e
theorem sb_append {i : Nat} {te : TE} {e : α → PyData} {xs : List α} {w : Wp α} {k : List α → Wp F} (h : Γ[i]? = some (.sl (ls C.K (xs.map e)))) (he : EvG C Γ te w (fun r => RF C.K (e r))) (hk : ∀ x, Lands N (Γ.set i (.sl (ls C.K ((xs ++ [x]).map e)))) (k (xs ++ [x]))) :
    SimB C res N Bk Ct (tDrop (tBM C.K "list" rAppend (tVar i) (tCons te tNil))) Γ (bnd w fun x => grd (xs.length < 16777216) (k (xs ++ [x]))) := fun P X hm B D ex f n b c σ H fp en => by
  obtain ⟨p, vs, hv, hf, hp, hz⟩ := en.lst h
  refine ⟨_, hv, .inl ⟨rfl, vs, .inl (.inl hp)⟩, he _ X hm B σ H fp en ex _ fun x v H' hpx s hx => ?_⟩
  have en' := en.step s
  obtain ⟨p', vs', hv', hf', hp', hz'⟩ := en'.lst h
  rw [hv] at hv'
  cases hv'
  have hl := hz'.length
  rw [List.length_map] at hl
  refine ⟨p, vs', v, rfl, rfl, hp', by rw [hl]; exact lc_list_room _ hpx.1, n _ _ (hk x P X B σ _ fp hpx.2 (en'.relist h hv hf hp' ?_))⟩
  rw [List.map_append]
  exact hz'.append (.one hx)
theorem sb_extend {i : Nat} {te : TE} {e : α → PyData} {xs : List α} {w : Wp (List α)} {k : List α → Wp F} (h : Γ[i]? = some (.sl (ls C.K (xs.map e)))) (he : EvG C Γ te w (fun r => RN (ls C.K (r.map e)))) (hk : ∀ ys, Lands N (Γ.set i (.sl (ls C.K ((xs ++ ys).map e)))) (k (xs ++ ys))) :
    SimB C res N Bk Ct (tDrop (tBM C.K "list" rExtend (tVar i) (tCons te tNil))) Γ (bnd w fun ys => grd (xs.length + ys.length ≤ 16777216) (k (xs ++ ys))) := fun P X hm B D ex f n b c σ H fp en => by
  obtain ⟨p, vs, hv, hf, hp, hz⟩ := en.lst h
  refine ⟨_, hv, .inl ⟨rfl, vs, .inl (.inl hp)⟩, he _ X hm B σ H fp en ex _ fun ys v H' hpx s hx => ?_⟩
  have en' := en.step s
  obtain ⟨p', vs', hv', hf', hp', hz'⟩ := en'.lst h
  rw [hv] at hv'
  cases hv'
  obtain ⟨q, ⟨b', ws, rfl, e2, hb, hzb⟩, _⟩ := hx
  have hl := hz'.length
  have hl2 := hzb.length
  rw [List.length_map] at hl hl2
  refine ⟨p, b', vs', ws, rfl, rfl, hp', hb, by rw [hl, hl2]; exact hpx.1, n _ _ (hk ys P X B σ _ fp hpx.2 (en'.relist h hv hf hp' ?_))⟩
  rw [List.map_append]
  exact hz'.append hzb
theorem sb_setL {i : Nat} {te ti : TE} {e : α → PyData} {xs : List α} {w : Wp α} {wi : Wp Int} {k : List α → Wp F} (h : Γ[i]? = some (.sl (ls C.K (xs.map e)))) (he : EvG C Γ te w (fun r => RF C.K (e r))) (hi : EvG C Γ ti wi (fun r => RF C.K (eI r)))
    (hk : ∀ (x : α) (j : Nat), Lands N (Γ.set i (.sl (ls C.K ((xs.set j x).map e)))) (k (xs.set j x))) :
    SimB C res N Bk Ct (tAsg te (gSub (tVar i) ti rSetL)) Γ (bnd w fun x => bnd wi fun at' => bnd (opt (ixN xs.length at')) fun j => k (xs.set j x)) := fun P X hm B D ex f n b c σ H fp en => by
  refine he _ X hm B σ H fp en ex _ fun x v H1 h1 s1 hx => ?_
  have en1 := en.step s1
  obtain ⟨p, vs, hv, hf, hp, hz⟩ := en1.lst h
  refine ⟨_, hv, hi _ X h1 B σ H1 fp en1 ex _ fun at' u H2 h2 s2 hu => ?_⟩
  obtain ⟨j, hj, h2⟩ := h2
  have en2 := en1.step s2
  obtain ⟨p', vs', hv', hf', hp', hz'⟩ := en2.lst h
  rw [hv] at hv'
  cases hv'
  have hl := hz'.length
  rw [List.length_map] at hl
  refine ⟨p, vs', at', j, rfl, Fz.int_inv hu, hp', by rw [hl]; exact hj, n _ _ (hk x j P X B σ _ fp h2 (en2.relist h hv hf hp' ?_))⟩
  have := hz'.set j (Fz.stay (s2.stay s1.ts) hx)
  rw [List.map_set]
  exact this

/-! ### loops -/
/-- a further fixed heap -/
structure Reb (B B' : Bs) (H1 : Hp) : Prop where
  h : B'.H = H1
  t : B'.T = B.T
  r : B'.R = B.R
  o : ∀ a ∈ B'.O, B.H a = none ∨ a ∈ B.O
  f : Frame B H1
theorem Reb.off {B B' : Bs} {H1 : Hp} (r : Reb B B' H1) {a : Addr} : B'.off a ↔ B.off a := by
  unfold Bs.off
  rw [r.t]
theorem Reb.none {B B' : Bs} {H1 : Hp} (r : Reb B B' H1) {a : Addr} (h : B'.H a = none ∨ a ∈ B'.O) : B.H a = none ∨ a ∈ B.O := by
  rcases h with h | h
  · rw [r.h] at h
    left
    cases e : B.H a with
    | none => rfl
    | some o =>
      obtain ⟨o', e', _⟩ := r.f a o e
      rw [h] at e'; cases e'
  · exact r.o a h
theorem Reb.frame {B B' : Bs} {H1 H : Hp} (r : Reb B B' H1) (f : Frame B' H) : Frame B H := fun a o e => by
  obtain ⟨o1, e1, k1, k2⟩ := r.f a o e
  obtain ⟨o2, e2, k3, k4⟩ := f a o1 (by rw [r.h]; exact e1)
  refine ⟨o2, e2, fun n1 n2 => ?_, fun z => ?_⟩
  · rw [← k1 n1 n2]
    refine k3 (fun z => ?_) (r.off.mpr n2)
    rcases r.o a z with q | q
    · rw [e] at q; cases q
    · exact n1 q
  · have e5 := k2 z
    subst e5
    exact k4 z
theorem Reb.ts {B B' : Bs} {H1 H : Hp} (r : Reb B B' H1) (f : TpSt B' H) : TpSt B H := fun t ht => f t (by rw [r.t]; exact ht)
theorem Reb.en {B B' : Bs} {H1 H : Hp} {σ : List (Option V)} {fp : Nat → List Addr} (r : Reb B B' H1) (en : En B' Γ σ H fp) : En B Γ σ H fp where
  len := en.len
  sl := en.sl
  tp := fun i S hi => by
    obtain ⟨v, fq, ht, hv⟩ := en.tp i S hi
    exact ⟨v, fq, by rw [← r.t]; exact ht, hv⟩
  off := en.off
  dis := en.dis
  nt := fun i a ha => r.off.mp (en.nt i a ha)
  new := fun i a S hS hr ha => r.none (en.new i a S hS hr ha)
  rd := fun i K' ds hi => by
    have z := en.rd i K' ds hi
    rw [r.r] at z
    exact z
  rb := fun i S hi => by
    have z := en.rb i S hi
    rw [r.r] at z
    exact z
  rr := fun x hx => by
    obtain ⟨h1, h2, h3⟩ := en.rr x (by rw [r.r]; exact hx)
    exact ⟨h1, r.off.mp h2, h3⟩
  fr := r.frame en.fr
  tps := r.ts en.tps
theorem Reb.exok {B B' : Bs} {H1 : Hp} {X : Xn → Prop} (r : Reb B B' H1) (ex : Exok C B X) : Exok C B' X := fun x v d H' hx hf ht hi => ex x v d H' hx (r.frame hf) (r.ts ht) hi
theorem Reb.fin {B B' : Bs} {H1 : Hp} {D : Ends} {P : F → Prop} (r : Reb B B' H1) (f : Fin C B D res P) : Fin C B' D res P := fun out v H' hp hf ht ho => f out v H' hp (r.frame hf) (r.ts ht) (by
  cases e : res out with
  | fz d =>
    rw [e] at ho
    exact ho
  | nw S =>
    rw [e] at ho
    obtain ⟨q, h1, h2, h3⟩ := ho
    exact ⟨q, h1, fun a ha => r.none (h2 a ha), fun a ha => r.off.mp (h3 a ha)⟩)
/-- the objects that the names own and may change -/
def roB (Γ : List Ety) (i : Nat) : Bool := match Γ[i]? with
  | some (.sl S) => S.ro
  | _ => false
def owned (Γ : List Ety) (fp : Nat → List Addr) : List Addr := ((List.range Γ.length).filter fun i => !roB Γ i).flatMap fp
theorem roB_sl {i : Nat} {S : Sl} (h : Γ[i]? = some (.sl S)) : roB Γ i = S.ro := by unfold roB; rw [h]
theorem mem_owned {fp : Nat → List Addr} {a : Addr} : a ∈ owned Γ fp ↔ ∃ i, i < Γ.length ∧ roB Γ i = false ∧ a ∈ fp i := by
  unfold owned
  rw [List.mem_flatMap]
  constructor
  · rintro ⟨i, hi, ha⟩
    obtain ⟨h1, h2⟩ := List.mem_filter.mp hi
    exact ⟨i, List.mem_range.mp h1, by simpa using h2, ha⟩
  · rintro ⟨i, h1, h2, h3⟩
    exact ⟨i, List.mem_filter.mpr ⟨List.mem_range.mpr h1, by simpa using h2⟩, h3⟩
theorem En.rebase {B : Bs} {σ : List (Option V)} {H : Hp} {fp : Nat → List Addr} (en : En B Γ σ H fp) : Reb B ⟨H, owned Γ fp, B.T, B.R⟩ H ∧ En ⟨H, owned Γ fp, B.T, B.R⟩ Γ σ H fp := by
  refine ⟨⟨rfl, rfl, rfl, fun a ha => ?_, en.fr⟩, ⟨en.len, en.sl, en.tp, en.off, en.dis, en.nt, fun i a S hS hr ha => .inr ?_, en.rd, en.rb, en.rr, fun a o e => ⟨o, e, fun _ _ => rfl, fun _ => rfl⟩, en.tps⟩⟩
  · obtain ⟨i, hi, hr, ha⟩ := mem_owned.mp ha
    obtain ⟨S, hS⟩ := en.lt ha
    exact en.new i a S hS (by rw [← roB_sl hS]; exact hr) ha
  · exact mem_owned.mpr ⟨i, (List.getElem?_eq_some_iff.mp hS).1, by rw [roB_sl hS]; exact hr, ha⟩
def forK (body : α → S → (S → Wp F) → (S → Wp F) → Wp F) (exit : S → Wp F) : List α → S → Wp F
  | [], s => exit s
  | x :: xs, s => body x s (fun s' => forK body exit xs s') exit
/-- a loop's turns -/
theorem for_core {g : TG} {tb : TS} {vs : List Nat} {e : α → PyData} {Γh : S → List Ety} {Γb : α → S → List Ety} {body : α → S → (S → Wp F) → (S → Wp F) → Wp F} {exit : S → Wp F} {xs : List α} {s0 : S} {J : It} {sup : List Addr} {B B' : Bs} {H1 : Hp} {σ : List (Option V)}
    {fp1 : Nat → List Addr} {P : F → Prop} {X : Xn → Prop} {D : Ends} (ok : ItOk C.K B J H1 (xs.map e) sup) (reb : Reb B B' H1) (nsup : ∀ a ∈ sup, a ∉ B'.O) (hp : forK body exit xs s0 P X) (en2 : En B' (Γh s0) σ H1 fp1) (ex : Exok C B X) (f : Fin C B D res P)
    (hg : ∀ x s, TgG C.K (Γh s) g vs (e x) (Γb x s)) (hb : ∀ x s kc, SimB C res (atC Γh kc) (atC Γh exit) (atC Γh kc) tb (Γb x s) (body x s kc exit)) (out : ∀ s σ H fp, exit s P X → En B' (Γh s) σ H fp → D.nx σ H) :
    ∃ W : Nat → Nat → L2.St → Hp → Prop, (∃ m, W 0 m σ H1) ∧ ∀ i m σ H, W i m σ H → (J.stop i H ∧ D.nx σ H) ∨ (J.go i H ∧ ∃ N : L2.St → Hp → Prop, (∀ σ' H', N σ' H' → ∃ m', m' < m ∧ W (i + 1) m' σ' H') ∧ ∀ x H', J.yld i H x H' → g x σ H' fun σ2 H2 => tb { D with nx := N, ct := N, bk := D.nx } σ2 H2) := by
  have hB'H : B'.H = H1 := reb.h
  have stand : ∀ H2, Frame B' H2 → ∀ a o, H1 a = some o → (a ∈ sup ∨ still o = true) → H2 a = some o := fun H2 fr a o ea z => by
    obtain ⟨o', e', k1, k2⟩ := fr a o (by rw [hB'H]; exact ea)
    rcases z with z | z
    · rw [k1 (nsup a z) (reb.off.mpr (ok.sp a z).1)] at e'
      exact e'
    · rw [k2 z] at e'
      exact e'
  refine ⟨fun i m' σ2 H2 => m' = xs.length - i ∧ i ≤ xs.length ∧ ∃ s fp2, forK body exit (xs.drop i) s P X ∧ En B' (Γh s) σ2 H2 fp2, ⟨xs.length, by omega, Nat.zero_le _, s0, fp1, hp, en2⟩, ?_⟩
  rintro i m' σ2 H2 ⟨rfl, hi', s, fp2, hk, en3⟩
  by_cases hlt : i < xs.length
  · obtain ⟨go, yld⟩ := ok.go i H2 (stand H2 en3.fr) (by rw [List.length_map]; exact hlt)
    refine .inr ⟨go, fun σ' H' => ∃ m', m' < xs.length - i ∧ (m' = xs.length - (i + 1) ∧ i + 1 ≤ xs.length ∧ ∃ s fp2, forK body exit (xs.drop (i + 1)) s P X ∧ En B' (Γh s) σ' H' fp2), fun σ' H' h => h, fun x H3 hy => ?_⟩
    obtain ⟨kp3, d, hd, hx3⟩ := yld x H3 hy
    have ed : d = e xs[i] := by
      rw [List.getElem?_map, List.getElem?_eq_getElem hlt] at hd
      exact (Option.some.inj hd).symm
    subst ed
    have s3 : Stp B' H2 H3 := .same en3.tps kp3
    have hdrop : xs.drop i = xs[i] :: xs.drop (i + 1) := List.drop_eq_getElem_cons hlt
    rw [hdrop] at hk
    refine (hg xs[i] s).run B' σ2 H3 fp2 x (en3.step s3) hx3 _ fun σ4 fp4 en4 _ _ => ?_
    have again : ∀ σ' H', atC Γh (fun s' => forK body exit (xs.drop (i + 1)) s') P X B' σ' H' → ∃ m', m' < xs.length - i ∧ (m' = xs.length - (i + 1) ∧ i + 1 ≤ xs.length ∧ ∃ s fp2, forK body exit (xs.drop (i + 1)) s P X ∧ En B' (Γh s) σ' H' fp2) := fun σ' H' ⟨s', fp', hk', en'⟩ =>
      ⟨xs.length - (i + 1), by omega, rfl, hlt, s', fp', hk', en'⟩
    exact hb xs[i] s _ P X hk B' { D with nx := _, ct := _, bk := D.nx } (reb.exok ex) (reb.fin f) again (fun σ' H' ⟨s', fp', hk', en'⟩ => out s' σ' H' fp' hk' en') again σ4 H3 fp4 en4
  · have ei : i = xs.length := by omega
    subst ei
    rw [List.drop_length] at hk
    exact .inl ⟨ok.stop _ H2 (stand H2 en3.fr) (by rw [List.length_map]; exact Nat.le_refl _), out s σ2 H2 fp2 hk en3⟩
theorem sb_for {wi : TI} {g : TG} {tb : TS} {vs : List Nat} {w : Wp (List α)} {e : α → PyData} {own : Nat → Bool} {Γh : S → List Ety} {Γb : α → S → List Ety} {body : α → S → (S → Wp F) → (S → Wp F) → Wp F} {exit : S → Wp F} (s0 : S)
    (hi : ItG C Γ wi w (fun r => r.map e) own) (hown : ∀ i, own i = true → roB (Γh s0) i = true) (hw0 : WkG Γ (Γh s0))
    (hg : ∀ x s, TgG C.K (Γh s) g vs (e x) (Γb x s)) (hb : ∀ x s kc, SimB C res (atC Γh kc) (atC Γh exit) (atC Γh kc) tb (Γb x s) (body x s kc exit)) (hx : ∀ s, Lands N (Γh s) (exit s)) :
    SimB C res N Bk Ct (tFor wi g tb) Γ (bnd w fun xs => forK body exit xs s0) := fun P X hm B D ex f n b c σ H fp en => by
  refine hi _ X hm B σ H fp en ex _ fun xs J H1 sup hp s1 ok hsup => ?_
  have en1 := en.step s1
  obtain ⟨fp1, enh, sub⟩ := hw0 B σ H1 fp en1
  obtain ⟨reb, en2⟩ := enh.rebase
  refine for_core ok reb (fun a ha hO => ?_) hp en2 ex f hg hb fun s σ' H' fp' he en' => n σ' H' (hx s P X B σ' H' fp' he (reb.en en'))
  obtain ⟨j, _, hr, hj⟩ := mem_owned.mp hO
  have hj' := sub j a hj
  rcases hsup a ha with z | ⟨i, hoi, hai⟩ | ⟨r, hr, rfl⟩
  · obtain ⟨T, hT⟩ := en.lt hj'
    obtain ⟨v, _, ho⟩ := en.sl j T hT
    obtain ⟨o, eo, _⟩ := T.dom ho hj'
    rw [z] at eo; cases eo
  · have e := en.dis j i a hj' hai
    subst e
    rw [hown j hoi] at hr; cases hr
  · exact (en.rr r hr).2.2 j hj'
/-- a list while it is walked -/
def lkOwn (K : PySem.W.Frag) (p : Addr) (vs : List V) (ds : List PyData) (H : Hp) (v : V) (fp : List Addr) : Prop := v = .ref p ∧ fp = [p] ∧ H p = some (.lst vs) ∧ FzAll K H vs ds
def lk (K : PySem.W.Frag) (p : Addr) (vs : List V) (ds : List PyData) : Sl where
  own := lkOwn K p vs ds
  ro := true
  dom := fun h ha => by
    obtain ⟨_, e, hp, _⟩ := h
    rw [e] at ha
    rw [List.mem_singleton.mp ha]
    exact ⟨_, hp, rfl⟩
  keep := fun h k => by
    obtain ⟨e1, e2, hp, hz⟩ := h
    exact ⟨e1, e2, k p _ hp (.inl (by rw [e2]; exact List.mem_singleton.mpr rfl)), hz.stay fun a o e z => k a o e (.inr z)⟩
theorem ev_k {i : Nat} {e : α → PyData} {p : Addr} {vs : List V} (xs : List α) (h : Γ[i]? = some (.sl (lk C.K p vs (xs.map e)))) : EvG C Γ (tVar i) (ret xs) (fun r => RL C.K (r.map e)) := fun P X hw B σ H fp en ex Q q => by
  obtain ⟨v, hv, rfl, e2, hp, hz⟩ := en.sl i _ h
  exact ⟨_, hv, q xs _ H hw (.refl en.tps) ⟨p, vs, rfl, .inl ⟨.inl hp, en.nt i p (by rw [e2]; exact List.mem_singleton.mpr rfl)⟩, hz⟩⟩
/-- for x in xs, xs a name whose list the body leaves as it is -/
theorem sb_forV {i : Nat} {g : TG} {tb : TS} {vs : List Nat} {e : α → PyData} {xs : List α} {Γh : Addr → List V → S → List Ety} {Γb : Addr → List V → α → S → List Ety} {body : α → S → (S → Wp F) → (S → Wp F) → Wp F} {exit : S → Wp F} (s0 : S)
    (h : Γ[i]? = some (.sl (ls C.K (xs.map e)))) (hw0 : ∀ p vs, WkG (Γ.set i (.sl (lk C.K p vs (xs.map e)))) (Γh p vs s0)) (hs : ∀ p vs s, (Γh p vs s)[i]? = some (.sl (lk C.K p vs (xs.map e))))
    (hg : ∀ p ws x s, TgG C.K (Γh p ws s) g vs (e x) (Γb p ws x s)) (hb : ∀ p ws x s kc, SimB C res (atC (Γh p ws) kc) (atC (Γh p ws) exit) (atC (Γh p ws) kc) tb (Γb p ws x s) (body x s kc exit)) (hx : ∀ p vs s, Lands N ((Γh p vs s).set i (.sl (ls C.K (xs.map e)))) (exit s)) :
    SimB C res N Bk Ct (tFor (iList C.K (tVar i)) g tb) Γ (forK body exit xs s0) := fun P X hm B D ex f n b c σ H fp en => by
  obtain ⟨p, ws, hv, hf, hp, hz⟩ := en.lst h
  have hm' : p ∈ fp i := by rw [hf]; exact List.mem_singleton.mpr rfl
  have hilt : i < Γ.length := (List.getElem?_eq_some_iff.mp h).1
  have hnew := en.new i p _ h rfl hm'
  have enk : En B (Γ.set i (.sl (lk C.K p ws (xs.map e)))) σ H (put fp i [p]) := by
    have z := en.put (S := lk C.K p ws (xs.map e)) (v := .ref p) (q := [p]) hilt ⟨rfl, rfl, hp, hz⟩ (fun a ha j hj => ?_) (fun a ha => ?_) (fun z => nomatch z) fun r hr ha => (en.rr r hr).2.2 i (by rw [hf]; exact ha)
    · rw [set_id σ i _ hv] at z
      exact z
    · rw [List.mem_singleton.mp ha] at hj
      exact en.dis j i p hj hm'
    · rw [List.mem_singleton.mp ha]
      exact en.nt i p hm'
  obtain ⟨fp1, enh, sub⟩ := hw0 p ws B σ H _ enk
  obtain ⟨reb, en2⟩ := enh.rebase
  refine ⟨_, hv, p, rfl, ⟨ws, .inl (.inl hp)⟩, ?_⟩
  have ok : ItOk C.K B (Itl C.K p) H (xs.map e) [p] := by
    refine ⟨fun a ha => ?_, fun i H2 st hi => ?_, fun i H2 st hi => ⟨ws, .inl (.inl (st p _ hp (.inl (by simp)))), le_beta hz.length hi⟩⟩
    · rw [List.mem_singleton.mp ha]
      exact ⟨en.nt _ p hm', _, hp⟩
    · have stay : Stay H H2 := fun a o e z => st a o e (.inr z)
      have hs2 : SqL C.K H2 p ws := .inl (.inl (st p _ hp (.inl (by simp))))
      have hi2 : i < ws.length := lt_beta hz.length hi
      refine ⟨⟨ws, ws[i], hs2, List.getElem?_eq_getElem hi2⟩, fun x H3 hy => ?_⟩
      obtain ⟨rfl, hx⟩ := hy
      obtain ⟨d, hd, hf⟩ := (hz.stay stay).getV (hx ws hs2)
      exact ⟨fun _ _ e => e, d, hd, hf⟩
  refine for_core ok reb (fun a ha hO => ?_) hm en2 ex f (hg p ws) (hb p ws) fun s σ' H' fp' he en' => ?_
  · rw [List.mem_singleton.mp ha] at hO
    obtain ⟨j, _, hr, hj⟩ := mem_owned.mp hO
    have hj' := sub j p hj
    by_cases e : j = i
    · subst e
      rw [roB_sl (hs p ws s0)] at hr; cases hr
    · rw [put_ne e] at hj'
      exact e (en.dis j i p hj' hm')
  · have en3 := reb.en en'
    obtain ⟨v, hv3, rfl, e3, hp3, hz3⟩ := en3.sl i _ (hs p ws s)
    have hil : i < (Γh p ws s).length := (List.getElem?_eq_some_iff.mp (hs p ws s)).1
    have en4 : En B ((Γh p ws s).set i (.sl (ls C.K (xs.map e)))) σ' H' (put fp' i [p]) := by
      have z := en3.put (S := ls C.K (xs.map e)) (v := .ref p) (q := [p]) hil ⟨p, ws, rfl, rfl, hp3, hz3⟩ (fun a ha j hj => ?_) (fun a ha => ?_) (fun _ a ha => ?_) fun r hr ha => (en3.rr r hr).2.2 i (by rw [e3]; exact ha)
      · rw [set_id σ' i _ hv3] at z
        exact z
      · rw [List.mem_singleton.mp ha] at hj
        exact en3.dis j i p hj (by rw [e3]; exact List.mem_singleton.mpr rfl)
      · rw [List.mem_singleton.mp ha]
        exact en3.nt i p (by rw [e3]; exact List.mem_singleton.mpr rfl)
      · rw [List.mem_singleton.mp ha]
        exact hnew
    exact n σ' H' (hx p ws s P X B σ' H' _ he en4)
def whileK (c : S → Wp Bool) (body : S → (S → Wp F) → (S → Wp F) → Wp F) (exit : S → Wp F) : Nat → S → Wp F
  | 0, _ => cut
  | n + 1, s => bnd (c s) fun b => sel b (body s (fun s' => whileK c body exit n s') exit) (exit s)
def whileW (c : S → Wp Bool) (body : S → (S → Wp F) → (S → Wp F) → Wp F) (exit : S → Wp F) (s : S) : Wp F := fun P X => ∃ n, whileK c body exit n s P X
theorem sb_while {tc : TT} {tb : TS} {Γh : S → List Ety} {c : S → Wp Bool} {body : S → (S → Wp F) → (S → Wp F) → Wp F} {exit : S → Wp F} (s0 : S) (hw0 : WkG Γ (Γh s0)) (hc : ∀ s, EvT C (Γh s) tc (c s))
    (hb : ∀ s kc, SimB C res (atC Γh kc) (atC Γh exit) (atC Γh kc) tb (Γh s) (body s kc exit)) (hx : ∀ s, Lands N (Γh s) (exit s)) : SimB C res N Bk Ct (tWhile tc tb) Γ (whileW c body exit s0) := fun P X ⟨k, hm⟩ B D ex f n b ct σ H fp en => by
  obtain ⟨fp0, en0, _⟩ := hw0 B σ H fp en
  refine ⟨fun m σ' H' => ∃ s fp', whileK c body exit m s P X ∧ En B (Γh s) σ' H' fp', ⟨k, s0, fp0, hm, en0⟩, ?_⟩
  rintro m σ1 H1 ⟨s, fp1, hk, en1⟩
  cases m with
  | zero => exact hk.elim
  | succ m =>
    refine hc s _ X hk B σ1 H1 fp1 en1 ex _ fun q H2 hq s2 => ?_
    have en2 := en1.step s2
    cases q with
    | true =>
      refine iteT ?_
      refine ⟨fun σ' H' => ∃ s fp', whileK c body exit m s P X ∧ En B (Γh s) σ' H' fp', fun σ' H' h => ⟨m, Nat.lt_succ_self m, h⟩, ?_⟩
      exact hb s _ P X hq B { D with nx := _, ct := _, bk := D.nx } ex f (fun σ' H' ⟨s', fp', h1, h2⟩ => ⟨s', fp', h1, h2⟩) (fun σ' H' ⟨s', fp', h1, h2⟩ => n σ' H' (hx s' P X B σ' H' fp' h1 h2)) (fun σ' H' ⟨s', fp', h1, h2⟩ => ⟨s', fp', h1, h2⟩) σ1 H2 fp1 en2
    | false => exact iteF (n σ1 H2 (hx s P X B σ1 H2 fp1 hq en2))
end
end WL
/-! WL, part 5: defs and calls. -/
namespace WL
open PySem PySem.Spec PyProof.Rows L2

/-- a def's argument: data, a list that is read, the tape -/
inductive Ag where
  | d (x : PyData)
  | l (xs : List PyData)
  | t (S : Sl)
  /-- a thing of the caller's, read -/
  | b (S : Sl)
  /-- a thing that goes over to the def -/
  | o (S : Sl)
def Ag.ety (K : PySem.W.Frag) : Ag → Ety
  | .d x => .sl (fz K x)
  | .l xs => .rd K xs
  | .t S => .tp S
  | .b S => .rb S
  | .o S => .sl S
def Ag.rk (K : PySem.W.Frag) : Ag → Rk
  | .d x => RF K x
  | .l xs => RL K xs
  | .t S => RT S
  | .b S => RB S
  | .o _ => fun _ _ _ _ => False
/-- the promise of a def that raises nothing -/
def spN (K : PySem.W.Frag) {ι F : Type} (ag : ι → List Ag) (f : ι → Wp F) (res : F → Oc) : Sp := fun vs H Q _ => ∃ (x : ι) (P : F → Prop) (T : Option (Sl × V × List Addr)) (R : List (Addr × HO)) (fp : Nat → List Addr),
  f x P (fun _ => False) ∧ En ⟨H, [], T, R⟩ ((ag x).map (Ag.ety K)) (vs.map some) H fp ∧ ∀ out v H', P out → Frame ⟨H, [], T, R⟩ H' → TpSt ⟨H, [], T, R⟩ H' → OcOk K ⟨H, [], T, R⟩ H' (res out) v → Q v H'
/-- the promise of a def that may raise -/
def spX (K : PySem.W.Frag) (ct : Nat → Value × Str) {ι F : Type} (ag : ι → List Ag) (f : ι → Wp F) (res : F → Oc) : Sp := fun vs H Q E => ∃ (x : ι) (P : F → Prop) (X : Xn → Prop) (T : Option (Sl × V × List Addr)) (R : List (Addr × HO)) (fp : Nat → List Addr),
  f x P X ∧ En ⟨H, [], T, R⟩ ((ag x).map (Ag.ety K)) (vs.map some) H fp ∧ (∀ out v H', P out → Frame ⟨H, [], T, R⟩ H' → TpSt ⟨H, [], T, R⟩ H' → OcOk K ⟨H, [], T, R⟩ H' (res out) v → Q v H') ∧ Exok ⟨K, E, ct⟩ ⟨H, [], T, R⟩ X
section
variable {K : PySem.W.Frag} {C : Cn} {Γ : List Ety} {α β γ ι F : Type}
theorem En.slots {B : Bs} {σ : List (Option V)} {H : Hp} {fp : Nat → List Addr} (en : En B Γ σ H fp) (n : Nat) : En B (Γ ++ List.replicate n .un) (σ ++ List.replicate n none) H fp := by
  have get : ∀ (i : Nat) (e : Ety), (Γ ++ List.replicate n .un)[i]? = some e → e ≠ .un → Γ[i]? = some e := fun i e h ne => by
    by_cases hi : i < Γ.length
    · rwa [List.getElem?_append_left hi] at h
    · rw [List.getElem?_append_right (by omega), List.getElem?_replicate] at h
      split at h
      · cases h; exact absurd rfl ne
      · cases h
  have put : ∀ (i : Nat) (v : Option V), σ[i]? = some v → (σ ++ List.replicate n none)[i]? = some v := fun i v h => by
    rw [List.getElem?_append_left (List.getElem?_eq_some_iff.mp h).1]
    exact h
  refine ⟨by rw [List.length_append, List.length_append, en.len, List.length_replicate, List.length_replicate], fun i S h => ?_, fun i S h => ?_, fun i h => ?_, en.dis, en.nt, fun i a S h => ?_, fun i K' ds h => ?_, fun i S h => ?_, en.rr, en.fr, en.tps⟩
  · obtain ⟨v, hv, ho⟩ := en.sl i S (get i _ h nofun)
    exact ⟨v, put i _ hv, ho⟩
  · obtain ⟨v, fq, ht, hv⟩ := en.tp i S (get i _ h nofun)
    exact ⟨v, fq, ht, put i _ hv⟩
  · refine en.off i fun S hS => h S ?_
    rw [List.getElem?_append_left (List.getElem?_eq_some_iff.mp hS).1]
    exact hS
  · exact en.new i a S (get i _ h nofun)
  · obtain ⟨r, us, h1, h2, h3⟩ := en.rd i K' ds (get i _ h nofun)
    exact ⟨r, us, h1, put i _ h2, h3⟩
  · obtain ⟨v, fq, h1, h2, h3⟩ := en.rb i S (get i _ h nofun)
    exact ⟨v, fq, put i _ h1, h2, h3⟩
/-- behind the body: None -/
def endC (res : F → Oc) : Cont F := fun P X B σ H => ∃ out, P out ∧ res out = .fz .none ∧ Frame B H ∧ TpSt B H
theorem la_end {res : F → Oc} {out : F} (h : res out = .fz .none) : Lands (endC res) Γ (ret out) := fun P X B σ H fp hm en => ⟨out, hm, h, en.fr, en.tps⟩
variable {P : Program} {w : World} {mg : Str → Option Value} {base : Heap}
theorem start_eq {N : List Str} {vs : List V} : start N vs = vs.map some ++ List.replicate (N.length - vs.length) none := rfl
theorem run_body {res : F → Oc} {t : TS} {f : Wp F} {Pq : F → Prop} {Xq : Xn → Prop} {T : Option (Sl × V × List Addr)} {R : List (Addr × HO)} {H : Hp} {vs : List V} {N : List Str} {fp : Nat → List Addr} {Q : VK} {ags : List Ag} (hs : SimB C res (endC res) noC noC t (ags.map (Ag.ety C.K) ++ List.replicate (N.length - vs.length) .un) f)
    (hf : f Pq Xq) (en : En ⟨H, [], T, R⟩ (ags.map (Ag.ety C.K)) (vs.map some) H fp) (ex : Exok C ⟨H, [], T, R⟩ Xq) (fin : ∀ out v H', Pq out → Frame ⟨H, [], T, R⟩ H' → TpSt ⟨H, [], T, R⟩ H' → OcOk C.K ⟨H, [], T, R⟩ H' (res out) v → Q v H') :
    t { nx := fun _ H' => Q .non H', rt := Q } (start N vs) H := by
  refine hs Pq Xq hf ⟨H, [], T, R⟩ { nx := fun _ H' => Q .non H', rt := Q } ex fin (fun σ H' h => ?_) (fun σ H' h => h.elim) (fun σ H' h => h.elim) _ _ fp ?_
  · obtain ⟨out, hp, hr, h1, h2⟩ := h
    refine fin out .non H' hp h1 h2 ?_
    rw [hr]
    exact .non
  · rw [start_eq]
    exact en.slots _
/-- a def that raises nothing -/
theorem fn_n {x qual : Str} {st : Stmt} {f : Addr} {fd : FuncData} {N ps : List Str} {k : Nat} {ag : ι → List Ag} {fm : ι → Wp F} {res : F → Oc} (Fu : Fun K x qual st f fd) (S : FnScope N ps (defScope st)) (hlen : ∀ x, (ag x).length = ps.length)
    (hb : ∀ (cdv : Value) (A : Around) (outer : List PySem.Env) (s : Shared) (H : Hp) (E : XK), Room k (A.deeper (envOfC qual (defScope st) s.heap.objs.size f cdv)) →
      ∃ t, PSs (cxOf CX0 P w K mg base N qual (defScope st) f cdv A outer s H E).nox (defBody st) t ∧ ∀ x, SimB ⟨K, E0, fun _ => (.none, "")⟩ res (endC res) noC noC t ((ag x).map (Ag.ety K) ++ List.replicate (N.length - ps.length) .un) (fm x)) :
    FnOk P w K mg base CX0 (k + 1) f fd ps (spN K ag fm res) := by
  refine Fu.ok S (fun vs H Q E h => ?_) (fun cdv A outer s H vs Q E hr h => ?_)
  · obtain ⟨x, P, T, R, fp, _, en, _⟩ := h
    have := en.len
    rw [List.length_map, List.length_map] at this
    rw [this, hlen]
  · obtain ⟨t, ht, hs⟩ := hb cdv A outer s H E hr
    refine ⟨t, ht, ?_⟩
    obtain ⟨x, P, T, R, fp, hf, en, fin⟩ := h
    have hl := en.len
    rw [List.length_map, List.length_map] at hl
    have hs' := hs x
    rw [← hlen x, ← hl] at hs'
    exact run_body (C := ⟨K, E0, fun _ => (.none, "")⟩) hs' hf en exok_no fin

/-! ### calls -/
def ArgAt (K : PySem.W.Frag) (B : Bs) (R : List (Addr × HO)) (H : Hp) (v : V) : Ag → Prop
  | .d x => Fz K H v x
  | .l xs => ∃ (p : Addr) (vs : List V), ((p, HO.lst vs) ∈ R ∨ ∀ H', SqL K H' p vs) ∧ v = .ref p ∧ FzAll K H vs xs
  | .t S => ∃ fq, B.T = some (S, v, fq)
  | .b S => ∃ fq, S.own H v fq ∧ ∀ a ∈ fq, ∃ o, (a, o) ∈ R
  | .o _ => False
theorem ArgAt.more {B : Bs} {R : List (Addr × HO)} {H : Hp} {v : V} {a : Ag} (x : List (Addr × HO)) (h : ArgAt K B R H v a) : ArgAt K B (x ++ R) H v a := by
  cases a with
  | d y => exact h
  | l ys =>
    obtain ⟨r, us, h1, h2⟩ := h
    exact ⟨r, us, h1.imp (fun h => List.mem_append_right _ h) fun h => h, h2⟩
  | t S => exact h
  | o S => exact h
  | b S =>
    obtain ⟨fq, h1, h2⟩ := h
    exact ⟨fq, h1, fun a ha => (h2 a ha).imp fun o ho => List.mem_append_right _ ho⟩
theorem args_R {B : Bs} {H0 H : Hp} : ∀ {vs : List V} {as : List Ag}, RAll B H0 H vs (as.map (Ag.rk K)) → ∃ R : List (Addr × HO), (∀ r ∈ R, Rd H r.1 r.2 ∧ B.off r.1) ∧ vs.length = as.length ∧ ∀ (i : Nat) (a : Ag), as[i]? = some a → ∃ v, vs[i]? = some v ∧ ArgAt K B R H v a
  | vs, [], h => by
    cases h
    exact ⟨[], fun r h => absurd h (by simp), rfl, fun i a h => by simp at h⟩
  | vs, a :: as, h => by
    cases h with
    | cons h1 h2 =>
      obtain ⟨R, hR, hl, hA⟩ := args_R h2
      cases a with
      | d x =>
        refine ⟨R, hR, by rw [List.length_cons, List.length_cons, hl], fun i a hi => ?_⟩
        cases i with
        | zero => cases hi; exact ⟨_, rfl, h1⟩
        | succ i => exact hA i a hi
      | t S =>
        refine ⟨R, hR, by rw [List.length_cons, List.length_cons, hl], fun i a hi => ?_⟩
        cases i with
        | zero => cases hi; exact ⟨_, rfl, h1⟩
        | succ i => exact hA i a hi
      | o S => exact h1.elim
      | b S =>
        obtain ⟨fq, ho, hf⟩ := h1
        refine ⟨fq.map (fun a => (a, (H a).getD (.tup []))) ++ R, fun r hr => ?_, by rw [List.length_cons, List.length_cons, hl], fun i a hi => ?_⟩
        · rcases List.mem_append.mp hr with hr | hr
          · obtain ⟨a, ha, rfl⟩ := List.mem_map.mp hr
            obtain ⟨o, e, _⟩ := S.dom ho ha
            refine ⟨.inl ?_, hf a ha⟩
            show H a = some ((H a).getD (.tup []))
            rw [e]
            rfl
          · exact hR r hr
        · cases i with
          | zero => cases hi; exact ⟨_, rfl, fq, ho, fun a ha => ⟨_, List.mem_append_left _ (List.mem_map.mpr ⟨a, ha, rfl⟩)⟩⟩
          | succ i =>
            obtain ⟨v, h3, h4⟩ := hA i a hi
            exact ⟨v, h3, h4.more _⟩
      | l xs =>
        obtain ⟨p, ws, e, hs, hz⟩ := h1
        rcases hs with ⟨hs, ho⟩ | hs
        · refine ⟨[(p, HO.lst ws)] ++ R, fun r hr => ?_, by rw [List.length_cons, List.length_cons, hl], fun i a hi => ?_⟩
          · rcases List.mem_cons.mp (show r ∈ (p, HO.lst ws) :: R from hr) with rfl | hr
            · exact ⟨hs, ho⟩
            · exact hR r hr
          · cases i with
            | zero => cases hi; exact ⟨_, rfl, p, ws, .inl List.mem_cons_self, e, hz⟩
            | succ i =>
              obtain ⟨v, h3, h4⟩ := hA i a hi
              exact ⟨v, h3, h4.more _⟩
        · refine ⟨R, hR, by rw [List.length_cons, List.length_cons, hl], fun i a hi => ?_⟩
          cases i with
          | zero => cases hi; exact ⟨_, rfl, p, ws, .inr hs, e, hz⟩
          | succ i => exact hA i a hi
theorem args_en {B : Bs} {H0 H : Hp} {vs : List V} {as : List Ag} (ts : TpSt B H) (h : RAll B H0 H vs (as.map (Ag.rk K))) : ∃ R, En ⟨H, [], B.T, R⟩ (as.map (Ag.ety K)) (vs.map some) H (fun _ => []) := by
  obtain ⟨R, hR, hl, hA⟩ := args_R h
  have at' : ∀ (i : Nat) (e : Ety), (as.map (Ag.ety K))[i]? = some e → ∃ a v, as[i]? = some a ∧ e = a.ety K ∧ (vs.map some)[i]? = some (some v) ∧ ArgAt K B R H v a := fun i e hi => by
    rw [List.getElem?_map] at hi
    cases q : as[i]? with
    | none => rw [q] at hi; cases hi
    | some a =>
      rw [q] at hi
      cases hi
      obtain ⟨v, h1, h2⟩ := hA i a q
      exact ⟨a, v, rfl, rfl, by rw [List.getElem?_map, h1]; rfl, h2⟩
  refine ⟨R, by rw [List.length_map, List.length_map, hl], fun i S hi => ?_, fun i S hi => ?_, fun i _ => rfl, fun i j a h => absurd h (by simp), fun i a h => absurd h (by simp), fun i a S _ _ h => absurd h (by simp), fun i K' ds hi => ?_, fun i S hi => ?_, fun r hr => ⟨(hR r hr).1, (hR r hr).2, fun i => by simp⟩, fun a o e => ⟨o, e, fun _ _ => rfl, fun _ => rfl⟩, ts⟩
  · obtain ⟨a, v, h1, h2, h3, h4⟩ := at' i _ hi
    cases a with
    | o x => exact h4.elim
    | d x =>
      cases h2
      exact ⟨v, h3, rfl, h4⟩
    | l x => cases h2
    | t _ => cases h2
    | b _ => cases h2
  · obtain ⟨a, v, h1, h2, h3, h4⟩ := at' i _ hi
    cases a with
    | o x => exact h4.elim
    | d x => cases h2
    | l x => cases h2
    | b _ => cases h2
    | t S' =>
      cases h2
      obtain ⟨fq, ht⟩ := h4
      exact ⟨v, fq, ht, h3⟩
  · obtain ⟨a, v, h1, h2, h3, h4⟩ := at' i _ hi
    cases a with
    | o x => exact h4.elim
    | d x => cases h2
    | t _ => cases h2
    | b _ => cases h2
    | l x =>
      cases h2
      obtain ⟨r, us, h5, h6, h7⟩ := h4
      exact ⟨r, us, h5, by rw [h3, h6], h7⟩
  · obtain ⟨a, v, h1, h2, h3, h4⟩ := at' i _ hi
    cases a with
    | o x => exact h4.elim
    | d x => cases h2
    | l x => cases h2
    | t _ => cases h2
    | b S' =>
      cases h2
      obtain ⟨fq, h5, h6⟩ := h4
      exact ⟨v, fq, h3, h5, h6⟩
theorem after_call {B : Bs} {H H' : Hp} {R : List (Addr × HO)} (f : Frame ⟨H, [], B.T, R⟩ H') (t : TpSt ⟨H, [], B.T, R⟩ H') : Stp B H H' := ⟨fun a o e n => by
  obtain ⟨o', e', k, _⟩ := f a o e
  rw [k (by simp) n] at e'
  exact e', t⟩
/-- a call of a def that raises nothing; what it gives is data -/
theorem ev_call {ta : TA} {wa : Wp ι} {ag : ι → List Ag} {f : ι → Wp F} {res : F → Oc} {e : F → PyData} {E : XK} (ha : EvA C Γ ta wa (fun x => (ag x).map (Ag.rk C.K))) (hr : ∀ o, res o = .fz (e o)) :
    EvG C Γ (tCall (spN C.K ag f res) [] E ta) (bnd wa fun x => noX (f x)) (fun r => RF C.K (e r)) := fun P X hw B σ H fp en ex Q q => by
  refine ha _ X hw B σ H fp en ex _ fun x vs H1 h1 s1 r1 => ?_
  obtain ⟨R, en'⟩ := args_en s1.ts r1
  rw [List.append_nil]
  refine ⟨x, P, B.T, R, _, h1, en', fun out v H' hp hf ht ho => ?_⟩
  rw [hr] at ho
  exact q out v H' hp (s1.trans (after_call hf ht)) ho
/-- .. a new thing -/
theorem ev_callN {ta : TA} {wa : Wp ι} {ag : ι → List Ag} {f : ι → Wp F} {res : F → Oc} {S : F → Sl} {E : XK} (ha : EvA C Γ ta wa (fun x => (ag x).map (Ag.rk C.K))) (hr : ∀ o, res o = .nw (S o)) :
    EvG C Γ (tCall (spN C.K ag f res) [] E ta) (bnd wa fun x => noX (f x)) (fun r => RN (S r)) := fun P X hw B σ H fp en ex Q q => by
  refine ha _ X hw B σ H fp en ex _ fun x vs H1 h1 s1 r1 => ?_
  obtain ⟨R, en'⟩ := args_en s1.ts r1
  rw [List.append_nil]
  refine ⟨x, P, B.T, R, _, h1, en', fun out v H' hp hf ht ho => ?_⟩
  rw [hr] at ho
  obtain ⟨fq, h2, h3, _⟩ := ho
  refine q out v H' hp (s1.trans (after_call hf ht)) ⟨fq, h2, fun a ha => ?_⟩
  rcases h3 a ha with z | z
  · exact s1.back en.tps z
  · cases z

/-! ### built-ins -/
theorem c_int (n : Int) : CaG C (fun xs H Q => (∃ i, xs = [.int i] ∧ Q (.int i) H) ∨ ∃ k, xs = [.bl k] ∧ Q (.int (if k then 1 else 0)) H) [RF C.K (eI n)] (ret n) (fun r => RF C.K (eI r)) := fun P X hw B H0 H vs t0 ts hb h Q q => by
  cases h with
  | cons h1 h2 =>
    cases h2
    exact .inl ⟨n, by rw [Fz.int_inv (n := n) h1], q n _ H hw (.refl ts) (.int n)⟩
theorem c_intB (b : Bool) : CaG C (fun xs H Q => (∃ i, xs = [.int i] ∧ Q (.int i) H) ∨ ∃ k, xs = [.bl k] ∧ Q (.int (if k then 1 else 0)) H) [RF C.K (eB b)] (ret (if b then 1 else 0)) (fun r => RF C.K (eI r)) := fun P X hw B H0 H vs t0 ts hb h Q q => by
  cases h with
  | cons h1 h2 =>
    cases h2
    exact .inr ⟨b, by rw [Fz.bl_inv (b := b) h1], q _ _ H hw (.refl ts) (.int _)⟩
abbrev rLen (K : PySem.W.Frag) : List V → Hp → VK → Prop := fun xs H Q => ∃ p ys, xs = [.ref p] ∧ (SqL K H p ys ∨ SqT K H p ys) ∧ Q (.int ys.length) H
theorem c_lenL {e : α → PyData} (xs : List α) : CaG C (rLen C.K) [RL C.K (xs.map e)] (ret (xs.length : Int)) (fun r => RF C.K (eI r)) := fun P X hw B H0 H vs t0 ts hb h Q q => by
  cases h with
  | cons h1 h2 =>
    cases h2
    obtain ⟨p, ws, rfl, hs, hz⟩ := h1
    have hl := hz.length
    rw [List.length_map] at hl
    exact ⟨p, ws, rfl, .inl hs.sq, q _ _ H hw (.refl ts) (by rw [hl]; exact .int _)⟩
theorem c_lenT {e : α → PyData} (xs : List α) : CaG C (rLen C.K) [RF C.K (eT e xs)] (ret (xs.length : Int)) (fun r => RF C.K (eI r)) := fun P X hw B H0 H vs t0 ts hb h Q q => by
  cases h with
  | cons h1 h2 =>
    cases h2
    obtain ⟨p, ws, rfl, hs, hz⟩ := Fz.tup_inv h1
    have hl := hz.length
    rw [List.length_map] at hl
    exact ⟨p, ws, rfl, .inr hs, q _ _ H hw (.refl ts) (by rw [hl]; exact .int _)⟩
abbrev rTup (K : PySem.W.Frag) : List V → Hp → VK → Prop := fun xs H Q => ∃ p ys, xs = [.ref p] ∧ ((SqL K H p ys ∧ ∀ l, H l = none → Q (.ref l) (upd H l (.tup ys))) ∨ (SqT K H p ys ∧ Q (.ref p) H))
theorem c_tupL {e : α → PyData} (xs : List α) : CaG C (rTup C.K) [RL C.K (xs.map e)] (ret xs) (fun r => RF C.K (eT e r)) := fun P X hw B H0 H vs t0 ts hb h Q q => by
  cases h with
  | cons h1 h2 =>
    cases h2
    obtain ⟨p, ws, rfl, hs, hz⟩ := h1
    refine ⟨p, ws, rfl, .inl ⟨hs.sq, fun l hl => ?_⟩⟩
    have s : Stp B H (upd H l (.tup ws)) := .new ts hl
    exact q _ _ _ hw s (.tup (.inl (.inl upd_same)) (hz.stay (s.stay ts)))
theorem c_tupT {d : PyData} : CaG C (rTup C.K) [RF C.K d] (opt (match d with | .tuple ds => some ds | _ => none)) (fun r => RF C.K (.tuple r)) := fun P X ⟨ds, hd, hw⟩ B H0 H vs t0 ts hb h Q q => by
  cases h with
  | cons h1 h2 =>
    cases h2
    cases d <;> cases hd
    obtain ⟨p, ws, rfl, hs, hz⟩ := Fz.tup_inv h1
    exact ⟨p, ws, rfl, .inr ⟨hs, q _ _ H hw (.refl ts) (.tup hs hz)⟩⟩
abbrev rLst (K : PySem.W.Frag) : List V → Hp → VK → Prop := fun xs H Q => ∃ p ys, xs = [.ref p] ∧ (SqL K H p ys ∨ SqT K H p ys) ∧ ∀ l, H l = none → Q (.ref l) (upd H l (.lst ys))
theorem c_lstL {e : α → PyData} (xs : List α) : CaG C (rLst C.K) [RL C.K (xs.map e)] (ret xs) (fun r => RN (ls C.K (r.map e))) := fun P X hw B H0 H vs t0 ts hb h Q q => by
  cases h with
  | cons h1 h2 =>
    cases h2
    obtain ⟨p, ws, rfl, hs, hz⟩ := h1
    refine ⟨p, ws, rfl, .inl hs.sq, fun l hl => ?_⟩
    have s : Stp B H (upd H l (.lst ws)) := .new ts hl
    exact q _ _ _ hw s ⟨[l], ⟨l, ws, rfl, rfl, upd_same, hz.stay (s.stay ts)⟩, fun a ha => by rw [List.mem_singleton.mp ha]; exact hb l hl⟩
theorem c_lstT {e : α → PyData} (xs : List α) : CaG C (rLst C.K) [RF C.K (eT e xs)] (ret xs) (fun r => RN (ls C.K (r.map e))) := fun P X hw B H0 H vs t0 ts hb h Q q => by
  cases h with
  | cons h1 h2 =>
    cases h2
    obtain ⟨p, ws, rfl, hs, hz⟩ := Fz.tup_inv h1
    refine ⟨p, ws, rfl, .inr hs, fun l hl => ?_⟩
    have s : Stp B H (upd H l (.lst ws)) := .new ts hl
    exact q _ _ _ hw s ⟨[l], ⟨l, ws, rfl, rfl, upd_same, hz.stay (s.stay ts)⟩, fun a ha => by rw [List.mem_singleton.mp ha]; exact hb l hl⟩
theorem c_sum (ns : List Int) : CaG C (rSum C.K) [RL C.K (ns.map eI)] (ret ns.sum) (fun r => RF C.K (eI r)) := fun P X hw B H0 H vs t0 ts hb h Q q => by
  cases h with
  | cons h1 h2 =>
    cases h2
    obtain ⟨p, ws, rfl, hs, hz⟩ := h1
    have e := FzAll.ints (ns := ns) hz
    subst e
    exact ⟨p, ns, rfl, hs.sq, q _ _ H hw (.refl ts) (.int _)⟩
def maxI : List Int → Int
  | [] => 0
  | x :: xs => xs.foldl (fun a b => if a < b then b else a) x
def minI : List Int → Int
  | [] => 0
  | x :: xs => xs.foldl (fun a b => if b < a then b else a) x
theorem foldmax : ∀ (xs : List Int) (x : Int), (xs.foldl (fun a b => if a < b then b else a) x ∈ x :: xs) ∧ ∀ y ∈ x :: xs, y ≤ xs.foldl (fun a b => if a < b then b else a) x
  | [], x => ⟨by simp, fun y hy => by simp at hy; subst hy; exact Int.le_refl _⟩
  | z :: xs, x => by
    obtain ⟨h1, h2⟩ := foldmax xs (if x < z then z else x)
    show (xs.foldl _ (if x < z then z else x) ∈ _) ∧ ∀ y ∈ x :: z :: xs, y ≤ xs.foldl _ (if x < z then z else x)
    refine ⟨?_, fun y hy => ?_⟩
    · rcases List.mem_cons.mp h1 with e | e
      · rw [e]
        split <;> simp
      · exact List.mem_cons_of_mem _ (List.mem_cons_of_mem _ e)
    · have h3 := h2 (if x < z then z else x) List.mem_cons_self
      have h4 : ∀ y ∈ xs, y ≤ xs.foldl (fun a b => if a < b then b else a) (if x < z then z else x) := fun y hy => h2 y (List.mem_cons_of_mem _ hy)
      generalize xs.foldl _ (if x < z then z else x) = m at h3 h4 ⊢
      rcases List.mem_cons.mp hy with rfl | hy
      · split at h3 <;> omega
      · rcases List.mem_cons.mp hy with rfl | hy
        · split at h3 <;> omega
        · exact h4 y hy
theorem foldmin : ∀ (xs : List Int) (x : Int), (xs.foldl (fun a b => if b < a then b else a) x ∈ x :: xs) ∧ ∀ y ∈ x :: xs, xs.foldl (fun a b => if b < a then b else a) x ≤ y
  | [], x => ⟨by simp, fun y hy => by simp at hy; subst hy; exact Int.le_refl _⟩
  | z :: xs, x => by
    obtain ⟨h1, h2⟩ := foldmin xs (if z < x then z else x)
    show (xs.foldl _ (if z < x then z else x) ∈ _) ∧ ∀ y ∈ x :: z :: xs, xs.foldl _ (if z < x then z else x) ≤ y
    refine ⟨?_, fun y hy => ?_⟩
    · rcases List.mem_cons.mp h1 with e | e
      · rw [e]
        split <;> simp
      · exact List.mem_cons_of_mem _ (List.mem_cons_of_mem _ e)
    · have h3 := h2 (if z < x then z else x) List.mem_cons_self
      have h4 : ∀ y ∈ xs, xs.foldl (fun a b => if b < a then b else a) (if z < x then z else x) ≤ y := fun y hy => h2 y (List.mem_cons_of_mem _ hy)
      generalize xs.foldl _ (if z < x then z else x) = m at h3 h4 ⊢
      rcases List.mem_cons.mp hy with rfl | hy
      · split at h3 <;> omega
      · rcases List.mem_cons.mp hy with rfl | hy
        · split at h3 <;> omega
        · exact h4 y hy
theorem maxI_spec : ∀ {ns : List Int}, ns ≠ [] → maxI ns ∈ ns ∧ ∀ y ∈ ns, y ≤ maxI ns
  | [], h => absurd rfl h
  | x :: xs, _ => foldmax xs x
theorem minI_spec : ∀ {ns : List Int}, ns ≠ [] → minI ns ∈ ns ∧ ∀ y ∈ ns, minI ns ≤ y
  | [], h => absurd rfl h
  | x :: xs, _ => foldmin xs x
theorem c_max (ns : List Int) : CaG C (rMax C.K) [RL C.K (ns.map eI)] (grd (ns ≠ []) (ret (maxI ns))) (fun r => RF C.K (eI r)) := fun P X ⟨hne, hw⟩ B H0 H vs t0 ts hb h Q q => by
  cases h with
  | cons h1 h2 =>
    cases h2
    obtain ⟨p, ws, rfl, hs, hz⟩ := h1
    have e := FzAll.ints (ns := ns) hz
    subst e
    refine ⟨p, ns, rfl, hs.sq, List.length_pos_iff.mpr hne, fun m hm hle => ?_⟩
    have sp := maxI_spec hne
    have : m = maxI ns := Int.le_antisymm (sp.2 m hm) (hle _ sp.1)
    subst this
    exact q _ _ H hw (.refl ts) (.int _)
theorem c_min (ns : List Int) : CaG C (rMin C.K) [RL C.K (ns.map eI)] (grd (ns ≠ []) (ret (minI ns))) (fun r => RF C.K (eI r)) := fun P X ⟨hne, hw⟩ B H0 H vs t0 ts hb h Q q => by
  cases h with
  | cons h1 h2 =>
    cases h2
    obtain ⟨p, ws, rfl, hs, hz⟩ := h1
    have e := FzAll.ints (ns := ns) hz
    subst e
    refine ⟨p, ns, rfl, hs.sq, List.length_pos_iff.mpr hne, fun m hm hle => ?_⟩
    have sp := minI_spec hne
    have : m = minI ns := Int.le_antisymm (hle _ sp.1) (sp.2 m hm)
    subst this
    exact q _ _ H hw (.refl ts) (.int _)
theorem c_any (bs : List Bool) : CaG C (rAny C.K) [RL C.K (bs.map eB)] (ret (bs.any id)) (fun r => RF C.K (eB r)) := fun P X hw B H0 H vs t0 ts hb h Q q => by
  cases h with
  | cons h1 h2 =>
    cases h2
    obtain ⟨p, ws, rfl, hs, hz⟩ := h1
    have e := FzAll.bools (ns := bs) hz
    subst e
    exact ⟨p, bs, rfl, hs.sq, q _ _ H hw (.refl ts) (.bl _)⟩
theorem c_all (bs : List Bool) : CaG C (rAll C.K) [RL C.K (bs.map eB)] (ret (bs.all id)) (fun r => RF C.K (eB r)) := fun P X hw B H0 H vs t0 ts hb h Q q => by
  cases h with
  | cons h1 h2 =>
    cases h2
    obtain ⟨p, ws, rfl, hs, hz⟩ := h1
    have e := FzAll.bools (ns := bs) hz
    subst e
    exact ⟨p, bs, rfl, hs.sq, q _ _ H hw (.refl ts) (.bl _)⟩
/-- x in xs, ints -/
theorem inV_ints (x : Int) (ns : List Int) : inV (.int x) (ns.map V.int) = decide (x ∈ ns) := by
  unfold inV
  induction ns with
  | nil => rfl
  | cons n ns ih =>
    rw [List.map_cons, List.any_cons, ih]
    by_cases e : n = x
    · subst e
      simp [eqV]
    · have : eqV (V.int n) (V.int x) = false := by simp [eqV, e]
      rw [this, Bool.false_or]
      have e2 : ¬ x = n := fun z => e z.symm
      simp [e2]
theorem flat_ints (ns : List Int) : (ns.map V.int).all flatV = true := by
  rw [List.all_map]
  exact List.all_eq_true.mpr fun _ _ => rfl
theorem o_inL (x : Int) (ns : List Int) : OpG C (rIn C.K false) (RF C.K (eI x)) (RL C.K (ns.map eI)) (ret (decide (x ∈ ns))) (fun r => RF C.K (eB r)) := fun P X hw B H0 H v y _ ts _ hx hy Q q => by
  have e1 := Fz.int_inv (n := x) hx
  obtain ⟨p, ws, rfl, hs, hz⟩ := hy
  have e := FzAll.ints (ns := ns) hz
  subst e
  subst e1
  refine ⟨p, _, rfl, .inl hs.sq, rfl, flat_ints ns, ?_⟩
  show Q (.bl (inV (.int x) (ns.map V.int))) H
  rw [inV_ints]
  exact q _ _ H hw (.refl ts) (.bl _)
theorem o_niL (x : Int) (ns : List Int) : OpG C (rIn C.K true) (RF C.K (eI x)) (RL C.K (ns.map eI)) (ret (!decide (x ∈ ns))) (fun r => RF C.K (eB r)) := fun P X hw B H0 H v y _ ts _ hx hy Q q => by
  have e1 := Fz.int_inv (n := x) hx
  obtain ⟨p, ws, rfl, hs, hz⟩ := hy
  have e := FzAll.ints (ns := ns) hz
  subst e
  subst e1
  refine ⟨p, _, rfl, .inl hs.sq, rfl, flat_ints ns, ?_⟩
  show Q (.bl (!inV (.int x) (ns.map V.int))) H
  rw [inV_ints]
  exact q _ _ H hw (.refl ts) (.bl _)
theorem o_inT (x : Int) (ns : List Int) : OpG C (rIn C.K false) (RF C.K (eI x)) (RF C.K (eT eI ns)) (ret (decide (x ∈ ns))) (fun r => RF C.K (eB r)) := fun P X hw B H0 H v y _ ts _ hx hy Q q => by
  have e1 := Fz.int_inv (n := x) hx
  obtain ⟨p, ws, rfl, hs, hz⟩ := Fz.tup_inv hy
  have e := FzAll.ints (ns := ns) hz
  subst e
  subst e1
  refine ⟨p, _, rfl, .inr hs, rfl, flat_ints ns, ?_⟩
  show Q (.bl (inV (.int x) (ns.map V.int))) H
  rw [inV_ints]
  exact q _ _ H hw (.refl ts) (.bl _)
theorem o_niT (x : Int) (ns : List Int) : OpG C (rIn C.K true) (RF C.K (eI x)) (RF C.K (eT eI ns)) (ret (!decide (x ∈ ns))) (fun r => RF C.K (eB r)) := fun P X hw B H0 H v y _ ts _ hx hy Q q => by
  have e1 := Fz.int_inv (n := x) hx
  obtain ⟨p, ws, rfl, hs, hz⟩ := Fz.tup_inv hy
  have e := FzAll.ints (ns := ns) hz
  subst e
  subst e1
  refine ⟨p, _, rfl, .inr hs, rfl, flat_ints ns, ?_⟩
  show Q (.bl (!inV (.int x) (ns.map V.int))) H
  rw [inV_ints]
  exact q _ _ H hw (.refl ts) (.bl _)
end
end WL
/-! WL, part 6: short forms, as a printer writes them. -/
namespace WL
open PySem PySem.Spec PyProof.Rows L2
section
variable {K : PySem.W.Frag} {C : Cn} {Γ : List Ety} {α β γ δ ι F : Type}
theorem ltb {i n : Nat} (h : Nat.blt i n = true) : i < n := by simpa [Nat.blt_eq] using h
theorem sel_ret (b : Bool) (x y : α) : sel b (ret x) (ret y) = ret (if b = true then x else y) := by cases b <;> rfl
theorem ev_opF {r : R2} {ta tb : TE} {wa : Wp α} {wb : Wp β} {ea : α → PyData} {eb : β → PyData} {w : α → β → Wp γ} {R : γ → Rk} (ha : EvG C Γ ta wa (fun x => RF C.K (ea x))) (hb : EvG C Γ tb wb (fun x => RF C.K (eb x))) (hr : ∀ a b, OpG C r (RF C.K (ea a)) (RF C.K (eb b)) (w a b) R) :
    EvG C Γ (tOp r ta tb) (bnd wa fun a => bnd wb fun b => w a b) R := ev_op ha (fun _ => hb) hr (fun _ => st_F) (fun _ _ => st_F)
theorem ev_opFL {r : R2} {ta tb : TE} {wa : Wp α} {wb : Wp β} {ea : α → PyData} {eb : β → List PyData} {w : α → β → Wp γ} {R : γ → Rk} (ha : EvG C Γ ta wa (fun x => RF C.K (ea x))) (hb : EvG C Γ tb wb (fun x => RL C.K (eb x))) (hr : ∀ a b, OpG C r (RF C.K (ea a)) (RL C.K (eb b)) (w a b) R) :
    EvG C Γ (tOp r ta tb) (bnd wa fun a => bnd wb fun b => w a b) R := ev_op ha (fun _ => hb) hr (fun _ => st_F) (fun _ _ => st_L)
theorem ev_opLF {r : R2} {ta tb : TE} {wa : Wp α} {wb : Wp β} {ea : α → List PyData} {eb : β → PyData} {w : α → β → Wp γ} {R : γ → Rk} (ha : EvG C Γ ta wa (fun x => RL C.K (ea x))) (hb : EvG C Γ tb wb (fun x => RF C.K (eb x))) (hr : ∀ a b, OpG C r (RL C.K (ea a)) (RF C.K (eb b)) (w a b) R) :
    EvG C Γ (tOp r ta tb) (bnd wa fun a => bnd wb fun b => w a b) R := ev_op ha (fun _ => hb) hr (fun _ => st_L) (fun _ _ => st_F)
theorem ev_opLL {r : R2} {ta tb : TE} {wa : Wp α} {wb : Wp β} {ea : α → List PyData} {eb : β → List PyData} {w : α → β → Wp γ} {R : γ → Rk} (ha : EvG C Γ ta wa (fun x => RL C.K (ea x))) (hb : EvG C Γ tb wb (fun x => RL C.K (eb x))) (hr : ∀ a b, OpG C r (RL C.K (ea a)) (RL C.K (eb b)) (w a b) R) :
    EvG C Γ (tOp r ta tb) (bnd wa fun a => bnd wb fun b => w a b) R := ev_op ha (fun _ => hb) hr (fun _ => st_L) (fun _ _ => st_L)
/-- a list with an int (xs * k) -/
theorem ev_opNF {r : R2} {ta tb : TE} {wa : Wp α} {wb : Wp β} {S : α → Sl} {eb : β → PyData} {w : α → β → Wp γ} {R : γ → Rk} (ha : EvG C Γ ta wa (fun x => RN (S x))) (hb : EvG C Γ tb wb (fun x => RF C.K (eb x))) (hr : ∀ a b, OpG C r (RN (S a)) (RF C.K (eb b)) (w a b) R) :
    EvG C Γ (tOp r ta tb) (bnd wa fun a => bnd wb fun b => w a b) R := ev_op ha (fun _ => hb) hr (fun _ => st_N) (fun _ _ => st_F)
theorem ev_ifF {t : TT} {ta tb : TE} {w : Wp Bool} {wa wb : Wp α} {e : α → PyData} (h : EvT C Γ t w) (h1 : EvG C Γ ta wa (fun x => RF C.K (e x))) (h2 : EvG C Γ tb wb (fun x => RF C.K (e x))) : EvG C Γ (tIf t ta tb) (bnd w fun b => sel b wa wb) (fun x => RF C.K (e x)) := ev_if h h1 h2 fun _ => st_F
theorem ev_ifN {t : TT} {ta tb : TE} {w : Wp Bool} {wa wb : Wp α} {S : α → Sl} (h : EvT C Γ t w) (h1 : EvG C Γ ta wa (fun x => RN (S x))) (h2 : EvG C Γ tb wb (fun x => RN (S x))) : EvG C Γ (tIf t ta tb) (bnd w fun b => sel b wa wb) (fun x => RN (S x)) := ev_if h h1 h2 fun _ => st_N
theorem ev_chainI {r r' : R2} {ta tb tc : TE} {wa wb wc : Wp Int} {g g' : Int → Int → Bool} (ha : EvG C Γ ta wa (fun x => RF C.K (eI x))) (hb : EvG C Γ tb wb (fun x => RF C.K (eI x))) (hc : EvG C Γ tc wc (fun x => RF C.K (eI x)))
    (hr : ∀ a b, OpG C r (RF C.K (eI a)) (RF C.K (eI b)) (ret (g a b)) (fun r => RF C.K (eB r))) (hr' : ∀ b c, OpG C r' (RF C.K (eI b)) (RF C.K (eI c)) (ret (g' b c)) (fun r => RF C.K (eB r))) :
    EvG C Γ (tChain r r' ta tb tc) (bnd wa fun a => bnd wb fun b => sel (g a b) (bnd wc fun c => ret (g' b c)) (ret false)) (fun r => RF C.K (eB r)) := ev_chain ha hb hc hr hr' (fun _ => st_F) (fun _ => st_F) (fun _ => st_F)
/-- a written number as an operand -/
theorem ev_mulL {n : Int} {tb : TE} {w : Wp Int} (hn : -(2 ^ 64) < n ∧ n < 2 ^ 64) (hb : EvG C Γ tb w (fun x => RF C.K (eI x))) : EvG C Γ (tOp (rI CMul fun i j => .int (i * j)) (tC (.int n)) tb) (bnd w fun y => ret (n * y)) (fun r => RF C.K (eI r)) := fun P X hw B σ H fp en ex Q q =>
  hb _ X hw B σ H fp en ex _ fun y v H' hp s hv => ⟨n, y, rfl, Fz.int_inv hv, .inl hn, q _ _ H' hp s (.int _)⟩
theorem ev_mulR {n : Int} {ta : TE} {w : Wp Int} (hn : -(2 ^ 64) < n ∧ n < 2 ^ 64) (ha : EvG C Γ ta w (fun x => RF C.K (eI x))) : EvG C Γ (tOp (rI CMul fun i j => .int (i * j)) ta (tC (.int n))) (bnd w fun y => ret (y * n)) (fun r => RF C.K (eI r)) := fun P X hw B σ H fp en ex Q q =>
  ha _ X hw B σ H fp en ex _ fun y v H' hp s hv => ⟨y, n, Fz.int_inv hv, rfl, .inr hn, q _ _ H' hp s (.int _)⟩
theorem ev_fdivC {n : Int} {ta : TE} {w : Wp Int} (hn : CDivN 0 n) (ha : EvG C Γ ta w (fun x => RF C.K (eI x))) : EvG C Γ (tOp (rI CDivN fun i j => .int (i.fdiv j)) ta (tC (.int n))) (bnd w fun y => ret (y.fdiv n)) (fun r => RF C.K (eI r)) := fun P X hw B σ H fp en ex Q q =>
  ha _ X hw B σ H fp en ex _ fun y v H' hp s hv => ⟨y, n, Fz.int_inv hv, rfl, hn, q _ _ H' hp s (.int _)⟩
theorem ev_modC {n : Int} {ta : TE} {w : Wp Int} (hn : n ≠ 0) (ha : EvG C Γ ta w (fun x => RF C.K (eI x))) : EvG C Γ (tOp (rI (fun _ j => j ≠ 0) fun i j => .int (i.fmod j)) ta (tC (.int n))) (bnd w fun y => ret (y.fmod n)) (fun r => RF C.K (eI r)) := fun P X hw B σ H fp en ex Q q =>
  ha _ X hw B σ H fp en ex _ fun y v H' hp s hv => ⟨y, n, Fz.int_inv hv, rfl, hn, q _ _ H' hp s (.int _)⟩
/-- a written place of a tuple of a fixed form -/
theorem ev_ixW {n : Int} {ta : TE} {w : Wp α} {ea : α → PyData} {e' : γ → PyData} (g : α → γ) (k : Nat) (ha : EvG C Γ ta w (fun x => RF C.K (ea x))) (hn : n = (k : Int)) (h : ∀ a, ∃ ds, ea a = .tuple ds ∧ ds[k]? = some (e' (g a))) :
    EvG C Γ (tOp (rIxT C.K) ta (tC (.int n))) (bnd w fun a => ret (g a)) (fun r => RF C.K (e' r)) := fun P X hw B σ H fp en ex Q q =>
  ha _ X hw B σ H fp en ex _ fun a v H' hp s hv => by
    obtain ⟨ds, e1, e2⟩ := h a
    have hv : Fz C.K H' v (ea a) := hv
    rw [e1] at hv
    obtain ⟨p, vs, rfl, hs, hz⟩ := Fz.tup_inv hv
    obtain ⟨u, h1, h2⟩ := hz.get e2
    exact ⟨p, vs, n, u, rfl, rfl, hs, by rw [hn]; exact atI_nat h1, q (g a) u H' hp s h2⟩
/-- a written negative place -/
theorem o_ixTm {e : α → PyData} (xs : List α) (i : Int) : OpG C (rIxT C.K) (RF C.K (eT e xs)) (RF C.K (eI i)) (opt (atI xs i)) (fun r => RF C.K (e r)) := o_ixT xs i
/-- arguments with the kinds' stability -/
structure EvS (C : Cn) (Γ : List Ety) (t : TA) (w : Wp α) (R : α → List Rk) : Prop where
  ev : EvA C Γ t w R
  st : ∀ b, ∀ R' ∈ R b, StR R'
theorem es_nil : EvS C Γ tNil (ret ()) (fun _ => []) := ⟨ea_nil, fun _ R h => absurd h (by simp)⟩
theorem es_cons {te : TE} {tr : TA} {wa : Wp α} {wr : Wp β} {Ra : α → Rk} {Rr : β → List Rk} (h : EvG C Γ te wa Ra) (sa : ∀ a, StR (Ra a)) (hr : EvS C Γ tr wr Rr) : EvS C Γ (tCons te tr) (bnd wa fun a => bnd wr fun r => ret (a, r)) (fun x => Ra x.1 :: Rr x.2) :=
  ⟨ea_cons h hr.ev sa hr.st, fun b R hR => by
    rcases List.mem_cons.mp hR with rfl | hR
    · exact sa _
    · exact hr.st _ R hR⟩
theorem es_f {te : TE} {tr : TA} {wa : Wp α} {wr : Wp β} {e : α → PyData} {Rr : β → List Rk} (h : EvG C Γ te wa (fun x => RF C.K (e x))) (hr : EvS C Γ tr wr Rr) : EvS C Γ (tCons te tr) (bnd wa fun a => bnd wr fun r => ret (a, r)) (fun x => RF C.K (e x.1) :: Rr x.2) := es_cons h (fun _ => st_F) hr
theorem es_l {te : TE} {tr : TA} {wa : Wp (List α)} {wr : Wp β} {e : α → PyData} {Rr : β → List Rk} (h : EvG C Γ te wa (fun x => RL C.K (x.map e))) (hr : EvS C Γ tr wr Rr) : EvS C Γ (tCons te tr) (bnd wa fun a => bnd wr fun r => ret (a, r)) (fun x => RL C.K (x.1.map e) :: Rr x.2) := es_cons h (fun _ => st_L) hr
theorem es_t {te : TE} {tr : TA} {wa : Wp Unit} {wr : Wp β} {S : Sl} {Rr : β → List Rk} (h : EvG C Γ te wa (fun _ => RT S)) (hr : EvS C Γ tr wr Rr) : EvS C Γ (tCons te tr) (bnd wa fun a => bnd wr fun r => ret (a, r)) (fun x => RT S :: Rr x.2) := es_cons h (fun _ => st_T) hr
theorem ev_tupS {ta : TA} {w : Wp α} {Rs : α → List Rk} {ds : α → List PyData} (f : α → γ) (e : γ → PyData) (h : EvS C Γ ta w Rs) (hd : ∀ a, AllF C.K (Rs a) (ds a)) (hl : ∀ a, Nat.ble (ds a).length 100 = true) (he : ∀ a, e (f a) = .tuple (ds a)) : EvG C Γ (tTup ta) (mapW f w) (fun r => RF C.K (e r)) :=
  (ev_tup h.ev hd fun a => Nat.le_of_ble_eq_true (hl a)).as f fun r => by rw [he]
theorem ev_lstS {ta : TA} {w : Wp α} {Rs : α → List Rk} {ds : α → List PyData} (f : α → List γ) (e : γ → PyData) (h : EvS C Γ ta w Rs) (hd : ∀ a, AllF C.K (Rs a) (ds a)) (hl : ∀ a, Nat.ble (ds a).length 100 = true) (he : ∀ a, (f a).map e = ds a) : EvG C Γ (tLst ta) (mapW f w) (fun r => RN (ls C.K (r.map e))) :=
  (ev_lst h.ev hd fun a => Nat.le_of_ble_eq_true (hl a)).as f fun r => by rw [he]
theorem ev_callS {ta : TA} {wa : Wp ι} {ag : ι → List Ag} {f : ι → Wp F} {res : F → Oc} {E : XK} (e : F → PyData) (ha : EvS C Γ ta wa (fun x => (ag x).map (Ag.rk C.K))) (hr : ∀ o, res o = .fz (e o)) :
    EvG C Γ (tCall (spN C.K ag f res) [] E ta) (bnd wa fun x => noX (f x)) (fun r => RF C.K (e r)) := ev_call ha.ev hr
theorem ev_callNS {ta : TA} {wa : Wp ι} {ag : ι → List Ag} {f : ι → Wp F} {res : F → Oc} {E : XK} (S : F → Sl) (ha : EvS C Γ ta wa (fun x => (ag x).map (Ag.rk C.K))) (hr : ∀ o, res o = .nw (S o)) :
    EvG C Γ (tCall (spN C.K ag f res) [] E ta) (bnd wa fun x => noX (f x)) (fun r => RN (S r)) := ev_callN ha.ev hr
theorem ev_b1 {r : List V → Hp → VK → Prop} {te : TE} {wa : Wp α} {Ra : α → Rk} {w' : α → Wp γ} {R : γ → Rk} (h : EvG C Γ te wa Ra) (sa : ∀ a, StR (Ra a)) (hr : ∀ a, CaG C r [Ra a] (w' a) R) : EvG C Γ (tCB r (tCons te tNil)) (bnd wa w') R :=
  (ev_cb (es_cons h sa es_nil).ev (w' := fun x => w' x.1) fun a => hr a.1).is rfl
theorem ev_b1F {r : List V → Hp → VK → Prop} {te : TE} {wa : Wp α} {e : α → PyData} {w' : α → Wp γ} {R : γ → Rk} (h : EvG C Γ te wa (fun x => RF C.K (e x))) (hr : ∀ a, CaG C r [RF C.K (e a)] (w' a) R) : EvG C Γ (tCB r (tCons te tNil)) (bnd wa w') R := ev_b1 h (fun _ => st_F) hr
theorem ev_b1L {r : List V → Hp → VK → Prop} {te : TE} {wa : Wp (List α)} {e : α → PyData} {w' : List α → Wp γ} {R : γ → Rk} (h : EvG C Γ te wa (fun x => RL C.K (x.map e))) (hr : ∀ a : List α, CaG C r [RL C.K (a.map e)] (w' a) R) : EvG C Γ (tCB r (tCons te tNil)) (bnd wa w') R := ev_b1 h (fun _ => st_L) hr
/-- xs * k -/
def repL (xs : List α) (k : Int) : List α := (List.replicate k.toNat xs).flatten
theorem o_rep {e : α → PyData} (xs : List α) (k : Int) : OpG C rRep (RN (ls C.K (xs.map e))) (RF C.K (eI k)) (grd (-(2 ^ 63) ≤ k ∧ k < 2 ^ 63 ∧ xs.length * k.toNat ≤ 16777216) (ret (repL xs k))) (fun r => RN (ls C.K (r.map e))) := fun P X hw B H0 H x y t0 ts hb hx hy Q q => by
  obtain ⟨fq, ⟨p, vs, rfl, e2, hp, hz⟩, hf⟩ := hx
  have e1 := Fz.int_inv (n := k) hy
  subst e1
  have hl := hz.length
  rw [List.length_map] at hl
  refine ⟨p, k, vs, rfl, rfl, hp, hw.1.1, hw.1.2.1, by rw [hl]; exact hw.1.2.2, fun l hn => ?_⟩
  have s : Stp B H (upd H l (.lst (List.replicate k.toNat vs).flatten)) := .new ts hn
  refine q _ _ _ hw.2 s ⟨[l], ⟨l, _, rfl, rfl, upd_same, ?_⟩, fun a ha => by rw [List.mem_singleton.mp ha]; exact hb l hn⟩
  have rep : ∀ n : Nat, FzAll C.K H (List.replicate n vs).flatten ((List.replicate n xs).flatten.map e) := fun n => by
    induction n with
    | zero => exact .nil
    | succ n ih =>
      rw [List.replicate_succ, List.replicate_succ, List.flatten_cons, List.flatten_cons, List.map_append]
      exact hz.append ih
  exact (rep k.toNat).stay (s.stay ts)
/-- xs + ys, new lists -/
theorem o_cat {e : α → PyData} (xs ys : List α) : OpG C rCat (RN (ls C.K (xs.map e))) (RN (ls C.K (ys.map e))) (grd (xs.length + ys.length ≤ 16777216) (ret (xs ++ ys))) (fun r => RN (ls C.K (r.map e))) := fun P X hw B H0 H x y t0 ts hb hx hy Q q => by
  obtain ⟨fq, ⟨p, vs, rfl, e2, hp, hz⟩, hf⟩ := hx
  obtain ⟨fq', ⟨p', vs', rfl, e2', hp', hz'⟩, hf'⟩ := hy
  have hl := hz.length
  have hl' := hz'.length
  rw [List.length_map] at hl hl'
  refine ⟨p, p', vs, vs', rfl, rfl, hp, hp', by rw [hl, hl']; exact hw.1, fun l hn => ?_⟩
  have s : Stp B H (upd H l (.lst (vs ++ vs'))) := .new ts hn
  refine q _ _ _ hw.2 s ⟨[l], ⟨l, _, rfl, rfl, upd_same, ?_⟩, fun a ha => by rw [List.mem_singleton.mp ha]; exact hb l hn⟩
  rw [List.map_append]
  exact (hz.append hz').stay (s.stay ts)
/-- the truth of a list -/
theorem et_truL {t : TE} {w : Wp (List α)} {e : α → PyData} (h : EvG C Γ t w (fun x => RL C.K (x.map e))) : EvT C Γ (fun σ H Q => t σ H fun x H' => ∃ k, TruV C.K x H' k ∧ Q k H') (bnd w fun xs => ret (!xs.isEmpty)) := fun P X hw B σ H fp en ex Q q =>
  h _ X hw B σ H fp en ex _ fun r v H' hp s hv => by
    obtain ⟨p, vs, rfl, hs, hz⟩ := hv
    refine ⟨!vs.isEmpty, .inl ⟨vs, hs.sq, rfl⟩, ?_⟩
    have : vs.isEmpty = r.isEmpty := by
      have hl := hz.length
      rw [List.length_map] at hl
      cases vs <;> cases r <;> simp_all
    rw [this]
    exact q _ _ hp s
theorem et_truT {t : TE} {w : Wp (List α)} {e : α → PyData} (h : EvG C Γ t w (fun x => RF C.K (eT e x))) : EvT C Γ (fun σ H Q => t σ H fun x H' => ∃ k, TruV C.K x H' k ∧ Q k H') (bnd w fun xs => ret (!xs.isEmpty)) := fun P X hw B σ H fp en ex Q q =>
  h _ X hw B σ H fp en ex _ fun r v H' hp s hv => by
    obtain ⟨p, vs, rfl, hs, hz⟩ := Fz.tup_inv hv
    refine ⟨!vs.isEmpty, .inr (.inl ⟨vs, hs, rfl⟩), ?_⟩
    have : vs.isEmpty = r.isEmpty := by
      have hl := hz.length
      rw [List.length_map] at hl
      cases vs <;> cases r <;> simp_all
    rw [this]
    exact q _ _ hp s
/-- targets -/
structure TgS (K : PySem.W.Frag) (Γ : List Ety) (g : TGs) (vs : List Nat) (ds : List PyData) (Γ' : List Ety) : Prop where
  run : ∀ B σ H fp xs, En B Γ σ H fp → FzAll K H xs ds → ∀ Q : List (Option V) → Hp → Prop, (∀ σ' fp', En B Γ' σ' H fp' → wipe σ' vs = wipe σ vs → (∀ a i, a ∈ fp' i → ∃ j, a ∈ fp j) → Q σ' H) → g xs σ H Q
theorem ts_nil : TgS K Γ gNil [] [] Γ := ⟨fun B σ H fp xs en hz Q q => by
  cases hz
  exact ⟨rfl, q σ fp en rfl fun a i h => ⟨i, h⟩⟩⟩
theorem wipe_sub {σ σ' : List (Option V)} {vs ws : List Nat} (h : wipe σ vs = wipe σ' vs) (hs : ∀ v ∈ vs, v ∈ ws) (hl : σ.length = σ'.length) : wipe σ ws = wipe σ' ws := by
  refine List.ext_getElem? fun j => ?_
  rw [wipe_get, wipe_get]
  by_cases hj : j ∈ ws
  · rw [if_pos hj, if_pos hj]
    by_cases h1 : j < σ.length
    · rw [List.getElem?_eq_getElem h1, List.getElem?_eq_getElem (hl ▸ h1)]
      rfl
    · rw [List.getElem?_eq_none (by omega), List.getElem?_eq_none (by omega)]
  · rw [if_neg hj, if_neg hj]
    have z := congrArg (fun l => l[j]?) h
    simp only [wipe_get] at z
    have : ¬ j ∈ vs := fun q => hj (hs j q)
    rwa [if_neg this, if_neg this] at z
theorem ts_cons {g : TG} {gs : TGs} {vs ws : List Nat} {d : PyData} {ds : List PyData} {Γ' Γ'' : List Ety} (h : TgG K Γ g vs d Γ') (hs : TgS K Γ' gs ws ds Γ'') : TgS K Γ (gCons g gs) (vs ++ ws) (d :: ds) Γ'' := ⟨fun B σ H fp xs en hz Q q => by
  cases hz with
  | cons h1 h2 =>
    refine ⟨_, _, rfl, h.run B σ H fp _ en h1 _ fun σ1 fp1 en1 w1 s1 => hs.run B σ1 H fp1 _ en1 h2 _ fun σ2 fp2 en2 w2 s2 => ?_⟩
    have l1 : σ1.length = σ.length := by
      have z := congrArg List.length w1
      rw [wipe_length, wipe_length] at z
      exact z
    have l2 : σ2.length = σ1.length := by
      have z := congrArg List.length w2
      rw [wipe_length, wipe_length] at z
      exact z
    refine q σ2 fp2 en2 ?_ fun a i ha => ?_
    · exact (wipe_sub w2 (fun v hv => List.mem_append_right _ hv) l2).trans (wipe_sub w1 (fun v hv => List.mem_append_left _ hv) l1)
    · obtain ⟨j, hj⟩ := s2 a i ha
      exact s1 a j hj⟩
theorem tg_tup {g : TGs} {vs : List Nat} {d : PyData} {ds : List PyData} {n : Nat} {Γ' : List Ety} (h : TgS K Γ g vs ds Γ') (hd : d = .tuple ds) (hn : ds.length = n) : TgG K Γ (gTup K n g) vs d Γ' := ⟨fun B σ H fp v en hz Q q => by
  subst hd
  obtain ⟨a, xs, rfl, hs, hz'⟩ := Fz.tup_inv hz
  exact ⟨a, xs, rfl, hs, by rw [hz'.length]; exact hn, h.run B σ H fp xs en hz' Q q⟩⟩
end
end WL
/-! WL, part 7: what the printer writes; lists of data sorted, their least. -/
namespace WL
open PySem PySem.Spec PyProof.Rows L2
section
variable {F α β γ S : Type}
def setW (xs : List α) (w : Wp α) (wi : Wp Int) (k : List α → Wp F) : Wp F := bnd w fun x => bnd wi fun i => bnd (opt (ixN xs.length i)) fun j => k (xs.set j x)
def appW (xs : List α) (w : Wp α) (k : List α → Wp F) : Wp F := bnd w fun x => grd (xs.length < 16777216) (k (xs ++ [x]))
def extW (xs : List α) (w : Wp (List α)) (k : List α → Wp F) : Wp F := bnd w fun ys => grd (xs.length + ys.length ≤ 16777216) (k (xs ++ ys))
def letK (k : S → Wp F) (f : (S → Wp F) → Wp F) : Wp F := f k
def eqW (d d' : PyData) : Wp Bool := grd (SeqAt.shaped d = true ∧ SeqAt.shaped d' = true) (ret (PyData.eqv d d'))
def eqWN (d d' : PyData) : Wp Bool := grd (SeqAt.shaped d = true ∧ SeqAt.shaped d' = true) (ret (!PyData.eqv d d'))
def eqL (d d' : List PyData) : Wp Bool := grd (SeqAt.shaped (.list d) = true ∧ SeqAt.shaped (.list d') = true) (ret (PyData.eqv (.list d) (.list d')))
def eqLN (d d' : List PyData) : Wp Bool := grd (SeqAt.shaped (.list d) = true ∧ SeqAt.shaped (.list d') = true) (ret (!PyData.eqv (.list d) (.list d')))
/-- sorted, by Python's order of data -/
def sortW (e : α → PyData) (xs : List α) : Wp (List α) := grd (PySem.W.AllAlike (xs.map e) ∧ PySem.W.Sortable (xs.map e) ∧ xs.length ≤ 16777216 ∧ ∀ x ∈ xs, (e x).depth ≤ 60) (ret (xs.mergeSort (PySem.W.dataLe false e)))
def minL (e : α → PyData) : List α → Option α
  | [] => none
  | x :: xs => some (xs.foldl (fun a y => if PySem.W.dataLt (e y) (e a) then y else a) x)
def minW (e : α → PyData) (xs : List α) : Wp α := grd (PySem.W.AlikeAll (xs.map e) ∧ PyData.depthAll (xs.map e) ≤ 60 ∧ ∀ x ∈ xs, (e x).canLay0 = true) (opt (minL e xs))
variable {K : PySem.W.Frag} {C : Cn} {Γ : List Ety} {res : F → Oc} {N Bk Ct : Cont F}
theorem EvI {wi : TI} {w : Wp α} {ds : α → List PyData} {own : Nat → Bool} (h : ItG C Γ wi w ds own) : ItG C Γ wi w ds own := h
theorem sb_retF {te : TE} {w : Wp F} {e : F → PyData} (h : EvG C Γ te w (fun r => RF C.K (e r))) (hr : ∀ r, res r = .fz (e r)) : SimB C res N Bk Ct (tRet te) Γ w := sb_ret (g := fun r => r) h hr
theorem sb_retSS {te : TE} {w : Wp F} {S : F → Sl} (h : EvG C Γ te w (fun r => RN (S r))) (hr : ∀ r, res r = .nw (S r)) : SimB C res N Bk Ct (tRet te) Γ w := sb_retS (g := fun r => r) h hr
theorem sb_setLK {i : Nat} {te ti : TE} {e : α → PyData} {xs : List α} {w : Wp α} {wi : Wp Int} {k : List α → Wp F} (h : Γ[i]? = some (.sl (ls C.K (xs.map e)))) (he : EvG C Γ te w (fun r => RF C.K (e r))) (hi : EvG C Γ ti wi (fun r => RF C.K (eI r)))
    (hk : ∀ ys, Lands N (Γ.set i (.sl (ls C.K (ys.map e)))) (k ys)) : SimB C res N Bk Ct (tAsg te (gSub (tVar i) ti rSetL)) Γ (setW xs w wi k) := sb_setL h he hi fun x j => hk _
theorem sb_appendK {i : Nat} {te : TE} {e : α → PyData} {xs : List α} {w : Wp α} {k : List α → Wp F} (h : Γ[i]? = some (.sl (ls C.K (xs.map e)))) (he : EvG C Γ te w (fun r => RF C.K (e r))) (hk : ∀ ys, Lands N (Γ.set i (.sl (ls C.K (ys.map e)))) (k ys)) :
    SimB C res N Bk Ct (tDrop (tBM C.K "list" rAppend (tVar i) (tCons te tNil))) Γ (appW xs w k) := sb_append h he fun x => hk _
theorem sb_extendK {i : Nat} {te : TE} {e : α → PyData} {xs : List α} {w : Wp (List α)} {k : List α → Wp F} (h : Γ[i]? = some (.sl (ls C.K (xs.map e)))) (he : EvG C Γ te w (fun r => RN (ls C.K (r.map e)))) (hk : ∀ ys, Lands N (Γ.set i (.sl (ls C.K (ys.map e)))) (k ys)) :
    SimB C res N Bk Ct (tDrop (tBM C.K "list" rExtend (tVar i) (tCons te tNil))) Γ (extW xs w k) := sb_extend h he fun x => hk _
/-- x += e, the sum as a letter -/
theorem sb_augK {i : Nat} {te : TE} {op : Int → Int → Int} {x : Int} {w : Wp Int} {k : Int → Wp F} (h : Γ[i]? = some (.sl (fz C.K (eI x)))) (he : EvG C Γ te w (fun r => RF C.K (eI r))) (hk : ∀ z, Lands N (Γ.set i (.sl (fz C.K (eI z)))) (k z)) :
    SimB C res N Bk Ct (tAug i te (ipI op)) Γ (bnd (bnd w fun y => ret (op x y)) k) := sb_aug h he hk
/-! ### slices -/
def cutA (xs : List α) (lo hi : Option Int) : List α := (xs.drop (HT.sIx xs.length 0 lo)).take (HT.sIx xs.length xs.length hi - HT.sIx xs.length 0 lo)
def EvO (C : Cn) (Γ : List Ety) (t : TO) (w : Wp (Option Int)) : Prop := ∀ (P : Option Int → Prop) (X : Xn → Prop), w P X → ∀ B σ H fp, En B Γ σ H fp → Exok C B X →
  ∀ Q : Option Int → Hp → Prop, (∀ b H', P b → Stp B H H' → Q b H') → t σ H Q
theorem eo_none : EvO C Γ tNoPart (ret none) := fun P X hw B σ H fp en ex Q q => q none H hw (.refl en.tps)
theorem eo_some {t : TE} {w : Wp Int} (h : EvG C Γ t w (fun r => RF C.K (eI r))) : EvO C Γ (tPart t) (bnd w fun i => ret (some i)) := fun P X hw B σ H fp en ex Q q =>
  h _ X hw B σ H fp en ex _ fun i v H' hp s hv => ⟨i, Fz.int_inv hv, q (some i) H' hp s⟩
theorem cut_fz {H : Hp} {vs : List V} {e : α → PyData} {xs : List α} (hz : FzAll K H vs (xs.map e)) (lo hi : Option Int) : FzAll K H (cutV vs lo hi) ((cutA xs lo hi).map e) := by
  have hl : vs.length = xs.length := by rw [hz.length, List.length_map]
  unfold cutV cutA
  rw [hl, List.map_take, List.map_drop]
  exact (hz.drop _).take _
theorem ev_slT {te : TE} {tl th : TO} {w : Wp (List α)} {wl wh : Wp (Option Int)} {e : α → PyData} (h : EvG C Γ te w (fun r => RF C.K (eT e r))) (hl : EvO C Γ tl wl) (hh : EvO C Γ th wh) :
    EvG C Γ (tSl (rSlA C.K) te tl th) (bnd w fun xs => bnd wl fun l => bnd wh fun u => ret (cutA xs l u)) (fun r => RF C.K (eT e r)) := fun P X hw B σ H fp en ex Q q => by
  refine h _ X hw B σ H fp en ex _ fun xs v H1 h1 s1 hv => ?_
  refine hl _ X h1 B σ H1 fp (en.step s1) ex _ fun l H2 h2 s2 => ?_
  refine hh _ X h2 B σ H2 fp ((en.step s1).step s2) ex _ fun u H3 h3 s3 => ?_
  have s13 := s2.trans s3
  obtain ⟨a, vs, rfl, hs, hz⟩ := Fz.tup_inv hv
  have hz3 := hz.stay (s13.stay s1.ts)
  have hs3 := sqT_stay (s13.stay s1.ts) hs
  have hc := cut_fz hz3 l u
  refine ⟨a, vs, rfl, hs3, fun hw0 => ?_, fun hw0 p hp => ?_⟩
  · have : cutV vs l u = vs := by
      unfold cutV
      rw [hw0.1, hw0.2, List.drop_zero, Nat.sub_zero, List.take_length]
    rw [this] at hc
    exact q _ _ H3 h3 (s1.trans s13) (.tup hs3 hc)
  · have s4 : Stp B H3 (upd H3 p (.tup (cutV vs l u))) := .new s3.ts hp
    exact q _ _ _ h3 ((s1.trans s13).trans s4) (.tup (.inl (.inl upd_same)) (hc.stay (s4.stay s3.ts)))
theorem ev_slL {te : TE} {tl th : TO} {w : Wp (List α)} {wl wh : Wp (Option Int)} {e : α → PyData} (h : EvG C Γ te w (fun r => RL C.K (r.map e))) (hl : EvO C Γ tl wl) (hh : EvO C Γ th wh) :
    EvG C Γ (tSl (rSlL C.K) te tl th) (bnd w fun xs => bnd wl fun l => bnd wh fun u => ret (cutA xs l u)) (fun r => RN (ls C.K (r.map e))) := fun P X hw B σ H fp en ex Q q => by
  refine h _ X hw B σ H fp en ex _ fun xs v H1 h1 s1 hv => ?_
  refine hl _ X h1 B σ H1 fp (en.step s1) ex _ fun l H2 h2 s2 => ?_
  refine hh _ X h2 B σ H2 fp ((en.step s1).step s2) ex _ fun u H3 h3 s3 => ?_
  have s13 := s2.trans s3
  have hv3 := st_L B H H H1 H3 v en.tps s1.ts s13 hv fun _ z => z
  obtain ⟨a, vs, rfl, hs, hz⟩ := hv3
  have hc := cut_fz hz l u
  refine ⟨a, vs, rfl, hs.sq, fun p hp => ?_⟩
  have s4 : Stp B H3 (upd H3 p (.lst (cutV vs l u))) := .new s3.ts hp
  refine q _ _ _ h3 ((s1.trans s13).trans s4) ⟨[p], ⟨p, _, rfl, rfl, upd_same, hc.stay (s4.stay s3.ts)⟩, fun b hb => ?_⟩
  rw [List.mem_singleton.mp hb]
  exact (s1.trans s13).back en.tps hp
/-- t + u -/
theorem o_catT {e : α → PyData} (xs ys : List α) : OpG C (rCatA C.K) (RF C.K (eT e xs)) (RF C.K (eT e ys)) (grd (xs.length + ys.length ≤ 16777216) (ret (xs ++ ys))) (fun r => RF C.K (eT e r)) := fun P X hw B H0 H x y t0 ts hb hx hy Q q => by
  obtain ⟨a, vs, rfl, hs, hz⟩ := Fz.tup_inv hx
  obtain ⟨b, ws, rfl, hs2, hz2⟩ := Fz.tup_inv hy
  have hl := hz.length
  have hl2 := hz2.length
  rw [List.length_map] at hl hl2
  have hc : FzAll C.K H (vs ++ ws) ((xs ++ ys).map e) := by
    rw [List.map_append]
    exact hz.append hz2
  refine ⟨a, b, vs, ws, rfl, rfl, hs, hs2, by rw [hl, hl2]; exact hw.1, fun e0 => ?_, fun e1 e0 => ?_, fun e1 e2 p hp => ?_⟩
  · subst e0
    exact q _ _ H hw.2 (.refl ts) (.tup hs2 hc)
  · subst e0
    rw [List.append_nil] at hc
    exact q _ _ H hw.2 (.refl ts) (.tup hs hc)
  · have s : Stp B H (upd H p (.tup (vs ++ ws))) := .new ts hp
    exact q _ _ _ hw.2 s (.tup (.inl (.inl upd_same)) (hc.stay (s.stay ts)))
theorem ev_opNN {r : R2} {ta tb : TE} {wa : Wp α} {wb : Wp β} {S1 : α → Sl} {S2 : β → Sl} {w : α → β → Wp γ} {R : γ → Rk} (ha : EvG C Γ ta wa (fun x => RN (S1 x))) (hb : EvG C Γ tb wb (fun x => RN (S2 x))) (hr : ∀ a b, OpG C r (RN (S1 a)) (RN (S2 b)) (w a b) R) :
    EvG C Γ (tOp r ta tb) (bnd wa fun a => bnd wb fun b => w a b) R := ev_op ha (fun _ => hb) hr (fun _ => st_N) (fun _ _ => st_N)
/-- a list that is walked already, walked again -/
theorem it_lk {i : Nat} {e : α → PyData} {p : Addr} {ws : List V} (xs : List α) (h : Γ[i]? = some (.sl (lk C.K p ws (xs.map e)))) : ItG C Γ (iList C.K (tVar i)) (ret xs) (fun r => r.map e) (ownOf i) := fun P X hw B σ H fp en ex R q => by
  obtain ⟨v, hv, rfl, e2, hp, hz⟩ := en.sl i _ h
  have hlen := hz.length
  have hm : p ∈ fp i := by rw [e2]; exact List.mem_singleton.mpr rfl
  refine ⟨_, hv, p, rfl, ⟨ws, .inl (.inl hp)⟩, q xs _ H [p] hw (.refl en.tps) ⟨fun a h => ?_, fun i H2 st hi => ?_, fun i H2 st hi => ⟨ws, .inl (.inl (st p _ hp (.inl (by simp)))), le_beta hlen hi⟩⟩ fun a h => ?_⟩
  · rw [List.mem_singleton.mp h]
    exact ⟨en.nt i p hm, _, hp⟩
  · have stay : Stay H H2 := fun a o e z => st a o e (.inr z)
    have hs2 : SqL C.K H2 p ws := .inl (.inl (st p _ hp (.inl (by simp))))
    have hi2 : i < ws.length := lt_beta hlen hi
    refine ⟨⟨ws, ws[i], hs2, List.getElem?_eq_getElem hi2⟩, fun x H3 hy => ?_⟩
    obtain ⟨rfl, hx⟩ := hy
    obtain ⟨d, hd, hf⟩ := (hz.stay stay).getV (hx ws hs2)
    exact ⟨fun _ _ e => e, d, hd, hf⟩
  · rw [List.mem_singleton.mp h]
    exact .inr (.inl ⟨i, by unfold ownOf; simp, hm⟩)
/-! ### sorted, min: lists of data -/
theorem each_get {R : Value → β → Prop} : ∀ {us : List Value} {bs : List β}, PySem.W.EachIs R us bs → us.length = bs.length
  | _, _, .nil => rfl
  | _, _, .cons _ t => by rw [List.length_cons, List.length_cons, each_get t]
theorem each_of {H : Hp} {e : β → PyData} : ∀ {xs : List V} {us : List Value} {bs : List β}, Vals xs us → FzAll K H xs (bs.map e) → PySem.W.EachIs (fun u b => ∃ x, RelV x u ∧ Fz K H x (e b)) us bs
  | _, _, [], r, h => by
    cases h
    cases r
    exact .nil
  | _, _, b :: bs, r, h => by
    cases h with
    | cons h1 h2 =>
      cases r with
      | cons r1 r2 => exact .cons ⟨_, r1, h1⟩ (each_of r2 h2)
theorem of_each {H : Hp} {e : β → PyData} : ∀ {us : List Value} {bs : List β}, PySem.W.EachIs (fun u b => ∃ x, RelV x u ∧ Fz K H x (e b)) us bs → ∃ xs, Vals xs us ∧ FzAll K H xs (bs.map e)
  | _, _, .nil => ⟨[], .nil, .nil⟩
  | _, _, .cons ⟨x, h1, h2⟩ t => by
    obtain ⟨xs, h3, h4⟩ := of_each t
    exact ⟨x :: xs, .cons h1 h3, .cons h2 h4⟩
def rSortD (K : PySem.W.Frag) : List V → Hp → VK → Prop := fun vs H Q => ∃ (β : Type) (a : Addr) (xs : List V) (bs : List β) (e : β → PyData), vs = [.ref a] ∧ SqL K H a xs ∧ FzAll K H xs (bs.map e) ∧ PySem.W.AllAlike (bs.map e) ∧ PySem.W.Sortable (bs.map e) ∧ bs.length ≤ sizeLine ∧
  (∀ b ∈ bs, (e b).depth ≤ 60) ∧ ∀ (ys : List V) (p : Addr), H p = none → FzAll K H ys ((bs.mergeSort (PySem.W.dataLe false e)).map e) → Q (.ref p) (upd H p (.lst ys))
theorem cr_sortD {X : Cx} (hu : X.A.units + 64 < cLine) : CallR X (.builtin "sorted") (rSortD X.K) := by
  intro pins s σ H vs us Q I r h
  obtain ⟨β, a, xs, bs, e, rfl, hs, hz, hal, hso, hlen, hdp, q⟩ := h
  obtain ⟨its, rv, hl, hsz⟩ := I.list hs
  rw [Vals.ref1 r]
  have er := each_of rv hz
  refine PySem.W.sorted_data (enc := e) (R := fun u b => ∃ x, RelV x u ∧ Fz X.K H x (e b)) hl.isList er (er.mono fun u b ⟨x, h1, h2⟩ => Dp.reads I _ _ _ h2.dp h1) hal hso hlen (fun b hb => ?_) fun out hol heach => ?_
  · have := hdp b hb
    omega
  · obtain ⟨ys, h1, h2⟩ := of_each heach
    obtain ⟨ep, he'⟩ := PyProof.Rows.sortedAll_at s.heap its out.toArray
    have hyl : ys.length ≤ sizeLine := by rw [h1.length, hol]; exact hlen
    exact ⟨.ref _, upd H (s.heap.objs.size + 1) (.lst ys), I.laid (t' := s.toks) (fun _ _ => PyProof.Rows.sortedAll_old) (Nat.le_succ _) ⟨hyl, out, ep, h1, he'⟩, rfl, q ys _ (I.hok.fresh (Nat.le_succ _)) h2⟩
theorem c_sortD {e : α → PyData} (xs : List α) : CaG C (rSortD C.K) [RL C.K (xs.map e)] (sortW e xs) (fun r => RN (ls C.K (r.map e))) := fun P X ⟨hg, hw⟩ B H0 H vs t0 ts hb h Q q => by
  cases h with
  | cons h1 h2 =>
    cases h2
    obtain ⟨p, ws, rfl, hs, hz⟩ := h1
    refine ⟨α, p, ws, xs, e, rfl, hs.sq, hz, hg.1, hg.2.1, hg.2.2.1, hg.2.2.2, fun ys l hl hy => ?_⟩
    have s : Stp B H (upd H l (.lst ys)) := .new ts hl
    exact q _ _ _ hw s ⟨[l], ⟨l, ys, rfl, rfl, upd_same, hy.stay (s.stay ts)⟩, fun a ha => by rw [List.mem_singleton.mp ha]; exact hb l hl⟩
theorem minD_map (e : α → PyData) : ∀ (xs : List α) (x : α), PySem.W.minD (e x) (xs.map e) = e (xs.foldl (fun a y => if PySem.W.dataLt (e y) (e a) then y else a) x)
  | [], x => rfl
  | y :: xs, x => by
    show PySem.W.minD (if PySem.W.dataLt (e y) (e x) then e y else e x) (xs.map e) = e (xs.foldl _ (if PySem.W.dataLt (e y) (e x) then y else x))
    rw [← minD_map e xs]
    split <;> rfl
def rMinD (K : PySem.W.Frag) : List V → Hp → VK → Prop := fun vs H Q => ∃ (a : Addr) (xs : List V) (d : PyData) (ds : List PyData), vs = [.ref a] ∧ SqL K H a xs ∧ FzAll K H xs (d :: ds) ∧ PySem.W.AlikeAll (d :: ds) ∧ PyData.depthAll (d :: ds) ≤ 60 ∧ (∀ z ∈ d :: ds, z.canLay0 = true) ∧
  ∀ v, Fz K H v (PySem.W.minD d ds) → Q v H
theorem cr_minD {X : Cx} (hc : X.calm = true) (hu : X.A.units + 64 < cLine) : CallR X (.builtin "min") (rMinD X.K) := by
  intro pins s σ H vs us Q I r h
  obtain ⟨a, xs, d, ds, rfl, hs, hz, hal, hdp, hlay, q⟩ := h
  obtain ⟨its, rv, hl, hsz⟩ := I.list hs
  rw [Vals.ref1 r]
  obtain ⟨as, hr⟩ := Dp.readsAll I _ _ _ hz.dp rv
  refine PySem.W.min_list_data (I.ok.hd hc) hl.isList (by simpa using hr) hal (by omega) fun i v h' tk bs hv hrd hk => ?_
  have hv' : its[i]? = some v := by simpa using hv
  have hi : i < xs.length := by
    rw [rv.length]
    exact (List.getElem?_eq_some_iff.mp hv').1
  obtain ⟨u, hu', ru⟩ := rv.get (List.getElem?_eq_getElem hi)
  rw [hv'] at hu'
  cases hu'
  obtain ⟨z, hzd, hzf⟩ := hz.getV (List.getElem?_eq_getElem hi)
  obtain ⟨cs, r1⟩ := Dp.reads I _ _ _ hzf.dp ru
  have e := PySem.SeqAt.Reads.unique z _ v _ _ (hlay z (List.mem_of_getElem? hzd)) (PySem.W.reads_keeps hk r1) hrd
  exact ⟨_, H, I.kept (t' := tk) hk, ru, q _ (e ▸ hzf)⟩
theorem c_minD {e : α → PyData} (xs : List α) : CaG C (rMinD C.K) [RL C.K (xs.map e)] (minW e xs) (fun r => RF C.K (e r)) := fun P X ⟨hg, m, hm, hw⟩ B H0 H vs t0 ts hb h Q q => by
  cases h with
  | cons h1 h2 =>
    cases h2
    obtain ⟨p, ws, rfl, hs, hz⟩ := h1
    cases xs with
    | nil => cases hm
    | cons x xs =>
      cases hm
      refine ⟨p, ws, e x, xs.map e, rfl, hs.sq, hz, hg.1, hg.2.1, fun z hz' => ?_, fun v hv => ?_⟩
      · obtain ⟨y, hy, rfl⟩ := List.mem_map.mp (show z ∈ (x :: xs).map e from hz')
        exact hg.2.2 y hy
      · rw [minD_map] at hv
        exact q _ v H hw (.refl ts) hv
theorem ev_unO {t : TE} {w : Wp (Option α)} {e : α → PyData} (h : EvG C Γ t w (fun r => RF C.K (eO e r))) : EvG C Γ t (bnd w fun o => opt o) (fun r => RF C.K (e r)) := fun P X hw B σ H fp en ex Q q =>
  h _ X hw B σ H fp en ex Q fun o v H' ⟨a, ho, hp⟩ s hv => by
    subst ho
    exact q a v H' hp s hv
end
end WL
/-! WL, part 8: the layer's rules with the written part said apart (so that they fit a comprehension's block too). -/
namespace WL
open PySem PySem.Spec PyProof.Rows L2
section
variable {X : Cx} {K : PySem.W.Frag}
theorem ix_tupK (h : X.K = K) : IxR X (rIxT K) := by subst h; exact ix_tup
theorem ix_listK (h : X.K = K) : IxR X (rIxL K) := by subst h; exact ix_list
theorem op_inK (h : X.K = K) : OpR X (compareOp .In) (rIn K false) := by subst h; exact op_in_seq
theorem op_niK (h : X.K = K) : OpR X (compareOp .NotIn) (rIn K true) := by subst h; exact op_notIn_seq
theorem op_eqDK (h : X.K = K) (hu : X.A.units + 64 < cLine) : OpR X (compareOp .Eq) (rEqD K) := by subst h; exact op_eqD hu
theorem op_neDK (h : X.K = K) (hu : X.A.units + 64 < cLine) : OpR X (compareOp .NotEq) (rNeD K) := by subst h; exact op_neD hu
theorem call_lenK (h : X.K = K) : CallR X (.builtin "len") (rLen K) := by subst h; exact call_len_seq
theorem call_tupK (h : X.K = K) : CallR X (.type "tuple") (rTup K) := by subst h; exact call_tuple_of
theorem call_lstK (h : X.K = K) : CallR X (.type "list") (rLst K) := by subst h; exact call_list_of
theorem cr_sumK (h : X.K = K) (hc : X.calm = true) : CallR X (.builtin "sum") (rSum K) := by subst h; exact cr_sum hc
theorem cr_maxK (h : X.K = K) (hc : X.calm = true) : CallR X (.builtin "max") (rMax K) := by subst h; exact cr_max hc
theorem cr_minK' (h : X.K = K) (hc : X.calm = true) : CallR X (.builtin "min") (rMin K) := by subst h; exact cr_min hc
theorem cr_anyK (h : X.K = K) (hc : X.calm = true) : CallR X (.builtin "any") (rAny K) := by subst h; exact cr_any hc
theorem cr_allK (h : X.K = K) (hc : X.calm = true) : CallR X (.builtin "all") (rAll K) := by subst h; exact cr_all hc
theorem cr_sortDK (h : X.K = K) (hu : X.A.units + 64 < cLine) : CallR X (.builtin "sorted") (rSortD K) := by subst h; exact cr_sortD hu
theorem cr_minDK (h : X.K = K) (hc : X.calm = true) (hu : X.A.units + 64 < cLine) : CallR X (.builtin "min") (rMinD K) := by subst h; exact cr_minD hc hu
theorem sl_tupK (h : X.K = K) : SlR X (rSlA K) := by subst h; exact sl_tupA
theorem sl_listK (h : X.K = K) : SlR X (rSlL K) := by subst h; exact sl_list
theorem op_catK (h : X.K = K) : OpR X (binaryOp .Add) (rCatA K) := by subst h; exact op_catA
theorem pg_tupK {es : List Expr} {k : Nat} {t : TGs} {n : Nat} {pos : Pos} (hK : X.K = K) (hc : X.calm = true) (h : PGs X es t)
    (hn : (assignEach es X.env).length = n := by rfl) (hst : (assignEach es X.env).findIdx? (·.1) = none := by rfl) : PG X (.Tuple es k pos) (gTup K n t) := by subst hK; exact pg_tup hc h hn hst
theorem pi_listK {tg l : Expr} {tl : TE} (hK : X.K = K) (hl : PE X l tl) : PI X tg l (iList K tl) := by subst hK; exact pi_list hl
theorem pi_tupK {tg l : Expr} {tl : TE} (hK : X.K = K) (hl : PE X l tl) : PI X tg l (iTup K tl) := by subst hK; exact pi_tup hl
theorem pt_truthK {a : Expr} {ta : TE} (hK : X.K = K) (ha : PE X a ta) (he : ∀ whole, isTrue a X.env whole = (do let v ← whole; standAt a.pos; holding [v] (truthy v))) :
    PT X a (fun σ H Q => ta σ H fun x H' => ∃ k, TruV K x H' k ∧ Q k H') := by subst hK; exact pt_truth ha he
theorem o_eqDW {C : Cn} (d d' : PyData) : OpG C (rEqD C.K) (RF C.K d) (RF C.K d') (eqW d d') (fun r => RF C.K (eB r)) := o_eqD d d'
theorem o_neDW {C : Cn} (d d' : PyData) : OpG C (rNeD C.K) (RF C.K d) (RF C.K d') (eqWN d d') (fun r => RF C.K (eB r)) := o_neD d d'
theorem o_eqLW {C : Cn} (d d' : List PyData) : OpG C (rEqD C.K) (RL C.K d) (RL C.K d') (eqL d d') (fun r => RF C.K (eB r)) := o_eqL d d'
theorem o_neLW {C : Cn} (d d' : List PyData) : OpG C (rNeD C.K) (RL C.K d) (RL C.K d') (eqLN d d') (fun r => RF C.K (eB r)) := o_neL d d'
theorem ev_fdivW {C : Cn} {Γ : List Ety} {n : Int} {ta : TE} {w : Wp Int} (hn : 0 < n ∧ n.natAbs.log2 < 9000) (ha : EvG C Γ ta w (fun x => RF C.K (eI x))) : EvG C Γ (tOp (rI CDivW fun i j => .int (i / j)) ta (tC (.int n))) (bnd w fun y => ret (y / n)) (fun r => RF C.K (eI r)) := fun P X hw B σ H fp en ex Q q =>
  ha _ X hw B σ H fp en ex _ fun y v H' hp s hv => ⟨y, n, Fz.int_inv hv, rfl, hn, q _ _ H' hp s (.int _)⟩
/-- the first part of a block by what it reaches -/
theorem seq_via {t u : TS} {D : Ends} {σ : L2.St} {H : Hp} (I : L2.St → Hp → Prop) (h : ∀ N : L2.St → Hp → Prop, (∀ σ H, I σ H → N σ H) → t { D with nx := N } σ H) (r : ∀ σ H, I σ H → u D σ H) : tSeq t u D σ H := h _ r
/-- the tape: a list of the cells, the place, the number, the mixture, the budget -/
def tape1 : Sl where
  own := fun H v fp => ∃ (p q : Addr) (cells : List Int) (a b c d : Int), v = .ref p ∧ fp = [p, q] ∧ p ≠ q ∧ H p = some (.lst [.ref q, .int a, .int b, .int c, .int d]) ∧ H q = some (.lst (cells.map V.int)) ∧ 0 ≤ a ∧ 0 ≤ b ∧ 0 ≤ c
  ro := false
  dom := fun h ha => by
    obtain ⟨p, q, cells, a, b, c, d, _, e, _, h1, h2, _⟩ := h
    rw [e] at ha
    rcases List.mem_cons.mp ha with rfl | ha
    · exact ⟨_, h1, rfl⟩
    · rw [List.mem_singleton.mp ha]
      exact ⟨_, h2, rfl⟩
  keep := fun h k => by
    obtain ⟨p, q, cells, a, b, c, d, e1, e, hne, h1, h2, r⟩ := h
    exact ⟨p, q, cells, a, b, c, d, e1, e, hne, k p _ h1 (.inl (by rw [e]; simp)), k q _ h2 (.inl (by rw [e]; simp)), r⟩
end
end WL
/-! WL, part 9: dicts of the def's own with int keys. -/
namespace WL
open PySem PySem.Spec PyProof.Rows L2
section
variable {α β F : Type}
def valI (kvs : List (Int × α)) (k : Int) : Option α := (kvs.find? fun p => decide (p.1 = k)).map (·.2)
def putI (kvs : List (Int × α)) (k : Int) (v : α) : List (Int × α) := if (kvs.any fun p => decide (p.1 = k)) = true then kvs.map (fun p => if p.1 = k then (p.1, v) else p) else kvs ++ [(k, v)]
/-- entries that stand for kvs -/
inductive DkAll (K : PySem.W.Frag) (H : Hp) : List (Key × V) → List (Int × PyData) → Prop
  | nil : DkAll K H [] []
  | cons {k : Int} {v : V} {d : PyData} {a : List (Key × V)} {b : List (Int × PyData)} : Fz K H v d → DkAll K H a b → DkAll K H ((.inl k, v) :: a) ((k, d) :: b)
theorem DkAll.stay {K : PySem.W.Frag} {H H' : Hp} (st : Stay H H') : ∀ {a : List (Key × V)} {b : List (Int × PyData)}, DkAll K H a b → DkAll K H' a b
  | _, _, .nil => .nil
  | _, _, .cons h t => .cons (h.stay st) (t.stay st)
theorem DkAll.length {K : PySem.W.Frag} {H : Hp} : ∀ {a : List (Key × V)} {b : List (Int × PyData)}, DkAll K H a b → a.length = b.length
  | _, _, .nil => rfl
  | _, _, .cons _ t => congrArg Nat.succ t.length
theorem DkAll.keys {K : PySem.W.Frag} {H : Hp} : ∀ {a : List (Key × V)} {b : List (Int × PyData)}, DkAll K H a b → a.map (·.1) = (b.map (·.1)).map Sum.inl
  | _, _, .nil => rfl
  | _, _, .cons _ t => by rw [List.map_cons, List.map_cons, List.map_cons, t.keys]
theorem DkAll.get {K : PySem.W.Frag} {H : Hp} (k : Int) : ∀ {a : List (Key × V)} {b : List (Int × PyData)}, DkAll K H a b → (valV a (.inl k)).isSome = (valI b k).isSome ∧ ∀ d, valI b k = some d → ∃ v, valV a (.inl k) = some v ∧ Fz K H v d
  | _, _, .nil => ⟨rfl, fun d e => by cases e⟩
  | _, _, @DkAll.cons _ _ k' v d a b h t => by
    by_cases e : k' = k
    · subst e
      have e1 : valV ((Sum.inl k', v) :: a) (.inl k') = some v := valV_pos rfl
      have e2 : valI ((k', d) :: b) k' = some d := by simp [valI, List.find?_cons]
      rw [e1, e2]
      exact ⟨rfl, fun d' e' => by cases e'; exact ⟨v, rfl, h⟩⟩
    · have e1 : valV ((Sum.inl k', v) :: a) (.inl k) = valV a (.inl k) := valV_neg (fun z => e (Sum.inl.inj z))
      have e2 : valI ((k', d) :: b) k = valI b k := by simp [valI, List.find?_cons, e]
      rw [e1, e2]
      exact t.get k
theorem DkAll.any {K : PySem.W.Frag} {H : Hp} (k : Int) : ∀ {a : List (Key × V)} {b : List (Int × PyData)}, DkAll K H a b → (a.any fun kv => decide (kv.1 = .inl k)) = b.any fun p => decide (p.1 = k)
  | _, _, .nil => rfl
  | _, _, @DkAll.cons _ _ k' v d a b h t => by
    rw [List.any_cons, List.any_cons, t.any k]
    congr 1
    by_cases e : k' = k
    · subst e; simp
    · have : ¬ (Sum.inl k' : Key) = .inl k := fun z => e (Sum.inl.inj z)
      simp [e]
theorem DkAll.snoc {K : PySem.W.Frag} {H : Hp} {k : Int} {v : V} {d : PyData} (h : Fz K H v d) : ∀ {a : List (Key × V)} {b : List (Int × PyData)}, DkAll K H a b → DkAll K H (a ++ [(.inl k, v)]) (b ++ [(k, d)])
  | _, _, .nil => .cons h .nil
  | _, _, .cons h' t => .cons h' (t.snoc h)
theorem DkAll.over {K : PySem.W.Frag} {H : Hp} {k : Int} {v : V} {d : PyData} (h : Fz K H v d) : ∀ {a : List (Key × V)} {b : List (Int × PyData)}, DkAll K H a b → DkAll K H (a.map fun kv => if kv.1 = .inl k then (kv.1, v) else kv) (b.map fun p => if p.1 = k then (p.1, d) else p)
  | _, _, .nil => .nil
  | _, _, @DkAll.cons _ _ k' v' d' a b h' t => by
    rw [List.map_cons, List.map_cons]
    by_cases e : k' = k
    · subst e
      rw [if_pos rfl, if_pos rfl]
      exact .cons h (t.over h)
    · rw [if_neg (fun z => e (Sum.inl.inj z)), if_neg e]
      exact .cons h' (t.over h)
theorem DkAll.put {K : PySem.W.Frag} {H : Hp} {k : Int} {v : V} {d : PyData} {a : List (Key × V)} {b : List (Int × PyData)} (t : DkAll K H a b) (h : Fz K H v d) : DkAll K H (putK a (.inl k) v) (putI b k d) := by
  unfold putK putI
  rw [t.any k]
  split
  · exact t.over h
  · exact t.snoc h
def eP (e : α → PyData) (p : Int × α) : Int × PyData := (p.1, e p.2)
theorem valI_map (e : α → PyData) (k : Int) : ∀ kvs : List (Int × α), valI (kvs.map (eP e)) k = (valI kvs k).map e
  | [] => rfl
  | p :: r => by
    have ih := valI_map e k r
    unfold valI at ih ⊢
    rw [List.map_cons, List.find?_cons, List.find?_cons]
    by_cases h : p.1 = k
    · have : decide ((eP e p).1 = k) = true := decide_eq_true h
      rw [this, decide_eq_true h]
      rfl
    · have : decide ((eP e p).1 = k) = false := decide_eq_false h
      rw [this, decide_eq_false h]
      exact ih
theorem putI_map (e : α → PyData) (k : Int) (v : α) (kvs : List (Int × α)) : putI (kvs.map (eP e)) k (e v) = (putI kvs k v).map (eP e) := by
  unfold putI
  have : ((kvs.map (eP e)).any fun p => decide (p.1 = k)) = kvs.any fun p => decide (p.1 = k) := by
    rw [List.any_map]
    rfl
  rw [this]
  split
  · rw [List.map_map, List.map_map]
    refine List.map_congr_left fun p _ => ?_
    show (if p.1 = k then _ else _) = eP e (if p.1 = k then _ else _)
    split <;> rfl
  · rw [List.map_append]
    rfl
/-- a dict of its own, int keys -/
def dk (K : PySem.W.Frag) (kvs : List (Int × PyData)) : Sl where
  own := fun H v fp => ∃ p a, v = .ref p ∧ fp = [p] ∧ H p = some (.dK a) ∧ DkAll K H a kvs
  ro := false
  dom := fun h ha => by
    obtain ⟨p, vs, _, e, hp, _⟩ := h
    rw [e] at ha
    rw [List.mem_singleton.mp ha]
    exact ⟨_, hp, rfl⟩
  keep := fun h k => by
    obtain ⟨p, vs, e1, e2, hp, hz⟩ := h
    exact ⟨p, vs, e1, e2, k p _ hp (.inl (by rw [e2]; exact List.mem_singleton.mpr rfl)), hz.stay fun a o e z => k a o e (.inr z)⟩
variable {K : PySem.W.Frag} {C : Cn} {Γ : List Ety}
/-- {} -/
theorem ev_dnew {e : α → PyData} : EvG C Γ tDNewK (ret ([] : List (Int × α))) (fun r => RN (dk C.K (r.map (eP e)))) := fun P X hw B σ H fp en ex Q q => fun p hp =>
  q [] _ _ hw (.new en.tps hp) ⟨[p], ⟨p, [], rfl, rfl, upd_same, .nil⟩, fun a ha => by rw [List.mem_singleton.mp ha]; exact hp⟩
theorem En.dkv {B : Bs} {σ : List (Option V)} {H : Hp} {fp : Nat → List Addr} {kvs : List (Int × PyData)} {i : Nat} (en : En B Γ σ H fp) (h : Γ[i]? = some (.sl (dk C.K kvs))) : ∃ p a, σ[i]? = some (some (.ref p)) ∧ fp i = [p] ∧ H p = some (.dK a) ∧ DkAll C.K H a kvs := by
  obtain ⟨v, hv, p, a, rfl, e2, hp, hz⟩ := en.sl i _ h
  exact ⟨p, a, hv, e2, hp, hz⟩
theorem En.dkh {B : Bs} {σ : List (Option V)} {H : Hp} {fp : Nat → List Addr} {kvs : List (Int × PyData)} {i : Nat} (en : En B Γ σ H fp) (h : Has Γ i (dk C.K kvs)) : ∃ p a, σ[i]? = some (some (.ref p)) ∧ B.off p ∧ H p = some (.dK a) ∧ DkAll C.K H a kvs := by
  obtain ⟨v, fq, hv, ⟨p, a, rfl, e2, hp, hz⟩, hf⟩ := en.hold h
  exact ⟨p, a, hv, hf p (by rw [e2]; exact List.mem_singleton.mpr rfl), hp, hz⟩
theorem ev_din {i : Nat} {ty : TE} {e : α → PyData} {w : Wp Int} (kvs : List (Int × α)) (h : Has Γ i (dk C.K (kvs.map (eP e)))) (hy : EvG C Γ ty w (fun r => RF C.K (eI r))) : EvG C Γ (tDIn ty (tVar i)) (bnd w fun k => ret (valI kvs k).isSome) (fun r => RF C.K (eB r)) := fun P X hw B σ H fp en ex Q q =>
  hy _ X hw B σ H fp en ex _ fun k y H1 h1 s1 hk => by
    have ek := Fz.int_inv (n := k) hk
    subst ek
    obtain ⟨p, a, hv, hf, hp, hz⟩ := En.dkh (C := C) (en.step s1) h
    obtain ⟨g1, _⟩ := hz.get k
    rw [valI_map, Option.isSome_map] at g1
    exact ⟨_, hv, p, _, rfl, DGet.k (k := .inl k) hp, by rw [g1]; exact q _ _ H1 h1 s1 (.bl _)⟩
theorem ev_dnotin {i : Nat} {ty : TE} {e : α → PyData} {w : Wp Int} (kvs : List (Int × α)) (h : Has Γ i (dk C.K (kvs.map (eP e)))) (hy : EvG C Γ ty w (fun r => RF C.K (eI r))) : EvG C Γ (tDNotIn ty (tVar i)) (bnd w fun k => ret (!(valI kvs k).isSome)) (fun r => RF C.K (eB r)) := fun P X hw B σ H fp en ex Q q =>
  hy _ X hw B σ H fp en ex _ fun k y H1 h1 s1 hk => by
    have ek := Fz.int_inv (n := k) hk
    subst ek
    obtain ⟨p, a, hv, hf, hp, hz⟩ := En.dkh (C := C) (en.step s1) h
    obtain ⟨g1, _⟩ := hz.get k
    rw [valI_map, Option.isSome_map] at g1
    exact ⟨_, hv, p, _, rfl, DGet.k (k := .inl k) hp, by rw [g1]; exact q _ _ H1 h1 s1 (.bl _)⟩
theorem ev_dget {i : Nat} {ty : TE} {e : α → PyData} {w : Wp Int} (kvs : List (Int × α)) (h : Has Γ i (dk C.K (kvs.map (eP e)))) (hy : EvG C Γ ty w (fun r => RF C.K (eI r))) : EvG C Γ (tDGet (tVar i) ty) (bnd w fun k => opt (valI kvs k)) (fun r => RF C.K (e r)) := fun P X hw B σ H fp en ex Q q => by
  obtain ⟨p, a, hv, hf, hp, hz⟩ := En.dkh (C := C) en h
  refine ⟨_, hv, hy _ X hw B σ H fp en ex _ fun k y H1 h1 s1 hk => ?_⟩
  have ek := Fz.int_inv (n := k) hk
  subst ek
  obtain ⟨p', a', hv', hf', hp', hz'⟩ := En.dkh (C := C) (en.step s1) h
  rw [hv] at hv'
  cases hv'
  obtain ⟨d, hd, hP⟩ := h1
  obtain ⟨v, g1, g2⟩ := (hz'.get k).2 (e d) (by rw [valI_map, hd]; rfl)
  exact ⟨p, v, rfl, g1 ▸ DGet.k (k := .inl k) hp', q d v H1 hP s1 g2⟩
def putW (kvs : List (Int × α)) (w : Wp α) (wi : Wp Int) (k : List (Int × α) → Wp F) : Wp F := bnd w fun x => bnd wi fun j => grd (kvs.length < 16777216) (k (putI kvs j x))
theorem sb_dput {res : F → Oc} {N Bk Ct : Cont F} {i : Nat} {te ti : TE} {e : α → PyData} {kvs : List (Int × α)} {w : Wp α} {wi : Wp Int} {k : List (Int × α) → Wp F} (h : Γ[i]? = some (.sl (dk C.K (kvs.map (eP e))))) (he : EvG C Γ te w (fun r => RF C.K (e r))) (hi : EvG C Γ ti wi (fun r => RF C.K (eI r)))
    (hk : ∀ ys, Lands N (Γ.set i (.sl (dk C.K (ys.map (eP e))))) (k ys)) : SimB C res N Bk Ct (sDPut (tVar i) ti te) Γ (putW kvs w wi k) := fun P X hm B D ex f n b c σ H fp en => by
  refine he _ X hm B σ H fp en ex _ fun x v H1 h1 s1 hx => ?_
  have en1 := en.step s1
  obtain ⟨p, a, hv, hf, hp, hz⟩ := En.dkv (C := C) en1 h
  refine ⟨_, hv, hi _ X h1 B σ H1 fp en1 ex _ fun j y H2 h2 s2 hy => ?_⟩
  have ey := Fz.int_inv (n := j) hy
  subst ey
  have en2 := en1.step s2
  obtain ⟨p', a', hv', hf', hp', hz'⟩ := En.dkv (C := C) en2 h
  rw [hv] at hv'
  cases hv'
  have hl := hz'.length
  rw [List.length_map] at hl
  have hx2 : Fz C.K H2 v (e x) := hx.stay (s2.stay s1.ts)
  refine ⟨p, _, rfl, DPut.k (k := .inl j) hp' (by rw [hl]; exact h2.1), n _ _ (hk _ P X B σ _ fp h2.2 (en2.mut (p := p) h rfl hv (by rw [hf']; exact List.mem_singleton.mpr rfl) (fun q hq => by rw [hf'] at hq; exact List.mem_singleton.mp hq) rfl ?_))⟩
  have hs : Stay H2 (upd H2 p (.dK (putK a' (.inl j) v))) := fun b o eb st => by
    rw [upd_ne (fun z => by rw [z, hp'] at eb; cases eb; cases st)]
    exact eb
  refine ⟨p, _, rfl, hf', upd_same, ?_⟩
  rw [← putI_map]
  exact (hz'.stay hs).put (hx2.stay hs)
theorem hu1 {a : Nat} (h : a + 64 < cLine) : a + 1 < cLine := by omega
/-! sorted(d) -/
theorem ints_at : ∀ {us : List Value} {ks : List Int}, us.length = ks.length → (∀ (j : Nat) (v : Value), us[j]? = some v → ∃ (x : Int) (t : Tok), ks[j]? = some x ∧ v = Value.int x t) → PySem.W.EachIs (fun u b => ∃ x, RelV x u ∧ Fz K (fun _ => none) x (eI b)) us ks
  | [], [], _, _ => .nil
  | u :: us, k :: ks, hl, h => by
    obtain ⟨x, t, e1, e2⟩ := h 0 u rfl
    have e1' : k = x := Option.some.inj e1
    subst e1'
    subst e2
    refine .cons ⟨.int k, ⟨t, rfl⟩, .int k⟩ (ints_at (by simpa using hl) fun j v e => ?_)
    obtain ⟨x, t, a, b⟩ := h (j + 1) v (by simpa using e)
    exact ⟨x, t, by simpa using a, b⟩
  | [], _ :: _, hl, _ => by simp at hl
  | _ :: _, [], hl, _ => by simp at hl
def rSortDk : List V → Hp → VK → Prop := fun xs H Q => ∃ (a : Addr) (kvs : List (Key × V)) (ks : List Int), xs = [.ref a] ∧ H a = some (.dK kvs) ∧ kvs.map (·.1) = ks.map Sum.inl ∧ ks.length ≤ 16777216 ∧
    ∀ p, H p = none → Q (.ref p) (upd H p (.lst ((ks.mergeSort (PySem.W.dataLe false eI)).map V.int)))
theorem cr_sortDk {X : Cx} (hcalm : X.calm = true) (hu : X.A.units + 64 < cLine) : CallR X (.builtin "sorted") rSortDk := by
  intro pins s σ H xs us Q I r q
  obtain ⟨a, kvs, ks, ex, hd, hks, h64, q⟩ := q
  subst ex
  obtain ⟨u, eu, rx⟩ := vals1 r
  subst eu
  cases rx
  obtain ⟨z, lo, vs, rel, dd⟩ := dk_rd I.hok (.inl hd)
  obtain ⟨ep, hat⟩ := dd.dictAt
  have hkeys : vs.map (·.1) = ks.map Sum.inl := rel.keys.symm.trans hks
  have hl : vs.length = ks.length := by
    have e := congrArg List.length hkeys
    rw [List.length_map, List.length_map] at e
    exact e
  have h16 : vs.length ≤ sizeLine := by rw [hl]; exact h64
  refine Calls.call_function_entry PyProof.Rows.kind_sorted PyProof.Rows.plain_sorted PyProof.Rows.entry_sorted (PyProof.Rows.args_sorted1 _) ?_
  unfold Builtin.«sorted»
  refine wpAny_bind (m := checkCount "sorted" 1 1 _) (wpAny_pure ?_)
  refine wpAny_bind (PySem.W.kdu_collect (A := X.A.in1) (PySem.W.kdl_dict (knd := mixKind X.prog X.w) (kvs := vs) (ep := ep) lo) (I.ok.hd hcalm) hat h16 fun h' tk acc hk hacc => ?_)
  have hal : acc.toList.length = ks.length := by rw [Array.length_toList, hacc.1, hl]
  have hS : PySem.W.EachIs (fun u b => ∃ x, RelV x u ∧ Fz X.K (fun _ => none) x (eI b)) acc.toList ks := ints_at hal fun j v e => by
    obtain ⟨k, x, e1, e2⟩ := hacc.2 j v (by rw [← Array.getElem?_toList]; exact e)
    have e3 : (vs.map (·.1))[j]? = some k := by rw [List.getElem?_map, e1]; all_goals rfl
    rw [hkeys, List.getElem?_map] at e3
    cases e4 : ks[j]? with
    | none => rw [e4] at e3; cases e3
    | some y =>
      rw [e4] at e3
      have e5 : Sum.inl y = k := Option.some.inj e3
      subst e5
      rcases keyIs_shape (show keyIs (.inl y) v = true from e2) with ⟨i, t, ek, ev⟩ | ⟨z, t, ek, ev⟩
      · cases ek
        exact ⟨y, t, rfl, ev⟩
      · cases ek
  have I1 : Inv X pins σ H { s with heap := h', toks := tk } := I.kept hk
  refine wpAny_bind (wpAny_newList ?_ (by rw [hal]; exact h64))
  have hoL : (h'.push (seqObj "list" acc.toList.toArray 0)).get? h'.objs.size = some (seqObj "list" acc.toList.toArray 0) := Heap.get?_push_size _ rfl
  show wpAny _ _ _ _ _ { s with heap := h'.push (seqObj "list" acc.toList.toArray 0), toks := tk }
  have her : PySem.W.EachIs (fun v b => ∃ as, Reads (h'.push (seqObj "list" acc.toList.toArray 0)) v (eI b) as ∧ h'.objs.size ∉ as) acc.toList ks := hS.mono fun u b ⟨x, h1, h2⟩ => by
    have e := Fz.int_inv (n := b) h2
    subst e
    obtain ⟨t, rfl⟩ := h1
    exact ⟨[], .int _ _, fun h => nomatch h⟩
  have hal2 : PySem.W.AllAlike (ks.map eI) := by
    intro d hd d' hd'
    obtain ⟨i, _, rfl⟩ := List.mem_map.mp hd
    obtain ⟨j, _, rfl⟩ := List.mem_map.mp hd'
    rfl
  have hso : PySem.W.Sortable (ks.map eI) := by
    refine .inr fun d hd => ?_
    obtain ⟨i, _, rfl⟩ := List.mem_map.mp hd
    exact ⟨nofun, nofun⟩
  refine wpAny_bind (wpAny_holding (PySem.W.list_sort_data (enc := eI) (R := fun u b => ∃ x, RelV x u ∧ Fz X.K (fun _ => none) x (eI b)) (s := { s with heap := h'.push (seqObj "list" acc.toList.toArray 0), toks := tk }) hoL hS her hal2 hso (by exact h64) (fun b _ => ?_) fun out hol heach => ?_))
  · have : (eI b).depth = 0 := rfl
    have h1 := hu
    rw [this]
    have h2 : X.A.in1.units ≤ X.A.units + 1 := by first | exact Nat.le_refl _ | simp
    omega
  · obtain ⟨ys, h1, h2⟩ := of_each heach
    have h3 := FzAll.ints h2
    subst h3
    obtain ⟨e', he'⟩ := PyProof.Rows.sortedHeap_at (vs := acc.toList) (out := out.toArray) hoL
    have hyl : ((ks.mergeSort (PySem.W.dataLe false eI)).map V.int).length ≤ sizeLine := by rw [List.length_map, List.length_mergeSort]; exact h64
    refine wpAny_pure ⟨_, rfl, .ref h'.objs.size, upd H h'.objs.size (.lst ((ks.mergeSort (PySem.W.dataLe false eI)).map V.int)), I1.laid (t' := tk) (fun b u e => ?_) (Nat.le_refl _)
      (show ObjOk X.prog X.w _ _ _ (.lst _) from ⟨hyl, out, e', h1, he'⟩), rfl, q _ (I1.hok.fresh (Nat.le_refl _))⟩
    have hb : b < h'.objs.size := Heap.lt_size e
    rw [PyProof.Rows.sortedHeap_old (Nat.ne_of_lt hb) (by rw [size_push']; exact Nat.lt_succ_of_lt hb)]
    exact Heap.get?_push_of_some _ e
def sortK (kvs : List (Int × α)) : Wp (List Int) := grd (kvs.length ≤ 16777216) (ret ((kvs.map (·.1)).mergeSort (PySem.W.dataLe false eI)))
theorem ev_sortDk {i : Nat} {e : α → PyData} (kvs : List (Int × α)) (h : Has Γ i (dk C.K (kvs.map (eP e)))) : EvG C Γ (tCB rSortDk (tCons (tVar i) tNil)) (sortK kvs) (fun r => RN (ls C.K (r.map eI))) := fun P X hw B σ H fp en ex Q q => by
  obtain ⟨p, a, hv, hf, hp, hz⟩ := En.dkh (C := C) en h
  have hk : a.map (·.1) = (kvs.map (·.1)).map Sum.inl := by
    rw [hz.keys, List.map_map, List.map_map, List.map_map]
    rfl
  refine ⟨_, hv, p, a, kvs.map (·.1), rfl, hp, hk, by rw [List.length_map]; exact hw.1, fun l hl => q _ _ _ hw.2 (.new en.tps hl) ⟨[l], ⟨l, _, rfl, rfl, upd_same, ?_⟩, fun x hx => by rw [List.mem_singleton.mp hx]; exact hl⟩⟩
  have : ∀ ns : List Int, FzAll C.K (upd H l (.lst (((kvs.map (·.1)).mergeSort (PySem.W.dataLe false eI)).map V.int))) (ns.map V.int) (ns.map eI) := fun ns => by
    induction ns with
    | nil => exact .nil
    | cons n ns ih => exact .cons (.int n) ih
  exact this _
end
end WL
/-! WL, part 10: the law itself: the script's tape, the rest, the end. -/
namespace WL
open PySem PySem.Spec PyProof.Rows L2
/-- the tape of a script -/
def spTape (K : PySem.W.Frag) : Sp := fun vs H Q _ => ∃ (p : Addr) (ns : List Int) (z : Int), vs = [.ref p, .int z] ∧ SqL K H p (ns.map V.int) ∧ ∀ H' a b, (∀ x o, H x = some o → H' x = some o) → tape1.own H' (.ref a) [a, b] → Q (.ref a) H'
/-- the law at a script -/
def spLaw (K : PySem.W.Frag) : Sp := fun vs H Q _ => ∃ (p : Addr) (ns : List Int), vs = [.ref p] ∧ SqL K H p (ns.map V.int) ∧ ∀ H', Q (.bl true) H'
theorem law_start (K : PySem.W.Frag) (H : Hp) (a : Addr) (ns : List Int) (h : SqL K H a (ns.map V.int)) : spLaw K [.ref a] H (fun v _ => v = .bl true) fun _ _ _ => False := ⟨a, ns, rfl, h, fun _ => rfl⟩
theorem tape_new {K : PySem.W.Frag} {H : Hp} {Q : VK} {p : Addr} {ns : List Int} {z : Int} (hs : SqL K H p (ns.map V.int)) (q : ∀ H' a b, (∀ x o, H x = some o → H' x = some o) → tape1.own H' (.ref a) [a, b] → Q (.ref a) H') :
    (fun xs H Q => ∃ p ys, xs = [V.ref p] ∧ (SqL K H p ys ∨ SqT K H p ys) ∧ ∀ l, H l = none → Q (.ref l) (upd H l (.lst ys)) : List V → Hp → VK → Prop) [.ref p] H fun x H1 => ∀ a, H1 a = none → Q (.ref a) (upd H1 a (.lst [x, .int 0, .int 0, .int 1, .int z])) := by
  refine ⟨p, _, rfl, .inl hs, fun l hl a ha => q _ a l (fun x o e => ?_) ⟨a, l, ns, 0, 0, 1, z, rfl, rfl, (ne_of_none upd_same ha).symm, upd_same, ?_, by decide, by decide, by decide⟩⟩
  · have h1 : x ≠ l := ne_of_none e hl
    have e1 : upd H l (.lst (ns.map V.int)) x = some o := by rw [upd_ne h1]; exact e
    rw [upd_ne (ne_of_none e1 ha)]
    exact e1
  · rw [upd_ne (ne_of_none upd_same ha)]
    exact upd_same
theorem law_run {K : PySem.W.Frag} {n : Nat} {t : TS} {m : Wp Bool} {Q : VK} {H : Hp} {x : Option V} {a b : Addr}
    (hs : SimB ⟨K, E0, fun _ => (.none, "")⟩ (fun r : Bool => Oc.fz (eB r)) (endC fun r : Bool => Oc.fz (eB r)) noC noC t (.un :: .tp tape1 :: List.replicate n .un) m) (hm : m (fun b => b = true) (fun _ => False))
    (ho : tape1.own H (.ref a) [a, b]) (q : ∀ H', Q (.bl true) H') : t { nx := fun _ H' => Q .non H', rt := Q } (x :: some (.ref a) :: List.replicate n none) H := by
  refine hs _ _ hm ⟨H, [], some (tape1, .ref a, [a, b]), []⟩ _ exok_no (fun out v H' hp hf ht hv => ?_) (fun σ H' h => ?_) (fun σ H' h => h.elim) (fun σ H' h => h.elim) _ _ (fun _ => []) ?_
  · have e : out = true := hp
    subst e
    have e := Fz.bl_inv (b := true) hv
    subst e
    exact q H'
  · obtain ⟨out, _, hr, _⟩ := h
    cases hr
  · have key : ∀ (i : Nat) (e : Ety), (Ety.un :: .tp tape1 :: List.replicate n .un)[i]? = some e → e = .un ∨ (i = 1 ∧ e = .tp tape1) := fun i e h => by
      match i, h with
      | 0, h => cases h; exact .inl rfl
      | 1, h => cases h; exact .inr ⟨rfl, rfl⟩
      | i + 2, h =>
        have h : (List.replicate n Ety.un)[i]? = some e := h
        rw [List.getElem?_replicate] at h
        split at h
        · cases h; exact .inl rfl
        · cases h
    refine ⟨by simp, fun i S h => ?_, fun i S h => ?_, fun i h => rfl, fun i j a h => (by cases h), fun i a h => (by cases h), fun i a S h _ h2 => (by cases h2), fun i K' ds h => ?_, fun i S h => ?_, fun r h => (by cases h), fun a o e => ⟨o, e, fun _ _ => rfl, fun _ => rfl⟩, fun t e => ?_⟩
    · rcases key i _ h with h | ⟨_, h⟩ <;> cases h
    · rcases key i _ h with h | ⟨rfl, h⟩
      · cases h
      · cases h
        exact ⟨_, _, rfl, rfl⟩
    · rcases key i _ h with h | ⟨_, h⟩ <;> cases h
    · rcases key i _ h with h | ⟨_, h⟩ <;> cases h
    · cases e
      exact ho
end WL
/-! WL, part 11: what a transformer is sure to answer. -/
namespace WL
open PySem
variable {α β γ S F : Type}
/-- m answers, raises nothing, and what it answers has Q -/
def Ens (m : Wp α) (Q : α → Prop) : Prop := ∀ (P : α → Prop) (X : Xn → Prop), (∀ v, Q v → P v) → m P X
theorem Ens.mono {m : Wp α} {Q R : α → Prop} (h : Ens m Q) (k : ∀ v, Q v → R v) : Ens m R := fun P X hp => h P X fun v hv => hp v (k v hv)
theorem en_ret {a : α} {Q : α → Prop} (h : Q a) : Ens (ret a) Q := fun P X hp => hp a h
theorem en_eq (a : α) : Ens (ret a) (fun v => v = a) := en_ret rfl
theorem en_bnd {m : Wp α} {k : α → Wp β} {R : α → Prop} {Q : β → Prop} (h : Ens m R) (hk : ∀ a, R a → Ens (k a) Q) : Ens (bnd m k) Q := fun P X hp => h _ X fun a ha => hk a ha P X hp
theorem en_bndE {m : Wp α} {k : α → Wp β} {a : α} {Q : β → Prop} (h : Ens m (fun v => v = a)) (hk : Ens (k a) Q) : Ens (bnd m k) Q := en_bnd h fun _ e => e ▸ hk
theorem en_grd {c : Prop} {m : Wp α} {Q : α → Prop} (hc : c) (h : Ens m Q) : Ens (grd c m) Q := fun P X hp => ⟨hc, h P X hp⟩
theorem en_opt {o : Option α} {a : α} {Q : α → Prop} (e : o = some a) (h : Q a) : Ens (opt o) Q := fun P X hp => ⟨a, e, hp a h⟩
theorem en_optE {o : Option α} {a : α} (e : o = some a) : Ens (opt o) (fun v => v = a) := en_opt e rfl
theorem en_sel {b : Bool} {m n : Wp α} {Q : α → Prop} (h1 : b = true → Ens m Q) (h2 : b = false → Ens n Q) : Ens (sel b m n) Q := by
  cases b with
  | true => exact h1 rfl
  | false => exact h2 rfl
theorem en_any {p : α → Prop} {Q : α → Prop} (h : ∀ a, p a → Q a) : Ens (anyW p) Q := fun P X hp a ha => hp a (h a ha)
theorem en_noX {m : Wp α} {Q : α → Prop} (h : Ens m Q) : Ens (noX m) Q := fun P X hp => h P _ hp
theorem en_map {m : Wp α} {f : α → β} {Q : β → Prop} (h : Ens m (fun a => Q (f a))) : Ens (mapW f m) Q := fun P X hp => h _ X fun a ha => hp _ ha
theorem en_letK {k : S → Wp F} {f : (S → Wp F) → Wp F} {Q : F → Prop} {I : S → Prop} (hk : ∀ s, I s → Ens (k s) Q) (hf : ∀ k' : S → Wp F, (∀ s, I s → Ens (k' s) Q) → Ens (f k') Q) : Ens (letK k f) Q := hf k hk
/-- a loop: an invariant by what is walked -/
theorem en_for {body : α → S → (S → Wp F) → (S → Wp F) → Wp F} {exit : S → Wp F} {Q : F → Prop} (I : List α → S → Prop) (xs : List α) {s : S} (h0 : I [] s)
    (hb : ∀ pre x post s k, xs = pre ++ x :: post → I pre s → (∀ s', I (pre ++ [x]) s' → Ens (k s') Q) → Ens (body x s k exit) Q) (hx : ∀ s, I xs s → Ens (exit s) Q) : Ens (forK body exit xs s) Q := by
  have : ∀ (post pre : List α) (s : S), xs = pre ++ post → I pre s → Ens (forK body exit post s) Q := by
    intro post
    induction post with
    | nil =>
      intro pre s e h
      rw [List.append_nil] at e
      exact hx s (e ▸ h)
    | cons x post ih =>
      intro pre s e h
      exact hb pre x post s _ e h fun s' h' => ih (pre ++ [x]) s' (by rw [e]; simp) h'
  exact this xs [] s rfl h0
/-- the same, members of the list alone -/
theorem en_forM {body : α → S → (S → Wp F) → (S → Wp F) → Wp F} {exit : S → Wp F} {Q : F → Prop} (I : S → Prop) (xs : List α) {s : S} (h0 : I s)
    (hb : ∀ x s k, x ∈ xs → I s → (∀ s', I s' → Ens (k s') Q) → Ens (body x s k exit) Q) (hx : ∀ s, I s → Ens (exit s) Q) : Ens (forK body exit xs s) Q :=
  en_for (fun _ s => I s) xs h0 (fun pre x post s k e h hk => hb x s k (by rw [e]; simp) h fun s' h' => hk s' h') hx
theorem en_while {c : S → Wp Bool} {body : S → (S → Wp F) → (S → Wp F) → Wp F} {exit : S → Wp F} {Q : F → Prop} (I : S → Prop) (b : S → Bool) (μ : S → Nat) {s : S} (h0 : I s) (hc : ∀ s, I s → Ens (c s) (fun v => v = b s))
    (hb : ∀ s k, I s → b s = true → (∀ s', I s' → μ s' < μ s → Ens (k s') Q) → Ens (body s k exit) Q) (hx : ∀ s, I s → b s = false → Ens (exit s) Q) : Ens (whileW c body exit s) Q := by
  have : ∀ (n : Nat) (s : S), I s → μ s < n → Ens (whileK c body exit n s) Q := by
    intro n
    induction n with
    | zero => intro s _ h; omega
    | succ n ih =>
      intro s h hm
      exact en_bndE (hc s h) (en_sel (fun e => hb s _ h e fun s' h' hl => ih s' h' (by omega)) fun e => hx s h e)
  exact fun P X hp => ⟨μ s + 1, this _ s h0 (by omega) P X hp⟩
/-- a comprehension that is sure of its answer -/
theorem en_lcW {c : α → Wp Bool} {f : α → Wp β} {p : α → Bool} {g : α → β} : ∀ (xs : List α), (∀ x ∈ xs, Ens (c x) (fun v => v = p x)) → (∀ x ∈ xs, p x = true → Ens (f x) (fun v => v = g x)) → Ens (lcW c f xs) (fun v => v = (xs.filter p).map g)
  | [], _, _ => en_eq _
  | x :: xs, h1, h2 => by
    have ih := en_lcW xs (fun y hy => h1 y (List.mem_cons_of_mem _ hy)) fun y hy => h2 y (List.mem_cons_of_mem _ hy)
    refine en_bndE (h1 x List.mem_cons_self) (en_sel (fun e => ?_) fun e => ?_)
    · rw [List.filter_cons_of_pos e]
      exact en_bndE (h2 x List.mem_cons_self e) (en_bndE ih (en_eq _))
    · rw [List.filter_cons_of_neg (by rw [e]; decide)]
      exact ih
theorem en_lc {c : α → Wp Bool} {f : α → Wp β} (p : α → Bool) (g : α → β) (xs : List α) (hl : xs.length ≤ 16777216) (h1 : ∀ x ∈ xs, Ens (c x) (fun v => v = p x)) (h2 : ∀ x ∈ xs, p x = true → Ens (f x) (fun v => v = g x)) : Ens (lcG c f xs) (fun v => v = (xs.filter p).map g) :=
  en_grd hl (en_noX (en_lcW xs h1 h2))
theorem en_lcF {c : α → Wp Bool} {f : α → Wp α} (p : α → Bool) (xs : List α) (hl : xs.length ≤ 16777216) (h1 : ∀ x ∈ xs, Ens (c x) (fun v => v = p x)) (h2 : ∀ x ∈ xs, p x = true → Ens (f x) (fun v => v = x)) : Ens (lcG c f xs) (fun v => v = xs.filter p) := by
  have := en_lc p (fun x => x) xs hl h1 h2
  simpa using this
/-- a comprehension by what its items have -/
theorem en_lcR {c : α → Wp Bool} {f : α → Wp β} {R : α → β → Prop} : ∀ (xs : List α), (∀ x ∈ xs, Ens (c x) (fun _ => True)) → (∀ x ∈ xs, Ens (f x) (R x)) → Ens (lcW c f xs) (fun ys => ys.length ≤ xs.length ∧ ∀ y ∈ ys, ∃ x ∈ xs, R x y)
  | [], _, _ => en_ret ⟨Nat.le_refl _, fun y hy => by cases hy⟩
  | x :: xs, h1, h2 => by
    have ih := en_lcR xs (fun y hy => h1 y (List.mem_cons_of_mem _ hy)) fun y hy => h2 y (List.mem_cons_of_mem _ hy)
    refine en_bnd (h1 x List.mem_cons_self) fun b _ => en_sel (fun e => ?_) fun e => ?_
    · refine en_bnd (h2 x List.mem_cons_self) fun y hy => en_bnd ih fun ys ⟨hl, hm⟩ => en_ret ⟨Nat.succ_le_succ hl, fun z hz => ?_⟩
      rcases List.mem_cons.mp hz with rfl | hz
      · exact ⟨x, List.mem_cons_self, hy⟩
      · obtain ⟨x', hx', hr⟩ := hm z hz
        exact ⟨x', List.mem_cons_of_mem _ hx', hr⟩
    · exact ih.mono fun ys ⟨hl, hm⟩ => ⟨Nat.le_succ_of_le hl, fun z hz => by
        obtain ⟨x', hx', hr⟩ := hm z hz
        exact ⟨x', List.mem_cons_of_mem _ hx', hr⟩⟩
theorem en_lcGR {c : α → Wp Bool} {f : α → Wp β} {R : α → β → Prop} (xs : List α) (hl : xs.length ≤ 16777216) (h1 : ∀ x ∈ xs, Ens (c x) (fun _ => True)) (h2 : ∀ x ∈ xs, Ens (f x) (R x)) : Ens (lcG c f xs) (fun ys => ys.length ≤ xs.length ∧ ∀ y ∈ ys, ∃ x ∈ xs, R x y) :=
  en_grd hl (en_noX (en_lcR xs h1 h2))
theorem en_app {xs : List α} {w : Wp α} {k : List α → Wp F} {R : α → Prop} {Q : F → Prop} (h : Ens w R) (hl : xs.length < 16777216) (hk : ∀ a, R a → Ens (k (xs ++ [a])) Q) : Ens (appW xs w k) Q := en_bnd h fun a ha => en_grd hl (hk a ha)
theorem en_ext {xs : List α} {w : Wp (List α)} {k : List α → Wp F} {R : List α → Prop} {Q : F → Prop} (h : Ens w R) (hl : ∀ ys, R ys → xs.length + ys.length ≤ 16777216) (hk : ∀ ys, R ys → Ens (k (xs ++ ys)) Q) : Ens (extW xs w k) Q := en_bnd h fun a ha => en_grd (hl a ha) (hk a ha)
theorem rng_small {i : Int} (h0 : 0 ≤ i) (h1 : i < 1000000) : Rng i := ⟨by omega, by omega⟩
theorem mem_span {lo : Int} {n : Nat} {x : Int} : x ∈ span lo n ↔ lo ≤ x ∧ x < lo + n := by
  unfold span
  rw [List.mem_map]
  constructor
  · rintro ⟨k, hk, rfl⟩
    rw [List.mem_range] at hk
    omega
  · rintro ⟨h1, h2⟩
    exact ⟨(x - lo).toNat, List.mem_range.mpr (by omega), by omega⟩
end WL
/-! WL, part 12: comprehensions with two for. -/
namespace WL
open PySem PySem.Spec PyProof.Rows L2
section
variable {α β γ : Type} {C : Cn} {Γ : List Ety}
def lc2W (c : α → Wp Bool) (w1 : α → Wp (List γ)) (c1 : α → γ → Wp Bool) (f : α → γ → Wp β) : Nat → List α → Wp (List β)
  | _, [] => ret []
  | n, x :: xs => bnd (c x) fun b => sel b (bnd (w1 x) fun us => grd (n + us.length ≤ 16777216) (bnd (lcW (c1 x) (f x) us) fun ys => bnd (lc2W c w1 c1 f (n + us.length) xs) fun zs => ret (ys ++ zs))) (lc2W c w1 c1 f n xs)
def lc2G (c : α → Wp Bool) (w1 : α → Wp (List γ)) (c1 : α → γ → Wp Bool) (f : α → γ → Wp β) (xs : List α) : Wp (List β) := noX (lc2W c w1 c1 f 0 xs)
theorem ev_lc2 {wi wi1 : TI} {g g1 : TG} {tt tt1 : TT} {te : TE} {vs vs1 : List Nat} {w : Wp (List α)} {e : α → PyData} {own : Nat → Bool} {c : α → Wp Bool} {w1 : α → Wp (List γ)} {e1 : γ → PyData} {own1 : α → Nat → Bool} {c1 : α → γ → Wp Bool} {f : α → γ → Wp β} {e' : β → PyData} {Γb : α → List Ety} {Γc : α → γ → List Ety}
    (hi : ItG C Γ wi w (fun r => r.map e) own) (hg : ∀ x, TgG C.K (unA Γ vs) g vs (e x) (Γb x)) (ht : ∀ x, EvT C.nox (Γb x) tt (c x))
    (hi1 : ∀ x, ItG C.nox (Γb x) wi1 (w1 x) (fun r => r.map e1) (own1 x)) (hg1 : ∀ x y, TgG C.K (unA (Γb x) vs1) g1 vs1 (e1 y) (Γc x y)) (ht1 : ∀ x y, EvT C.nox (Γc x y) tt1 (c1 x y)) (hf : ∀ x y, EvG C.nox (Γc x y) te (f x y) (fun r => RF C.K (e' r))) :
    EvG C Γ (tLc2 wi g tt wi1 g1 tt1 te vs vs1) (bnd w fun xs => lc2G c w1 c1 f xs) (fun r => RN (ls C.K (r.map e'))) := fun P X hw B σ H fp en ex Q q => by
  refine hi _ X hw B σ H fp en ex _ fun xs J H1 sup hp s1 ok hsup => ?_
  intro D hD
  have hD0 : H D = none := s1.back en.tps hD
  have offD : B.off D := s1.ts.new hD
  have hBD : B.H D = none := by
    cases z : B.H D with
    | none => rfl
    | some o =>
      obtain ⟨o', e', _⟩ := (en.step s1).fr D o z
      rw [hD] at e'; cases e'
  have nD : ∀ i, D ∉ fp i := fun i hm => by
    obtain ⟨S, hS⟩ := en.lt hm
    obtain ⟨v, _, ho⟩ := en.sl i S hS
    obtain ⟨o, eo, _⟩ := S.dom ho hm
    rw [hD0] at eo; cases eo
  have nsup : D ∉ sup := fun hm => by
    obtain ⟨_, o, eo⟩ := ok.sp D hm
    rw [hD] at eo; cases eo
  have hRD : ∀ r ∈ B.R, r.1 ≠ D := fun r hr z => rd_new ((en.step s1).rr r hr).1 (by rw [z]; exact hD)
  obtain ⟨fpw, enw, subw⟩ := (en.step s1).wiped vs
  refine ⟨fun i m H2 => m = xs.length - i ∧ i ≤ xs.length ∧ (∀ a o, H1 a = some o → B.off a → H2 a = some o) ∧ TpSt B H2 ∧ En B (unA Γ vs) (wipe σ vs) H2 fpw ∧ ∃ (n : Nat) (acc : List V) (ys : List β), H2 D = some (.lst acc) ∧ acc.length ≤ n ∧ FzAll C.K H2 acc (ys.map e') ∧
      lc2W c w1 c1 f n (xs.drop i) (fun zs => P (ys ++ zs)) (fun _ => False), ⟨xs.length, by omega, Nat.zero_le _, fun a o ea _ => ?_, ?_, ?_, 0, [], [], upd_same, Nat.le_refl _, .nil, hp⟩, ?_⟩
  · rw [upd_ne (ne_of_none ea hD)]
    exact ea
  · exact s1.ts.same (upd_keeps hD)
  · exact enw.step (.new s1.ts hD)
  rintro i m H2 ⟨rfl, hi', kp, ts2, en2, n, acc, ys, hacc, hal, hz, hlc⟩
  have kst : ∀ a o, H1 a = some o → (a ∈ sup ∨ still o = true) → H2 a = some o := fun a o ea z => by
    rcases z with z | z
    · exact kp a o ea (ok.sp a z).1
    · exact kp a o ea (s1.ts.notstill ea z)
  by_cases hlt : i < xs.length
  · obtain ⟨go, yld⟩ := ok.go i H2 kst (by rw [List.length_map]; exact hlt)
    refine .inr ⟨go, fun H' => ∃ m', m' < xs.length - i ∧ (m' = xs.length - (i + 1) ∧ i + 1 ≤ xs.length ∧ (∀ a o, H1 a = some o → B.off a → H' a = some o) ∧ TpSt B H' ∧ En B (unA Γ vs) (wipe σ vs) H' fpw ∧ ∃ (n : Nat) (acc : List V) (ys : List β), H' D = some (.lst acc) ∧ acc.length ≤ n ∧ FzAll C.K H' acc (ys.map e') ∧
      lc2W c w1 c1 f n (xs.drop (i + 1)) (fun zs => P (ys ++ zs)) (fun _ => False)), fun H' h => h, fun x H3 hy => ?_⟩
    obtain ⟨kp3, d, hd, hx⟩ := yld x H3 hy
    have ed : d = e xs[i] := by
      rw [List.getElem?_map, List.getElem?_eq_getElem hlt] at hd
      exact (Option.some.inj hd).symm
    subst ed
    have s3 : Stp B H2 H3 := .same ts2 kp3
    have en3 := en2.step s3
    refine (hg xs[i]).run B (wipe σ vs) H3 fpw x en3 hx _ fun σ4 fp4 en4 hw4 sub4 => ?_
    have nD4 : ∀ i, D ∉ fp4 i := fun i hm => by
      obtain ⟨j, hj⟩ := sub4 D i hm
      exact nD j (subw D j hj)
    have hdrop : xs.drop i = xs[i] :: xs.drop (i + 1) := List.drop_eq_getElem_cons hlt
    rw [hdrop] at hlc
    refine ⟨hw4.trans (wipe_idem vs σ), ?_⟩
    refine ht xs[i] _ (fun _ => False) hlc B σ4 H3 fp4 en4 exok_no _ fun b H5 hb s5 => ?_
    have en5 := en4.step s5
    have s25 := s3.trans s5
    have kp5 : ∀ a o, H1 a = some o → B.off a → H5 a = some o := fun a o ea na => s25.kp a o (kp a o ea na) na
    cases b with
    | false =>
      refine iteF ?_
      exact ⟨xs.length - (i + 1), by omega, rfl, hlt, kp5, s5.ts, en2.step s25, n, acc, ys, s25.kp D _ hacc offD, hal, hz.stay (s25.stay ts2), hb⟩
    | true =>
      refine iteT ?_
      have hb : bnd (w1 xs[i]) _ _ _ := hb
      refine hi1 xs[i] _ (fun _ => False) hb B σ4 H5 fp4 en5 exok_no _ fun us J1 H6 sup1 hus s6 ok1 hsup1 => ?_
      obtain ⟨hbound, hus⟩ := hus
      have s26 := s25.trans s6
      have hD5 : H5 D = some (.lst acc) := s25.kp D _ hacc offD
      have hD6 : H6 D = some (.lst acc) := s26.kp D _ hacc offD
      have nsup1 : D ∉ sup1 := fun hm => by
        rcases hsup1 D hm with h | ⟨i, _, h⟩ | ⟨r, h1, h2⟩
        · rw [hD5] at h; cases h
        · exact nD4 i h
        · exact hRD r h1 h2
      have en6 := en5.step s6
      obtain ⟨fpv, env, subv⟩ := en6.wiped vs1
      have nDv : ∀ i, D ∉ fpv i := fun i hm => nD4 i (subv D i hm)
      have kp6 : ∀ a o, H1 a = some o → B.off a → H6 a = some o := fun a o ea na => s6.kp a o (kp5 a o ea na) na
      refine ⟨fun j k H7 => k = us.length - j ∧ j ≤ us.length ∧ (∀ a o, H6 a = some o → a ≠ D → B.off a → H7 a = some o) ∧ TpSt B H7 ∧ En B (unA (Γb xs[i]) vs1) (wipe σ4 vs1) H7 fpv ∧ En B (unA Γ vs) (wipe σ vs) H7 fpw ∧ ∃ (acc : List V) (ys : List β), H7 D = some (.lst acc) ∧ acc.length ≤ n + j ∧ FzAll C.K H7 acc (ys.map e') ∧
        lcW (c1 xs[i]) (f xs[i]) (us.drop j) (fun zs => lc2W c w1 c1 f (n + us.length) (xs.drop (i + 1)) (fun rs => P (ys ++ (zs ++ rs))) (fun _ => False)) (fun _ => False), ⟨us.length, by omega, Nat.zero_le _, fun a o ea _ _ => ea, s6.ts, env, en2.step s26, acc, ys, hD6, by omega, hz.stay (s26.stay ts2), hus⟩, ?_⟩
      rintro j k H7 ⟨rfl, hj', kp7, ts7, en7, enw7, acc7, ys7, hacc7, hal7, hz7, hlc7⟩
      have kst7 : ∀ a o, H6 a = some o → (a ∈ sup1 ∨ still o = true) → H7 a = some o := fun a o ea z => by
        rcases z with z | z
        · exact kp7 a o ea (fun z' => nsup1 (z' ▸ z)) (ok1.sp a z).1
        · refine kp7 a o ea (fun z' => ?_) (s6.ts.notstill ea z)
          rw [z', hD6] at ea
          cases ea
          cases z
      by_cases hlt1 : j < us.length
      · obtain ⟨go1, yld1⟩ := ok1.go j H7 kst7 (by rw [List.length_map]; exact hlt1)
        refine .inr ⟨go1, fun H' => ∃ m', m' < us.length - j ∧ (m' = us.length - (j + 1) ∧ j + 1 ≤ us.length ∧ (∀ a o, H6 a = some o → a ≠ D → B.off a → H' a = some o) ∧ TpSt B H' ∧ En B (unA (Γb xs[i]) vs1) (wipe σ4 vs1) H' fpv ∧ En B (unA Γ vs) (wipe σ vs) H' fpw ∧ ∃ (acc : List V) (ys : List β), H' D = some (.lst acc) ∧ acc.length ≤ n + (j + 1) ∧ FzAll C.K H' acc (ys.map e') ∧
          lcW (c1 xs[i]) (f xs[i]) (us.drop (j + 1)) (fun zs => lc2W c w1 c1 f (n + us.length) (xs.drop (i + 1)) (fun rs => P (ys ++ (zs ++ rs))) (fun _ => False)) (fun _ => False)), fun H' h => h, fun x1 H8 hy1 => ?_⟩
        obtain ⟨kp8, d1, hd1, hx1⟩ := yld1 x1 H8 hy1
        have ed1 : d1 = e1 us[j] := by
          rw [List.getElem?_map, List.getElem?_eq_getElem hlt1] at hd1
          exact (Option.some.inj hd1).symm
        subst ed1
        have s8 : Stp B H7 H8 := .same ts7 kp8
        have en8 := en7.step s8
        refine (hg1 xs[i] us[j]).run B (wipe σ4 vs1) H8 fpv x1 en8 hx1 _ fun σ9 fp9 en9 hw9 sub9 => ?_
        have nD9 : ∀ i, D ∉ fp9 i := fun i hm => by
          obtain ⟨k, hk⟩ := sub9 D i hm
          exact nDv k hk
        have hdrop1 : us.drop j = us[j] :: us.drop (j + 1) := List.drop_eq_getElem_cons hlt1
        rw [hdrop1] at hlc7
        refine ⟨hw9.trans (wipe_idem vs1 σ4), ?_⟩
        refine ht1 xs[i] us[j] _ (fun _ => False) hlc7 B σ9 H8 fp9 en9 exok_no _ fun b H10 hb1 s10 => ?_
        have en10 := en9.step s10
        have s710 := s8.trans s10
        have kp10 : ∀ a o, H6 a = some o → a ≠ D → B.off a → H10 a = some o := fun a o ea nd na => s710.kp a o (kp7 a o ea nd na) na
        cases b with
        | true =>
          refine iteT ?_
          refine hf xs[i] us[j] _ (fun _ => False) hb1 B σ9 H10 fp9 en10 exok_no _ fun y v H11 hy6 s11 r11 => ?_
          have s711 := s710.trans s11
          have hD11 : H11 D = some (.lst acc7) := s711.kp D _ hacc7 offD
          have hz11 := hz7.stay (s711.stay ts7)
          have enw11 := enw7.step s711
          have env11 := en7.step s711
          have stE : Stay H11 (upd H11 D (.lst (acc7 ++ [v]))) := fun a o ea z => by
            have : a ≠ D := by
              rintro rfl
              rw [hD11] at ea; cases ea; cases z
            rw [upd_ne this]
            exact ea
          have enyw := enw11.side (o' := .lst (acc7 ++ [v])) hD11 rfl (fun i hm => nD i (subw D i hm)) offD hBD hRD
          have enyv := env11.side (o' := .lst (acc7 ++ [v])) hD11 rfl nDv offD hBD hRD
          refine ⟨acc7, hD11, lc_list_room _ (by omega), us.length - (j + 1), by omega, rfl, hlt1, fun a o ea nd na => ?_, enyw.tps, enyv, enyw, acc7 ++ [v], ys7 ++ [y], upd_same, ?_, ?_, ?_⟩
          · rw [upd_ne nd]
            exact s11.kp a o (kp10 a o ea nd na) na
          · rw [List.length_append, List.length_singleton]
            omega
          · rw [List.map_append]
            exact (hz11.stay stE).append (.one (Fz.stay stE r11))
          · have : (fun zs => lc2W c w1 c1 f (n + us.length) (xs.drop (i + 1)) (fun rs => P (ys7 ++ [y] ++ (zs ++ rs))) (fun _ => False)) = fun zs => lc2W c w1 c1 f (n + us.length) (xs.drop (i + 1)) (fun rs => P (ys7 ++ (y :: zs ++ rs))) (fun _ => False) := by
              funext zs
              congr 1
              funext rs
              rw [List.append_assoc]
              rfl
            rw [this]
            exact hy6
        | false =>
          refine iteF ?_
          exact ⟨us.length - (j + 1), by omega, rfl, hlt1, kp10, s10.ts, en7.step s710, enw7.step s710, acc7, ys7, s710.kp D _ hacc7 offD, by omega, hz7.stay (s710.stay ts7), hb1⟩
      · have ej : j = us.length := by omega
        subst ej
        rw [List.drop_length] at hlc7
        refine .inl ⟨ok1.stop _ H7 kst7 (by rw [List.length_map]; exact Nat.le_refl _), ?_⟩
        exact ⟨xs.length - (i + 1), by omega, rfl, hlt, fun a o ea na => kp7 a o (kp6 a o ea na) (fun z => by rw [z, hD] at ea; cases ea) na, ts7, enw7, n + us.length, acc7, ys7, hacc7, hal7, hz7, hlc7⟩
  · have ei : i = xs.length := by omega
    subst ei
    rw [List.drop_length] at hlc
    refine .inl ⟨ok.stop _ H2 kst (by rw [List.length_map]; exact Nat.le_refl _), ?_⟩
    have hP : P (ys ++ []) := hlc
    rw [List.append_nil] at hP
    refine q ys (.ref D) H2 hP ⟨fun a o ea na => kp a o (s1.kp a o ea na) na, ts2⟩ ⟨[D], ⟨D, acc, rfl, rfl, hacc, hz⟩, fun a ha => ?_⟩
    rw [List.mem_singleton.mp ha]
    exact hD0
theorem wipe_wide {σ σ' : List (Option V)} {v0 vs : List Nat} (h : wipe σ' v0 = wipe σ v0) (hs : ∀ i ∈ v0, i ∈ vs) : wipe σ' vs = wipe σ vs := by
  have hl : σ'.length = σ.length := by
    have := congrArg List.length h
    rwa [wipe_length, wipe_length] at this
  refine List.ext_getElem? fun j => ?_
  have hj : (wipe σ' v0)[j]? = (wipe σ v0)[j]? := by rw [h]
  rw [wipe_get, wipe_get] at hj ⊢
  by_cases hv : j ∈ vs
  · rw [if_pos hv, if_pos hv]
    by_cases hlt : j < σ.length
    · rw [List.getElem?_eq_getElem hlt, List.getElem?_eq_getElem (by omega)]
      rfl
    · rw [List.getElem?_eq_none (by omega), List.getElem?_eq_none (by omega)]
  · have h0 : j ∉ v0 := fun z => hv (hs j z)
    rw [if_neg h0, if_neg h0] at hj
    rw [if_neg hv, if_neg hv, hj]
theorem tg_wide {K : PySem.W.Frag} {g : TG} {v0 vs : List Nat} {d : PyData} {Γ' : List Ety} (h : TgG K Γ g v0 d Γ') (hs : ∀ i ∈ v0, i ∈ vs) : TgG K Γ g vs d Γ' :=
  ⟨fun B σ H fp v en hz Q q => h.run B σ H fp v en hz Q fun σ' fp' en' hw sub => q σ' fp' en' (wipe_wide hw hs) sub⟩
end
end WL
/-! WL, part 13: enumerate of a tuple. -/
namespace WL
open PySem PySem.Spec PyProof.Rows L2
set_option maxHeartbeats 1000000 in
theorem enum_newB1 {v : Value} {o : Obj} {H : Heap → Prop} (B : Begins v o H) :
    Meets (Builtin.«enumerate.__new__» ⟨[.type "enumerate", v], []⟩) (fun _ R s => H s.heap ∧
      R (.ok (.ret (.ref (s.heap.push o).objs.size))) { s with heap := (s.heap.push o).push { cls := .type "enumerate", data := .fields #[.none, .bool false, .ref s.heap.objs.size, rawInt 0, .none, .none] } }) :=
  .of_wp fun prog w A R s h => by
    obtain ⟨hp, g, d, tk, os⟩ := s
    obtain ⟨h1, h⟩ := h
    have hsub := sub_enumerate
    have q1 : ∀ {A' : Around} {E : Value → Shared → Prop} {Q : Value → Shared → Prop}, Q (.ref hp.objs.size) ⟨hp.push o, g, d, tk, os⟩ → wpAny (model prog w) A' (pyIter v) Q E ⟨hp, g, d, tk, os⟩ := fun q => B.iter prog w _ _ ⟨hp, g, d, tk, os⟩ _ h1 q
    wp_walk using q1
    refine wpAny_stack_any fun st => wpAny_pure ?_
    split
    · rename_i c _ _ _ _ _
      cases (c == Value.type "enumerate") <;> (wp_walk using q1; exact ⟨_, rfl, h⟩)
    · wp_walk using q1
      exact ⟨_, rfl, h⟩
section
variable {prog : Program} {w : World} {A : Around} {E : Value → Shared → Prop} {s : Shared}
theorem enum_call1 {v : Value} {o : Obj} {H : Heap → Prop} {Q : Value → Shared → Prop} (B : Begins v o H) (h1 : H s.heap)
    (h : ∀ h', IsEnum h' (s.heap.objs.size + 1) s.heap.objs.size 0 .none → h'.get? s.heap.objs.size = some o → h'.objs.size = s.heap.objs.size + 2 → (∀ b o, s.heap.get? b = some o → h'.get? b = some o) → Q (.ref (s.heap.objs.size + 1)) { s with heap := h' }) :
    wpAny (model prog w) A (call (.type "enumerate") [v]) Q E s := by
  refine callType_new F.called_enumerate (by decide) (F.typeCall_enumerate_1 _) (F.newCall_enumerate_1 _) (fun obj => F.args_object_init_2 obj _) F.entry_enumerate_new (enum_newB1 B) ⟨h1, ?_⟩
  have hz : (s.heap.push o).objs.size = s.heap.objs.size + 1 := Heap.size_push ..
  show _ ∧ _
  rw [hz]
  have he : IsEnum ((s.heap.push o).push { cls := .type "enumerate", data := .fields #[.none, .bool false, .ref s.heap.objs.size, rawInt 0, .none, .none] }) (s.heap.objs.size + 1) s.heap.objs.size 0 .none := by
    have := Heap.get?_push_size (s.heap.push o) (o := { cls := .type "enumerate", data := .fields #[.none, .bool false, .ref s.heap.objs.size, rawInt 0, .none, .none] }) rfl
    rw [hz] at this
    exact this
  exact ⟨⟨_, he, rfl⟩, h _ he (Heap.get?_push_of_some _ (Heap.get?_push_size _ B.free)) (by rw [Heap.size_push, hz]) fun b o x => Heap.get?_push_of_some _ (Heap.get?_push_of_some _ x)⟩
end
/-- an iterator that is at its end -/
theorem drained {prog : Program} {w : World} {A : Around} (hh : A.handled = none) (it t : Addr) (i : Nat) {items : Array Value} (hi : items.size ≤ i) :
    Draws prog w A it [it, t] i (fun _ _ => False) (fun j h => j = i ∧ h.IsTupleIter it t i ∧ h.IsTuple t items) where
  live := fun _ _ st => let ⟨o, ho, _⟩ := st.2.1; ⟨o, ho⟩
  frame := fun _ _ _ st hk => ⟨st.1, st.2.1.at fun o e => hk it (by simp) o e, st.2.2.at fun o e => hk t (by simp) o e⟩
  item := fun j s Q E hj st _ => absurd st.1 (Nat.ne_of_lt hj)
  done := fun s Q E st hE => wpAny_nextOf_tuple_end hh st.2.1 st.2.2 (by simp; omega) hE
/-- the tuple at a, each item in a new pair -/
def IteT (K : PySem.W.Frag) (a : Addr) : It :=
  ⟨fun i H => ∃ (xs : List V) (x : V), SqT K H a xs ∧ xs[i]? = some x, fun i H v H' => ∃ T x, v = .ref T ∧ H T = none ∧ H' = upd H T (.tup [.int (i : Nat), x]) ∧ ∀ xs, SqT K H a xs → xs[i]? = some x, fun i H => ∃ xs : List V, SqT K H a xs ∧ xs.length ≤ i⟩
theorem turn_enumT {P : Program} {w : World} {K : PySem.W.Frag} {elts : List Expr} {kk : Nat} {tpos : Pos} (a e it : Addr) :
    Turn P w K (.Tuple elts kk tpos) (IteT K a) [e, it] e (fun i h => (∃ old, IsEnum h e it ((i : Nat) : Int) old) ∧ h.IsTupleIter it a i ∧ e ≠ it ∧ a ≠ it ∧ a ≠ e) where
  mem := by simp
  obj := fun i h st b hb => by
    obtain ⟨⟨old, he⟩, ⟨o, ho, hc, hd⟩, _⟩ := st
    have e' : b = e ∨ b = it := by simpa using hb
    rcases e' with z | z
    · rw [z]; exact ⟨_, he, fun v q => nomatch q⟩
    · rw [z]; exact ⟨o, ho, fun v q => by rw [hd] at q; cases q⟩
  keep := fun i h h' st k => let ⟨⟨old, he⟩, hi, hne⟩ := st; ⟨⟨old, k e (by simp) _ he⟩, hi.at fun o q => k it (by simp) o q, hne⟩
  item := by
    intro X hP hw hK hc i pins s σ H E I hf st hg
    subst hP hw hK
    obtain ⟨⟨old, he⟩, hit, hne, hai, hae⟩ := st
    obtain ⟨xs, x, hq, hx⟩ := hg
    obtain ⟨its, rv, p, hz⟩ := I.tuple hq
    obtain ⟨u, hu, ru⟩ := rv.get hx
    have hel : e < s.heap.objs.size := Heap.lt_size he
    have hil : it < s.heap.objs.size := by obtain ⟨_, q, _⟩ := hit; exact Heap.lt_size q
    have hlt : i < its.toArray.size := by
      have := (List.getElem?_eq_some_iff.mp hu).1
      simpa using this
    refine wpAny_pyNext_enum_itemD (Draws.tuple (prog := X.prog) (w := X.w) (A := X.A.in1) (I.ok.hd hc) it a hai its.toArray) he ⟨hit, p⟩ hlt hne (by simp; exact ⟨hne, fun z => hae z.symm⟩) fun x' h' tk hx' ho hst' hT hsz hk => ?_
    have ex : x' = u := by
      rw [List.getElem?_toArray, hu] at hx'
      exact (Option.some.inj hx').symm
    subst ex
    refine ⟨_, rfl, wpAny_letOwnedTupleGo_enum (s := { s with heap := h', toks := tk + 1 }) ho fun h'' he' sb => ?_⟩
    have hT2 : h''.get? s.heap.objs.size = some { cls := .type "tuple", data := .seq #[.int i tk, x'] } := (sb.2 _ (Nat.ne_of_gt hel)).trans hT
    have new : ObjOk X.prog X.w (upd H s.heap.objs.size (.tup [.int (i : Nat), x])) h'' s.heap.objs.size (.tup [.int (i : Nat), x]) :=
      ⟨by show 2 ≤ sizeLine; decide, [.int i tk, x'], .cons ⟨_, rfl⟩ (.cons ru .nil), ⟨_, hT2, rfl, _, rfl⟩⟩
    have I1 : Inv X pins σ (upd H s.heap.objs.size (.tup [.int (i : Nat), x])) { s with heap := h'', toks := tk + 1 } :=
      I.turnedNew (ch := [e, it]) (fun b ob hb q => (sb.2 b (fun z => hb (by simp [z]))).trans (hk b ob (fun z => hb (by simp [z])) (fun z => hb (by simp [z])) q)) hf (Nat.le_refl _) new
    refine ⟨.ref s.heap.objs.size, _, I1, rfl, ⟨_, x, rfl, I.hok.fresh (Nat.le_refl _), rfl, fun ys hy => by rw [I.tuple_inj hy hq]; exact hx⟩, ⟨⟨x', ?_⟩, hst'.1.at fun o q => (sb.2 it (Ne.symm hne)).trans q, hne, hai, hae⟩, fun b hb => ?_⟩
    · have e1 : ((i + 1 : Nat) : Int) = (i : Int) + 1 := by omega
      rw [e1]; exact he'
    · have hb' : b < s.heap.objs.size := by
        have e' : b = e ∨ b = it := by simpa using hb
        rcases e' with z | z
        · rw [z]; exact hel
        · rw [z]; exact hil
      rw [upd_ne (Nat.ne_of_lt hb')]
      exact (hf b hb).1
  done := by
    intro X hP hw hK hc i pins s σ H E I hf st hg
    subst hP hw hK
    obtain ⟨⟨old, he⟩, hit, hne, hai, hae⟩ := st
    obtain ⟨xs, hq, hx⟩ := hg
    obtain ⟨its, rv, p, hz⟩ := I.tuple hq
    obtain ⟨f0, f1, f2, f3, f4, f5⟩ := hf it (by simp)
    have hl := rv.length
    exact wpAny_pyNext_enum_endD (drained (prog := X.prog) (w := X.w) (A := X.A.in1) (I.ok.hd hc) it a i (by simp; omega)) he ⟨rfl, hit, p⟩ fun h' eb => ⟨rfl, I.turned (t' := s.toks) (fun b o hb q => eb b o hb q) f0 f1 f3 f4 f5⟩
  self := fun A i s Q E st h => let ⟨⟨_, he⟩, _⟩ := st; wpAny_pyIter_enum he h
def iEnumT (K : PySem.W.Frag) (ta : TA) : TI := fun σ H R => ta σ H fun vs H1 => ∃ a xs, vs = [.ref a] ∧ SqT K H1 a xs ∧ R (IteT K a) H1
theorem pi_enumT {X : Cx} {K : PySem.W.Frag} (hK : X.K = K) {e : Expr} {ta : TA} {p pos tpos : Pos} {elts : List Expr} {kk : Nat} (hg : Gl X "enumerate") (hm : X.mg "enumerate" = none) (ha : PA X [e] ta) (hs : starEach [e] X.env = [(false, eval e X.env)] := by rfl) :
    PI X (.Tuple elts kk tpos) (.Call (.Name "enumerate" p) [e] [] pos) (iEnumT K ta) := by
  subst hK
  refine ⟨fun pins s σ H R I h => ?_⟩
  refine Call_ (ld_blt I hg hm boot_enumerate (PyProof.Rows.callWith_type1 (thn (ha.run pos pins s σ H _ I h) fun us s1 ⟨vs, H1, I1, r1, q1⟩ => ?_) hs rfl))
  obtain ⟨a, xs, ex, hq, q⟩ := q1
  subst ex
  cases r1 with
  | cons r rr =>
    cases rr
    cases r
    obtain ⟨its, rv, p', hz⟩ := I1.tuple hq
    have hal : a < s1.heap.objs.size := by obtain ⟨o, q, _⟩ := p'; exact Heap.lt_size q
    refine enum_call1 (begins_tuple a its.toArray) p' fun h' he hit hsz hk => wpAny_pyIter_enum he ?_
    have I2 : Inv X pins σ H1 { s1 with heap := h' } := I1.kept (t' := s1.toks) hk
    refine ⟨s1.heap.objs.size + 1, [s1.heap.objs.size + 1, s1.heap.objs.size], _, _, H1, rfl, I2, turn_enumT a (s1.heap.objs.size + 1) s1.heap.objs.size, ⟨⟨.none, he⟩, ⟨_, hit, rfl, rfl⟩, Nat.succ_ne_self _, Nat.ne_of_lt hal, Nat.ne_of_lt (Nat.lt_succ_of_lt hal)⟩, fun b hb => ?_, q⟩
    have e' : b = s1.heap.objs.size + 1 ∨ b = s1.heap.objs.size := by simpa using hb
    have hle : s1.heap.objs.size ≤ b := by
      rcases e' with z | z
      · rw [z]; exact Nat.le_add_right _ _
      · rw [z]; exact Nat.le_refl _
    exact I1.fpOk hle (I1.hok.fresh hle)
section
variable {α : Type} {C : Cn} {Γ : List Ety}
def enumI (xs : List α) : List (Int × α) := (span 0 xs.length).zip xs
theorem enumI_length (xs : List α) : (enumI xs).length = xs.length := by
  unfold enumI
  rw [List.length_zip, span_length, Nat.min_self]
theorem enumI_get {xs : List α} {i : Nat} {x : α} (h : xs[i]? = some x) : (enumI xs)[i]? = some ((i : Int), x) := by
  obtain ⟨hi, e⟩ := List.getElem?_eq_some_iff.mp h
  unfold enumI
  rw [List.getElem?_zip_eq_some.mpr]
  refine ⟨?_, h⟩
  unfold span
  rw [List.getElem?_map, List.getElem?_range hi]
  show some ((0 : Int) + (i : Int)) = some (i : Int)
  congr 1
  omega
theorem it_enumT {te : TE} {w : Wp (List α)} {e : α → PyData} (h : EvG C Γ te w (fun r => RF C.K (eT e r))) : ItG C Γ (iEnumT C.K (tCons te tNil)) (bnd w fun xs => ret (enumI xs)) (fun r => r.map (e2 eI e)) noOwn := fun P X hw B σ H fp en ex R q => by
  refine h _ X hw B σ H fp en ex _ fun r v H1 hp s hr => ?_
  obtain ⟨a, vs, rfl, hs, hz⟩ := Fz.tup_inv hr
  have hlen := hz.length
  rw [List.length_map] at hlen
  refine ⟨a, vs, rfl, hs, q (enumI r) _ H1 [] hp s ⟨fun a h => absurd h (by simp), fun i H2 st hi => ?_, fun i H2 st hi => ⟨vs, sqT_stay (fun a o e z => st a o e (.inr z)) hs, by rw [List.length_map, enumI_length] at hi; omega⟩⟩ fun a h => absurd h (by simp)⟩
  have stay : Stay H1 H2 := fun a o e z => st a o e (.inr z)
  have hs2 := sqT_stay stay hs
  rw [List.length_map, enumI_length] at hi
  have hi2 : i < vs.length := by omega
  refine ⟨⟨vs, vs[i], hs2, List.getElem?_eq_getElem hi2⟩, fun x H3 hy => ?_⟩
  obtain ⟨T, y, rfl, hT, rfl, hx⟩ := hy
  obtain ⟨d, hd, hf⟩ := (hz.stay stay).getV (hx vs hs2)
  have keep : ∀ a o, H2 a = some o → upd H2 T (.tup [.int (i : Nat), y]) a = some o := fun a o e => by
    rw [upd_ne (ne_of_none e hT)]
    exact e
  rw [List.getElem?_map] at hd
  have hr2 : r[i]? = some r[i] := List.getElem?_eq_getElem hi
  rw [hr2] at hd
  cases hd
  refine ⟨keep, e2 eI e ((i : Int), r[i]), by rw [List.getElem?_map, enumI_get hr2]; rfl, ?_⟩
  exact .tup (.inl (.inl upd_same)) (.cons (.int _) (.one (hf.stay fun a o e _ => keep a o e)))
end
end WL
/-! WL, part 14: lists of lists that are read; `in` for data. -/
namespace WL
open PySem PySem.Spec PyProof.Rows L2
section
variable {α β γ : Type} {C : Cn} {Γ : List Ety} {K : PySem.W.Frag}
/-- lists at addresses -/
inductive LA (K : PySem.W.Frag) (H : Hp) : List Addr → List (List PyData) → Prop
  | nil : LA K H [] []
  | cons {r : Addr} {vs : List V} {ds : List PyData} {rs : List Addr} {dss : List (List PyData)} : H r = some (.lst vs) → FzAll K H vs ds → LA K H rs dss → LA K H (r :: rs) (ds :: dss)
theorem LA.keep {H H' : Hp} : ∀ {rs : List Addr} {dss : List (List PyData)}, LA K H rs dss → (∀ a o, H a = some o → (a ∈ rs ∨ still o = true) → H' a = some o) → LA K H' rs dss
  | _, _, .nil, _ => .nil
  | _, _, .cons h1 h2 h3, k => .cons (k _ _ h1 (.inl List.mem_cons_self)) (h2.stay fun a o e z => k a o e (.inr z)) (h3.keep fun a o e z => k a o e (z.imp (List.mem_cons_of_mem _) id))
theorem LA.snoc {H : Hp} {r : Addr} {vs : List V} {ds : List PyData} (h1 : H r = some (.lst vs)) (h2 : FzAll K H vs ds) : ∀ {rs : List Addr} {dss : List (List PyData)}, LA K H rs dss → LA K H (rs ++ [r]) (dss ++ [ds])
  | _, _, .nil => .cons h1 h2 .nil
  | _, _, .cons a b c => .cons a b (c.snoc h1 h2)
theorem LA.length {H : Hp} : ∀ {rs : List Addr} {dss : List (List PyData)}, LA K H rs dss → rs.length = dss.length
  | _, _, .nil => rfl
  | _, _, .cons _ _ h => congrArg Nat.succ h.length
theorem LA.at {H : Hp} : ∀ {rs : List Addr} {dss : List (List PyData)} {i : Nat} {ds : List PyData}, LA K H rs dss → dss[i]? = some ds → ∃ r vs, rs[i]? = some r ∧ H r = some (.lst vs) ∧ FzAll K H vs ds
  | _, _, 0, _, .cons a b _, e => by cases e; exact ⟨_, _, rfl, a, b⟩
  | _, _, i + 1, _, .cons _ _ c, e => c.at (i := i) e
  | _, _, 0, _, .nil, e => by cases e
  | _, _, _ + 1, _, .nil, e => by cases e
theorem LA.mem {H : Hp} : ∀ {rs : List Addr} {dss : List (List PyData)} {r : Addr}, LA K H rs dss → r ∈ rs → ∃ vs, H r = some (.lst vs)
  | _, _, _, .cons a b c, h => by
    rcases List.mem_cons.mp h with rfl | h
    · exact ⟨_, a⟩
    · exact c.mem h
def ls2 (K : PySem.W.Frag) (dss : List (List PyData)) : Sl where
  own := fun H v fp => ∃ (p : Addr) (rs : List Addr), v = .ref p ∧ fp = p :: rs ∧ (p :: rs).Nodup ∧ H p = some (.lst (rs.map V.ref)) ∧ LA K H rs dss
  ro := false
  dom := fun h ha => by
    obtain ⟨p, rs, _, e, _, hp, hl⟩ := h
    rw [e] at ha
    rcases List.mem_cons.mp ha with rfl | ha
    · exact ⟨_, hp, rfl⟩
    · obtain ⟨vs, hv⟩ := hl.mem ha
      exact ⟨_, hv, rfl⟩
  keep := fun h k => by
    obtain ⟨p, rs, e1, e2, nd, hp, hl⟩ := h
    exact ⟨p, rs, e1, e2, nd, k p _ hp (.inl (by rw [e2]; exact List.mem_cons_self)), hl.keep fun a o e z => k a o e (z.imp (fun m => by rw [e2]; exact List.mem_cons_of_mem _ m) id)⟩
def e2L (e : β → PyData) (r : List (List β)) : List (List PyData) := r.map fun x => x.map e
theorem ev_lcN {wi : TI} {g : TG} {tt : TT} {te : TE} {vs : List Nat} {w : Wp (List α)} {e : α → PyData} {own : Nat → Bool} {c : α → Wp Bool} {f : α → Wp (List β)} {e' : β → PyData} {Γb : α → List Ety} (hi : ItG C Γ wi w (fun r => r.map e) own)
    (hg : ∀ x, TgG C.K (unA Γ vs) g vs (e x) (Γb x)) (ht : ∀ x, EvT C.nox (Γb x) tt (c x)) (hf : ∀ x, EvG C.nox (Γb x) te (f x) (fun r => RN (ls C.K (r.map e')))) :
    EvG C Γ (tLc wi g tt te vs) (bnd w fun xs => lcG c f xs) (fun r => RN (ls2 C.K (e2L e' r))) := fun P X hw B σ H fp en ex Q q => by
  refine hi _ X hw B σ H fp en ex _ fun xs J H1 sup hp s1 ok hsup => ?_
  obtain ⟨hlen, hp⟩ := hp
  intro D hD
  have hD0 : H D = none := s1.back en.tps hD
  have offD : B.off D := s1.ts.new hD
  have hBD : B.H D = none := by
    cases z : B.H D with
    | none => rfl
    | some o =>
      obtain ⟨o', e', _⟩ := (en.step s1).fr D o z
      rw [hD] at e'; cases e'
  have nD : ∀ i, D ∉ fp i := fun i hm => by
    obtain ⟨S, hS⟩ := en.lt hm
    obtain ⟨v, _, ho⟩ := en.sl i S hS
    obtain ⟨o, eo, _⟩ := S.dom ho hm
    rw [hD0] at eo; cases eo
  have nsup : D ∉ sup := fun hm => by
    obtain ⟨_, o, eo⟩ := ok.sp D hm
    rw [hD] at eo; cases eo
  have hRD : ∀ r ∈ B.R, r.1 ≠ D := fun r hr z => rd_new ((en.step s1).rr r hr).1 (by rw [z]; exact hD)
  obtain ⟨fpw, enw, subw⟩ := (en.step s1).wiped vs
  refine ⟨fun i m H2 => m = xs.length - i ∧ i ≤ xs.length ∧ (∀ a o, H1 a = some o → B.off a → H2 a = some o) ∧ TpSt B H2 ∧ En B (unA Γ vs) (wipe σ vs) H2 fpw ∧ ∃ (rs : List Addr) (ys : List (List β)), H2 D = some (.lst (rs.map V.ref)) ∧ rs.length ≤ i ∧ LA C.K H2 rs (e2L e' ys) ∧ rs.Nodup ∧ (∀ r ∈ rs, B.off r ∧ H r = none ∧ r ≠ D) ∧
      lcW c f (xs.drop i) (fun zs => P (ys ++ zs)) (fun _ => False), ⟨xs.length, by omega, Nat.zero_le _, fun a o ea _ => ?_, ?_, ?_, [], [], upd_same, Nat.le_refl _, .nil, .nil, fun r hr => (by cases hr), hp⟩, ?_⟩
  · rw [upd_ne (ne_of_none ea hD)]
    exact ea
  · exact s1.ts.same (upd_keeps hD)
  · exact enw.step (.new s1.ts hD)
  rintro i m H2 ⟨rfl, hi', kp, ts2, en2, rs, ys, hacc, hal, hz, hnd, hrs, hlc⟩
  have kst : ∀ a o, H1 a = some o → (a ∈ sup ∨ still o = true) → H2 a = some o := fun a o ea z => by
    rcases z with z | z
    · exact kp a o ea (ok.sp a z).1
    · exact kp a o ea (s1.ts.notstill ea z)
  by_cases hlt : i < xs.length
  · obtain ⟨go, yld⟩ := ok.go i H2 kst (by rw [List.length_map]; exact hlt)
    refine .inr ⟨go, fun H' => ∃ m', m' < xs.length - i ∧ (m' = xs.length - (i + 1) ∧ i + 1 ≤ xs.length ∧ (∀ a o, H1 a = some o → B.off a → H' a = some o) ∧ TpSt B H' ∧ En B (unA Γ vs) (wipe σ vs) H' fpw ∧ ∃ (rs : List Addr) (ys : List (List β)), H' D = some (.lst (rs.map V.ref)) ∧ rs.length ≤ i + 1 ∧ LA C.K H' rs (e2L e' ys) ∧ rs.Nodup ∧ (∀ r ∈ rs, B.off r ∧ H r = none ∧ r ≠ D) ∧
      lcW c f (xs.drop (i + 1)) (fun zs => P (ys ++ zs)) (fun _ => False)), fun H' h => h, fun x H3 hy => ?_⟩
    obtain ⟨kp3, d, hd, hx⟩ := yld x H3 hy
    have ed : d = e xs[i] := by
      rw [List.getElem?_map, List.getElem?_eq_getElem hlt] at hd
      exact (Option.some.inj hd).symm
    subst ed
    have s3 : Stp B H2 H3 := .same ts2 kp3
    have en3 := en2.step s3
    refine (hg xs[i]).run B (wipe σ vs) H3 fpw x en3 hx _ fun σ4 fp4 en4 hw4 sub4 => ?_
    have hdrop : xs.drop i = xs[i] :: xs.drop (i + 1) := List.drop_eq_getElem_cons hlt
    rw [hdrop] at hlc
    refine ⟨hw4.trans (wipe_idem vs σ), ?_⟩
    refine ht xs[i] _ (fun _ => False) hlc B σ4 H3 fp4 en4 exok_no _ fun b H5 hb s5 => ?_
    have en5 := en4.step s5
    have s25 := s3.trans s5
    have kp5 : ∀ a o, H1 a = some o → B.off a → H5 a = some o := fun a o ea na => s25.kp a o (kp a o ea na) na
    have up : ∀ {H'}, Stp B H2 H' → LA C.K H' rs (e2L e' ys) := fun s => hz.keep fun a o ea z => s.kp a o ea (z.elim (fun m => (hrs a m).1) fun st => ts2.notstill ea st)
    cases b with
    | true =>
      refine iteT ?_
      refine hf xs[i] _ (fun _ => False) hb B σ4 H5 fp4 en5 exok_no _ fun y v H6 hy6 s6 r6 => ?_
      have s26 := s25.trans s6
      have hD5 : H5 D = some (.lst (rs.map V.ref)) := s25.kp D _ hacc offD
      have hD6 : H6 D = some (.lst (rs.map V.ref)) := s26.kp D _ hacc offD
      obtain ⟨fq, ⟨r, ws, rfl, efq, hr, hzr⟩, hfr⟩ := r6
      have hr5 : H5 r = none := hfr r (by rw [efq]; exact List.mem_singleton.mpr rfl)
      have offr : B.off r := s5.ts.new hr5
      have hr1 : H1 r = none := by
        cases z : H1 r with
        | none => rfl
        | some o => rw [kp5 r o z offr] at hr5; cases hr5
      have hrH : H r = none := s1.back en.tps hr1
      have hrD : r ≠ D := fun z => by rw [z, hD5] at hr5; cases hr5
      have enw6 : En B (unA Γ vs) (wipe σ vs) H6 fpw := en2.step s26
      have stE : Stay H6 (upd H6 D (.lst (rs.map V.ref ++ [V.ref r]))) := fun a o ea z => by
        have : a ≠ D := by
          rintro rfl
          rw [hD6] at ea; cases ea; cases z
        rw [upd_ne this]
        exact ea
      have eny := enw6.side (o' := .lst (rs.map V.ref ++ [V.ref r])) hD6 rfl (fun i hm => nD i (subw D i hm)) offD hBD hRD
      refine ⟨rs.map V.ref, hD6, lc_list_room _ (by rw [List.length_map]; omega), xs.length - (i + 1), by omega, rfl, hlt, fun a o ea na => ?_, eny.tps, eny, rs ++ [r], ys ++ [y], ?_, ?_, ?_, ?_, fun r' hr' => ?_, ?_⟩
      · have : a ≠ D := by
          rintro rfl
          rw [hD] at ea; cases ea
        rw [upd_ne this]
        exact s6.kp a o (kp5 a o ea na) na
      · rw [upd_same, List.map_append]
        rfl
      · rw [List.length_append, List.length_singleton]
        omega
      · unfold e2L
        rw [List.map_append]
        refine LA.snoc (by rw [upd_ne hrD]; exact hr) (hzr.stay stE) ((up s26).keep fun a o ea z => ?_)
        rcases z with z | z
        · rw [upd_ne (hrs a z).2.2]
          exact ea
        · exact stE a o ea z
      · rw [List.nodup_append]
        refine ⟨hnd, by simp, fun a ha b hb z => ?_⟩
        rw [List.mem_singleton.mp hb] at z
        have : r ∈ rs := z ▸ ha
        obtain ⟨ws', hw'⟩ := (up s25).mem this
        rw [hr5] at hw'
        cases hw'
      · rcases List.mem_append.mp hr' with h | h
        · exact hrs r' h
        · rw [List.mem_singleton.mp h]
          exact ⟨offr, hrH, hrD⟩
      · have : (fun zs => P (ys ++ [y] ++ zs)) = fun zs => P (ys ++ y :: zs) := by
          funext zs
          rw [List.append_assoc]
          rfl
        rw [this]
        exact hy6
    | false =>
      refine iteF ?_
      exact ⟨xs.length - (i + 1), by omega, rfl, hlt, kp5, s5.ts, en2.step s25, rs, ys, s25.kp D _ hacc offD, by omega, up s25, hnd, hrs, hb⟩
  · have ei : i = xs.length := by omega
    subst ei
    rw [List.drop_length] at hlc
    refine .inl ⟨ok.stop _ H2 kst (by rw [List.length_map]; exact Nat.le_refl _), ?_⟩
    have hP : P (ys ++ []) := hlc
    rw [List.append_nil] at hP
    refine q ys (.ref D) H2 hP ⟨fun a o ea na => kp a o (s1.kp a o ea na) na, ts2⟩ ⟨D :: rs, ⟨D, rs, rfl, rfl, List.nodup_cons.mpr ⟨fun hm => (hrs D hm).2.2 rfl, hnd⟩, hacc, hz⟩, fun a ha => ?_⟩
    rcases List.mem_cons.mp ha with rfl | ha
    · exact hD0
    · exact (hrs a ha).2.1
/-- a list of lists, read by name -/
theorem ev_ix2 {i : Nat} {ti : TE} {e : β → PyData} {wi : Wp Int} (xss : List (List β)) (h : Has Γ i (ls2 C.K (e2L e xss))) (hi : EvG C Γ ti wi (fun r => RF C.K (eI r))) :
    EvG C Γ (tOp (rIxL C.K) (tVar i) ti) (bnd wi fun k => opt (atI xss k)) (fun r => RL C.K (r.map e)) := fun P X hw B σ H fp en ex Q q => by
  obtain ⟨v, fq, hv, ⟨p, rs, rfl, efp, nd, hp, hl⟩, hoff⟩ := en.hold h
  refine ⟨_, hv, hi _ X hw B σ H fp en ex _ fun k y H1 h1 s1 hk => ?_⟩
  have ek := Fz.int_inv (n := k) hk
  subst ek
  obtain ⟨v', fq', hv', ⟨p', rs', rfl, efp', nd', hp', hl'⟩, hoff'⟩ := (en.step s1).hold h
  rw [hv] at hv'
  cases hv'
  obtain ⟨xs, hx, hP⟩ := h1
  unfold atI at hx
  cases e1 : ixN xss.length k with
  | none => rw [e1] at hx; cases hx
  | some j =>
    rw [e1] at hx
    have hx : xss[j]? = some xs := hx
    obtain ⟨r, vs, g1, g2, g3⟩ := hl'.at (i := j) (ds := xs.map e) (by unfold e2L; rw [List.getElem?_map, hx]; rfl)
    have hlen := hl'.length
    unfold e2L at hlen
    rw [List.length_map] at hlen
    refine ⟨p, rs'.map V.ref, k, .ref r, rfl, rfl, .inl (.inl hp'), ?_, q xs (.ref r) H1 hP s1 ⟨r, vs, rfl, .inl ⟨.inl g2, hoff' r (by rw [efp']; exact List.mem_cons_of_mem _ (List.mem_of_getElem? g1))⟩, g3⟩⟩
    unfold atI
    rw [List.length_map, hlen, e1]
    show (rs'.map V.ref)[j]? = _
    rw [List.getElem?_map, g1]
    rfl
theorem ev_len2 {i : Nat} {e : β → PyData} (xss : List (List β)) (h : Has Γ i (ls2 C.K (e2L e xss))) : EvG C Γ (tCB (rLen C.K) (tCons (tVar i) tNil)) (ret (xss.length : Int)) (fun r => RF C.K (eI r)) := fun P X hw B σ H fp en ex Q q => by
  obtain ⟨v, fq, hv, ⟨p, rs, rfl, efp, nd, hp, hl⟩, hoff⟩ := en.hold h
  have hlen := hl.length
  unfold e2L at hlen
  rw [List.length_map] at hlen
  refine ⟨_, hv, p, _, rfl, .inl (.inl (.inl hp)), ?_⟩
  rw [List.length_map, hlen]
  exact q _ _ H hw (.refl en.tps) (.int _)
/-- x in xs, data -/
def inW (e : α → PyData) (x : α) (xs : List α) : Wp Bool := grd (SeqAt.shaped (e x) = true ∧ SeqAt.shaped (.list (xs.map e)) = true) (ret ((xs.map e).any fun z => PyData.eqv z (e x)))
def niW (e : α → PyData) (x : α) (xs : List α) : Wp Bool := grd (SeqAt.shaped (e x) = true ∧ SeqAt.shaped (.list (xs.map e)) = true) (ret (!(xs.map e).any fun z => PyData.eqv z (e x)))
theorem dp_list {H : Hp} {B : Bs} {v : V} {ds : List PyData} (h : RL K ds B H H v) : Dp K H v (.list ds) := by
  obtain ⟨p, vs, rfl, hs, hz⟩ := h
  exact .lst hs.sq hz.dp
theorem o_inD {e : α → PyData} (x : α) (xs : List α) : OpG C (rInD C.K) (RF C.K (e x)) (RL C.K (xs.map e)) (inW e x xs) (fun r => RF C.K (eB r)) := fun P X hw B H0 H a b _ ts _ ha hb Q q =>
  ⟨e x, xs.map e, Fz.dp ha, dp_list (B := B) hb, hw.1.1, hw.1.2, q _ _ H hw.2 (.refl ts) (.bl _)⟩
theorem o_niD {e : α → PyData} (x : α) (xs : List α) : OpG C (rNotInD C.K) (RF C.K (e x)) (RL C.K (xs.map e)) (niW e x xs) (fun r => RF C.K (eB r)) := fun P X hw B H0 H a b _ ts _ ha hb Q q =>
  ⟨e x, xs.map e, Fz.dp ha, dp_list (B := B) hb, hw.1.1, hw.1.2, q _ _ H hw.2 (.refl ts) (.bl _)⟩
theorem units65 {k : Nat} {A : Around} (r : Room k A) : A.units + 65 < cLine := by have := r.un; omega
theorem op_inDK {X : Cx} (h : X.K = K) (hu : X.A.units + 65 < cLine) : OpR X (compareOp .In) (rInD K) := by subst h; exact op_inD hu
theorem op_niDK {X : Cx} (h : X.K = K) (hu : X.A.units + 65 < cLine) : OpR X (compareOp .NotIn) (rNotInD K) := by subst h; exact op_notInD hu
end
end WL
/-! WL, part 15: list(range(n)), tuple(range(n)). -/
namespace WL
open PySem PySem.Spec PyProof.Rows L2
section
variable {C : Cn} {Γ : List Ety}
theorem rg_span (n : Int) : rgV 0 n = (span 0 n.toNat).map V.int := by
  unfold rgV span
  rw [List.map_map, Int.sub_zero]
  rfl
theorem fz_span {K : PySem.W.Frag} {H : Hp} : ∀ ns : List Int, FzAll K H (ns.map V.int) (ns.map eI)
  | [] => .nil
  | n :: ns => .cons (.int n) (fz_span ns)
theorem ev_lrg {ta : TE} {w : Wp Int} (h : EvG C Γ ta w (fun r => RF C.K (eI r))) : EvG C Γ (tLstRg (tRg1 ta)) (bnd w fun n => grd (0 ≤ n ∧ n ≤ 16777216) (ret (span 0 n.toNat))) (fun r => RN (ls C.K (r.map eI))) := fun P X hw B σ H fp en ex Q q =>
  h _ X hw B σ H fp en ex _ fun n v H1 hp s hv => by
    have e := Fz.int_inv (n := n) hv
    subst e
    refine ⟨n, rfl, RgOk.of_le (by decide) hp.1.2 (by decide) hp.1.1, fun l hl => ?_⟩
    have s2 : Stp B H1 (upd H1 l (.lst (rgV 0 n))) := .new s.ts hl
    refine q _ _ _ hp.2 (s.trans s2) ⟨[l], ⟨l, _, rfl, rfl, upd_same, ?_⟩, fun a ha => by rw [List.mem_singleton.mp ha]; exact s.back en.tps hl⟩
    rw [rg_span]
    exact fz_span _
theorem ev_trg {ta : TE} {w : Wp Int} (h : EvG C Γ ta w (fun r => RF C.K (eI r))) : EvG C Γ (tTupRg (tRg1 ta)) (bnd w fun n => grd (0 ≤ n ∧ n ≤ 16777216) (ret (span 0 n.toNat))) (fun r => RF C.K (eT eI r)) := fun P X hw B σ H fp en ex Q q =>
  h _ X hw B σ H fp en ex _ fun n v H1 hp s hv => by
    have e := Fz.int_inv (n := n) hv
    subst e
    refine ⟨n, rfl, RgOk.of_le (by decide) hp.1.2 (by decide) hp.1.1, fun l hl => ?_⟩
    have s2 : Stp B H1 (upd H1 l (.tup (rgV 0 n))) := .new s.ts hl
    refine q _ _ _ hp.2 (s.trans s2) (.tup (.inl (.inl upd_same)) ?_)
    rw [rg_span]
    exact fz_span _
/-- min(a, b), max(a, b) of ints -/
theorem ev_min2 {ta tb : TE} {wa wb : Wp Int} (ha : EvG C Γ ta wa (fun r => RF C.K (eI r))) (hb : EvG C Γ tb wb (fun r => RF C.K (eI r))) : EvG C Γ (tCB (fun xs H Q => ∃ i j, xs = [V.int i, V.int j] ∧ Q (.int (if j < i then j else i)) H) (tCons ta (tCons tb tNil))) (bnd wa fun a => bnd wb fun b => ret (if b < a then b else a)) (fun r => RF C.K (eI r)) := fun P X hw B σ H fp en ex Q q =>
  ha _ X hw B σ H fp en ex _ fun a x H1 h1 s1 hx => hb _ X h1 B σ H1 fp (en.step s1) ex _ fun b y H2 h2 s2 hy => by
    have e1 := Fz.int_inv (n := a) hx
    have e2 := Fz.int_inv (n := b) hy
    subst e1
    subst e2
    exact ⟨a, b, rfl, q _ _ H2 h2 (s1.trans s2) (.int _)⟩
theorem ev_max2 {ta tb : TE} {wa wb : Wp Int} (ha : EvG C Γ ta wa (fun r => RF C.K (eI r))) (hb : EvG C Γ tb wb (fun r => RF C.K (eI r))) : EvG C Γ (tCB (fun xs H Q => ∃ i j, xs = [V.int i, V.int j] ∧ Q (.int (if i < j then j else i)) H) (tCons ta (tCons tb tNil))) (bnd wa fun a => bnd wb fun b => ret (if a < b then b else a)) (fun r => RF C.K (eI r)) := fun P X hw B σ H fp en ex Q q =>
  ha _ X hw B σ H fp en ex _ fun a x H1 h1 s1 hx => hb _ X h1 B σ H1 fp (en.step s1) ex _ fun b y H2 h2 s2 hy => by
    have e1 := Fz.int_inv (n := a) hx
    have e2 := Fz.int_inv (n := b) hy
    subst e1
    subst e2
    exact ⟨a, b, rfl, q _ _ H2 h2 (s1.trans s2) (.int _)⟩
end
end WL
/-! WL, part 16: data of any kind: isinstance, what it is, in, index, is. -/
namespace WL
open PySem PySem.Spec PyProof.Rows L2
section
variable {C : Cn} {Γ : List Ety} {K : PySem.W.Frag} {α β γ F : Type}
/-! ### isinstance -/
def rIsa (K : PySem.W.Frag) (T : String) (f : PyData → Bool) : List V → Hp → VK → Prop := fun xs H Q => ∃ x d, xs = [x, .ty T] ∧ Dp K H x d ∧ Q (.bl (f d)) H
theorem cr_isaTuple {X : Cx} (hK : X.K = K) : CallR X (.builtin "isinstance") (rIsa K "tuple" PyData.isTuple) := by
  subst hK
  intro pins s σ H xs us Q I r h
  obtain ⟨x, d, rfl, hd, q⟩ := h
  obtain ⟨u1, u2, rfl, r1, r2⟩ := vals2 r
  cases (show u2 = Value.type "tuple" from r2)
  obtain ⟨as, hr⟩ := Dp.reads I _ _ _ hd r1
  exact PySem.W.isinstance_tuple_data hr fun tk _ => ⟨.bl _, H, I.tok tk, rfl, q⟩
theorem cr_isaInt {X : Cx} (hK : X.K = K) : CallR X (.builtin "isinstance") (rIsa K "int" PyData.isInt) := by
  subst hK
  intro pins s σ H xs us Q I r h
  obtain ⟨x, d, rfl, hd, q⟩ := h
  obtain ⟨u1, u2, rfl, r1, r2⟩ := vals2 r
  cases (show u2 = Value.type "int" from r2)
  obtain ⟨as, hr⟩ := Dp.reads I _ _ _ hd r1
  exact PySem.W.isinstance_int_data hr fun tk _ => ⟨.bl _, H, I.tok tk, rfl, q⟩
theorem cr_isaBool {X : Cx} (hK : X.K = K) : CallR X (.builtin "isinstance") (rIsa K "bool" PyData.isBool) := by
  subst hK
  intro pins s σ H xs us Q I r h
  obtain ⟨x, d, rfl, hd, q⟩ := h
  obtain ⟨u1, u2, rfl, r1, r2⟩ := vals2 r
  cases (show u2 = Value.type "bool" from r2)
  obtain ⟨as, hr⟩ := Dp.reads I _ _ _ hd r1
  exact PySem.W.isinstance_bool_data hr fun tk _ => ⟨.bl _, H, I.tok tk, rfl, q⟩
theorem cr_isaStr {X : Cx} (hK : X.K = K) : CallR X (.builtin "isinstance") (rIsa K "str" PyData.isStr) := by
  subst hK
  intro pins s σ H xs us Q I r h
  obtain ⟨x, d, rfl, hd, q⟩ := h
  obtain ⟨u1, u2, rfl, r1, r2⟩ := vals2 r
  cases (show u2 = Value.type "str" from r2)
  obtain ⟨as, hr⟩ := Dp.reads I _ _ _ hd r1
  exact PySem.W.isinstance_str_data hr fun tk _ => ⟨.bl _, H, I.tok tk, rfl, q⟩
theorem cr_isaList {X : Cx} (hK : X.K = K) : CallR X (.builtin "isinstance") (rIsa K "list" PyData.isList) := by
  subst hK
  intro pins s σ H xs us Q I r h
  obtain ⟨x, d, rfl, hd, q⟩ := h
  obtain ⟨u1, u2, rfl, r1, r2⟩ := vals2 r
  cases (show u2 = Value.type "list" from r2)
  obtain ⟨as, hr⟩ := Dp.reads I _ _ _ hd r1
  exact PySem.W.isinstance_list_data hr fun tk _ => ⟨.bl _, H, I.tok tk, rfl, q⟩
theorem ev_isa {T : String} {f : PyData → Bool} {te : TE} {w : Wp α} {e : α → PyData} (h : EvG C Γ te w (fun r => RF C.K (e r))) : EvG C Γ (tCB (rIsa C.K T f) (tCons te (tCons (tC (.ty T)) tNil))) (bnd w fun x => ret (f (e x))) (fun r => RF C.K (eB r)) := fun P X hw B σ H fp en ex Q q =>
  h _ X hw B σ H fp en ex _ fun x v H' hp s hv => ⟨v, e x, rfl, Fz.dp hv, q _ _ H' hp s (.bl _)⟩
theorem ev_isaL {T : String} {f : PyData → Bool} {te : TE} {w : Wp (List α)} {e : α → PyData} (h : EvG C Γ te w (fun r => RL C.K (r.map e))) : EvG C Γ (tCB (rIsa C.K T f) (tCons te (tCons (tC (.ty T)) tNil))) (bnd w fun x => ret (f (.list (x.map e)))) (fun r => RF C.K (eB r)) := fun P X hw B σ H fp en ex Q q =>
  h _ X hw B σ H fp en ex _ fun x v H' hp s hv => ⟨v, _, rfl, rl_dp hv, q _ _ H' hp s (.bl _)⟩
/-! ### data as what it is -/
def asI : PyData → Option Int
  | .int i => some i
  | _ => none
def asS : PyData → Option Str
  | .str i => some i
  | _ => none
def asB : PyData → Option Bool
  | .bool i => some i
  | _ => none
def asT : PyData → Option (List PyData)
  | .tuple ds => some ds
  | _ => none
def asP2 : PyData → Option (PyData × PyData)
  | .tuple [a, b] => some (a, b)
  | _ => none
def asP3 : PyData → Option (PyData × PyData × PyData)
  | .tuple [a, b, c] => some (a, b, c)
  | _ => none
def asP4 : PyData → Option (PyData × PyData × PyData × PyData)
  | .tuple [a, b, c, d] => some (a, b, c, d)
  | _ => none
theorem ev_as {t : TE} {w : Wp PyData} {f : PyData → Option α} {e : α → PyData} (h : EvG C Γ t w (fun r => RF C.K (eD r))) (hf : ∀ d a, f d = some a → d = e a) : EvG C Γ t (bnd w fun d => opt (f d)) (fun r => RF C.K (e r)) := fun P X hw B σ H fp en ex Q q =>
  h _ X hw B σ H fp en ex Q fun d v H' ⟨a, ha, hp⟩ s hv => q a v H' hp s (show Fz C.K H' v (e a) by rw [← hf d a ha]; exact hv)
theorem as_I : ∀ d a, asI d = some a → d = eI a := fun d a h => by cases d <;> cases h <;> rfl
theorem as_S : ∀ d a, asS d = some a → d = eS a := fun d a h => by cases d <;> cases h <;> rfl
theorem as_B : ∀ d a, asB d = some a → d = eB a := fun d a h => by cases d <;> cases h <;> rfl
theorem eT_eD (ds : List PyData) : eT eD ds = .tuple ds := by
  unfold eT
  congr 1
  exact List.map_id ds
theorem as_T : ∀ d a, asT d = some a → d = eT eD a := fun d a h => by cases d <;> cases h; exact (eT_eD _).symm
theorem as_P2 : ∀ d a, asP2 d = some a → d = e2 eD eD a := fun d a h => by
  unfold asP2 at h
  split at h <;> cases h
  rfl
theorem as_P3 : ∀ d a, asP3 d = some a → d = e3 eD eD eD a := fun d a h => by
  unfold asP3 at h
  split at h <;> cases h
  rfl
theorem as_P4 : ∀ d a, asP4 d = some a → d = e4 eD eD eD eD a := fun d a h => by
  unfold asP4 at h
  split at h <;> cases h
  rfl
/-! ### in, a tuple of data -/
def rInTD (K : PySem.W.Frag) : R2 := fun x y H Q => ∃ d ds, Dp K H x d ∧ Dp K H y (.tuple ds) ∧ SeqAt.shaped d = true ∧ SeqAt.shaped (.tuple ds) = true ∧ Q (.bl (ds.any fun z => PyData.eqv z d)) H
def rNiTD (K : PySem.W.Frag) : R2 := fun x y H Q => ∃ d ds, Dp K H x d ∧ Dp K H y (.tuple ds) ∧ SeqAt.shaped d = true ∧ SeqAt.shaped (.tuple ds) = true ∧ Q (.bl (!ds.any fun z => PyData.eqv z d)) H
theorem op_inTDK {X : Cx} (hK : X.K = K) (hu : X.A.units + 65 < cLine) : OpR X (compareOp .In) (rInTD K) := by
  subst hK
  intro pins s σ H x y v u Q I rx ry h
  obtain ⟨d, ds, hd, he, sd, se, q⟩ := h
  obtain ⟨as, r1⟩ := Dp.reads I d x v hd rx
  obtain ⟨bs, r2⟩ := Dp.reads I (.tuple ds) y u he ry
  have hc : PyData.canLayAll0 ds = true := by
    have := SeqAt.canLay_of_shaped se
    simpa [PyData.canLay0] using this
  exact SeqAt.in_tuple_reads r2 r1 hc (SeqAt.canLay_of_shaped sd) (room_in_shaped sd hu) ⟨.bl _, H, I, rfl, q⟩
theorem op_niTDK {X : Cx} (hK : X.K = K) (hu : X.A.units + 65 < cLine) : OpR X (compareOp .NotIn) (rNiTD K) := by
  subst hK
  intro pins s σ H x y v u Q I rx ry h
  obtain ⟨d, ds, hd, he, sd, se, q⟩ := h
  obtain ⟨as, r1⟩ := Dp.reads I d x v hd rx
  obtain ⟨bs, r2⟩ := Dp.reads I (.tuple ds) y u he ry
  have hc : PyData.canLayAll0 ds = true := by
    have := SeqAt.canLay_of_shaped se
    simpa [PyData.canLay0] using this
  exact SeqAt.notIn_tuple_reads r2 r1 hc (SeqAt.canLay_of_shaped sd) (room_in_shaped sd hu) ⟨.bl _, H, I, rfl, q⟩
/-- x in t, t a tuple or a list of data -/
def inD (d : PyData) (ds : List PyData) : Wp Bool := grd (SeqAt.shaped d = true ∧ SeqAt.shaped (.tuple ds) = true) (ret (ds.any fun z => PyData.eqv z d))
def niD (d : PyData) (ds : List PyData) : Wp Bool := grd (SeqAt.shaped d = true ∧ SeqAt.shaped (.tuple ds) = true) (ret (!ds.any fun z => PyData.eqv z d))
theorem o_inTD {e : α → PyData} {e' : β → PyData} (x : α) (xs : List β) : OpG C (rInTD C.K) (RF C.K (e x)) (RF C.K (eT e' xs)) (inD (e x) (xs.map e')) (fun r => RF C.K (eB r)) := fun P X hw B H0 H a b _ ts _ ha hb Q q =>
  ⟨e x, xs.map e', Fz.dp ha, Fz.dp hb, hw.1.1, hw.1.2, q _ _ H hw.2 (.refl ts) (.bl _)⟩
theorem o_niTD {e : α → PyData} {e' : β → PyData} (x : α) (xs : List β) : OpG C (rNiTD C.K) (RF C.K (e x)) (RF C.K (eT e' xs)) (niD (e x) (xs.map e')) (fun r => RF C.K (eB r)) := fun P X hw B H0 H a b _ ts _ ha hb Q q =>
  ⟨e x, xs.map e', Fz.dp ha, Fz.dp hb, hw.1.1, hw.1.2, q _ _ H hw.2 (.refl ts) (.bl _)⟩
theorem shaped_lt (ds : List PyData) : SeqAt.shaped (.tuple ds) = SeqAt.shaped (.list ds) := rfl
theorem o_inLD {e : α → PyData} {e' : β → PyData} (x : α) (xs : List β) : OpG C (rInD C.K) (RF C.K (e x)) (RL C.K (xs.map e')) (inD (e x) (xs.map e')) (fun r => RF C.K (eB r)) := fun P X hw B H0 H a b _ ts _ ha hb Q q =>
  ⟨e x, xs.map e', Fz.dp ha, dp_list (B := B) hb, hw.1.1, hw.1.2, q _ _ H hw.2 (.refl ts) (.bl _)⟩
theorem o_niLD {e : α → PyData} {e' : β → PyData} (x : α) (xs : List β) : OpG C (rNotInD C.K) (RF C.K (e x)) (RL C.K (xs.map e')) (niD (e x) (xs.map e')) (fun r => RF C.K (eB r)) := fun P X hw B H0 H a b _ ts _ ha hb Q q =>
  ⟨e x, xs.map e', Fz.dp ha, dp_list (B := B) hb, hw.1.1, hw.1.2, q _ _ H hw.2 (.refl ts) (.bl _)⟩
/-! ### is, of bools -/
theorem o_isB (a b : Bool) : OpG C rIsB (RF C.K (eB a)) (RF C.K (eB b)) (ret (decide (a = b))) (fun r => RF C.K (eB r)) := fun P X hw B H0 H x y _ ts _ hx hy Q q =>
  ⟨a, b, Fz.bl_inv (b := a) hx, Fz.bl_inv (b := b) hy, q _ _ H hw (.refl ts) (.bl _)⟩
theorem o_notB (a b : Bool) : OpG C rNotB (RF C.K (eB a)) (RF C.K (eB b)) (ret (!decide (a = b))) (fun r => RF C.K (eB r)) := fun P X hw B H0 H x y _ ts _ hx hy Q q =>
  ⟨a, b, Fz.bl_inv (b := a) hx, Fz.bl_inv (b := b) hy, q _ _ H hw (.refl ts) (.bl _)⟩
/-- == and != of bools -/
theorem o_eqB (i j : Bool) : OpG C rEq (RF C.K (eB i)) (RF C.K (eB j)) (ret (decide (i = j))) (fun r => RF C.K (eB r)) := fun P X hw B H0 H x y _ ts _ hx hy Q q => by
  have e1 := Fz.bl_inv (b := i) hx
  have e2 := Fz.bl_inv (b := j) hy
  subst e1
  subst e2
  refine ⟨rfl, q _ _ H hw (.refl ts) ?_⟩
  rw [show decide (V.bl i = V.bl j) = decide (i = j) from by
    by_cases e : i = j
    · subst e; simp
    · rw [decide_eq_false e, decide_eq_false (fun z => e (V.bl.inj z))]]
  exact .bl _
theorem o_neB (i j : Bool) : OpG C rNe (RF C.K (eB i)) (RF C.K (eB j)) (ret (!decide (i = j))) (fun r => RF C.K (eB r)) := fun P X hw B H0 H x y _ ts _ hx hy Q q => by
  have e1 := Fz.bl_inv (b := i) hx
  have e2 := Fz.bl_inv (b := j) hy
  subst e1
  subst e2
  refine ⟨rfl, q _ _ H hw (.refl ts) ?_⟩
  rw [show decide (V.bl i = V.bl j) = decide (i = j) from by
    by_cases e : i = j
    · subst e; simp
    · rw [decide_eq_false e, decide_eq_false (fun z => e (V.bl.inj z))]]
  exact .bl _
/-! ### xs.index(x), a list of data -/
def idxW (e : α → PyData) (xs : List α) (x : α) : Wp Int := grd (SeqAt.shaped (.list (xs.map e)) = true ∧ SeqAt.shaped (e x) = true) (bnd (opt (xs.findIdx? fun z => PyData.eqv (e z) (e x))) fun j => ret (j : Int))
theorem ev_indexL {tl te : TE} {e : α → PyData} {wl : Wp (List α)} {w : Wp α} (hl : EvG C Γ tl wl (fun r => RL C.K (r.map e))) (h : EvG C Γ te w (fun r => RF C.K (e r))) :
    EvG C Γ (tBM C.K "list" (rIndexD C.K) tl (tCons te tNil)) (bnd wl fun xs => bnd w fun x => idxW e xs x) (fun r => RF C.K (eI r)) := fun P X hw B σ H fp en ex Q q => by
  refine hl _ X hw B σ H fp en ex _ fun xs v H1 h1 s1 hv => ?_
  obtain ⟨p, vs, rfl, hs, hz⟩ := id hv
  refine ⟨.inl ⟨rfl, vs, hs.sq⟩, h _ X h1 B σ H1 fp (en.step s1) ex _ fun x y H2 h2 s2 hy => ?_⟩
  have hv2 := st_L B H H H1 H2 _ en.tps s1.ts s2 hv fun _ z => z
  obtain ⟨hg, j, hj, hP⟩ := h2
  obtain ⟨hj1, hj2, hj3⟩ := List.findIdx?_eq_some_iff_getElem.mp hj
  refine ⟨p, y, e x, xs.map e, j, e xs[j], rfl, rfl, rl_dp hv2, Fz.dp hy, hg.1, hg.2, ?_, hj2, fun m z' hm hz' => ?_, q _ _ H2 hP (s1.trans s2) (.int _)⟩
  · rw [List.getElem?_map, List.getElem?_eq_getElem hj1]
    rfl
  · rw [List.getElem?_map, List.getElem?_eq_getElem (by omega)] at hz'
    have : e xs[m] = z' := by simpa using hz'
    rw [← this]
    have := hj3 m hm
    simpa using this
/-- xs[::-1] -/
theorem ev_revL {te : TE} {w : Wp (List α)} {e : α → PyData} (h : EvG C Γ te w (fun r => RL C.K (r.map e))) : EvG C Γ (tRevL C.K te) (bnd w fun xs => ret xs.reverse) (fun r => RN (ls C.K (r.map e))) := fun P X hw B σ H fp en ex Q q => by
  refine h _ X hw B σ H fp en ex _ fun xs v H1 h1 s1 hv => ?_
  obtain ⟨a, vs, rfl, hs, hz⟩ := hv
  refine ⟨a, vs, rfl, hs.sq, fun p hp => ?_⟩
  have s2 : Stp B H1 (upd H1 p (.lst vs.reverse)) := .new s1.ts hp
  refine q _ _ _ h1 (s1.trans s2) ⟨[p], ⟨p, _, rfl, rfl, upd_same, ?_⟩, fun b hb => by rw [List.mem_singleton.mp hb]; exact s1.back en.tps hp⟩
  rw [List.map_reverse]
  exact hz.reverse.stay (s2.stay s1.ts)
theorem la_cut {N : Cont F} : Lands N Γ (cut : Wp F) := fun P X B σ H fp hm en => hm.elim
/-! ### xs.pop(i), a list of its own: a statement, or with its value kept -/
def popW (xs : List α) (wi : Wp Int) (k : α → List α → Wp F) : Wp F := bnd wi fun i => grd (-(2 ^ 63) ≤ i ∧ i < 2 ^ 63) (bnd (opt (ixN xs.length i)) fun j => bnd (opt xs[j]?) fun x => k x (xs.eraseIdx j))
end
end WL
/-! WL, part 17: methods with the written part said apart; more of data; pop. -/
namespace WL
open PySem PySem.Spec PyProof.Rows L2
section
variable {X : Cx} {K : PySem.W.Frag} {o e : Expr} {to : TE} {t : TA} {name : Str} {apos cpos : Pos} {id : String} {r : V → List V → Hp → VK → Prop}
theorem pe_bmL (hK : X.K = K) (slot : Slot "list" name id) (hty : typeOf (.builtin id) = pure (.type "method_descriptor")) (hm : MtR X id r) (ho : PE X o to) (ha : PA X [e] t)
    (hbase : attributeBase o name X.env (eval o X.env) = eval o X.env := by rfl)
    (hfew : ((backTo cpos (starEach [e] X.env)).all (fun x => !x.1) && (backToKw cpos (keywordEach [] X.env)).all (fun x => x.1.isSome)
      && decide ([e].length + ([] : List Keyword).length + (if ([] : List Keyword).isEmpty then 0 else 1) < 30)) = true := by rfl)
    (hline : (apos.endLine == cpos.line) = true := by rfl) (hs : starEach [e] X.env = (false, eval e X.env) :: starEach [] X.env := by rfl) (hplain : (backTo cpos (starEach [] X.env)).any (·.1) = false := by rfl) :
    PE X (.Call (.Attribute o name apos) [e] [] cpos) (tBM K "list" r to t) := by
  subst hK
  exact pe_bm PySem.F.plainAttrs_list slot hty hm ho ha hbase hfew hline hs hplain
theorem pe_bmL0 (hK : X.K = K) (slot : Slot "list" name id) (hty : typeOf (.builtin id) = pure (.type "method_descriptor")) (hm : MtR X id r) (ho : PE X o to)
    (hbase : attributeBase o name X.env (eval o X.env) = eval o X.env := by rfl) (hline : (apos.endLine == cpos.line) = true := by rfl) : PE X (.Call (.Attribute o name apos) [] [] cpos) (tBM0 K "list" r to) := by
  subst hK
  exact pe_bm0 PySem.F.plainAttrs_list slot hty hm ho hbase hline
theorem mt_indexDK (hK : X.K = K) (hu : X.A.units + 65 < cLine) : MtR X "list.index" (rIndexD K) := by subst hK; exact mt_indexD hu
theorem pe_revLK (hK : X.K = K) {te : TE} {k : Nat} {p1 p2 p3 pos : Pos} (he : PE X e te) : PE X (.Subscript e (.Slice none none (some (.UnaryOp .USub (.Constant (.int 1) k p1) p2)) p3) pos) (tRevL K te) := by subst hK; exact pe_revL he
end
section
variable {C : Cn} {Γ : List Ety} {K : PySem.W.Frag} {α β γ F : Type}
/-- a row of things alike as a row of data -/
theorem ev_tupD {t : TE} {w : Wp (List α)} {e : α → PyData} (h : EvG C Γ t w (fun r => RF C.K (eT e r))) : EvG C Γ t (mapW (List.map e) w) (fun r => RF C.K (eT eD r)) := h.as (List.map e) fun r => by rw [eT_eD]; rfl
def asAll (f : PyData → Option α) : PyData → Option (List α)
  | .tuple ds => ds.mapM f
  | _ => none
theorem mapM_cast {f : PyData → Option α} {e : α → PyData} (hf : ∀ d a, f d = some a → d = e a) : ∀ (ds : List PyData) (xs : List α), ds.mapM f = some xs → ds = xs.map e
  | [], xs, h => by
    simp at h
    subst h
    rfl
  | d :: ds, xs, h => by
    rw [List.mapM_cons] at h
    cases h1 : f d with
    | none => rw [h1] at h; cases h
    | some a =>
      rw [h1] at h
      cases h2 : ds.mapM f with
      | none => rw [h2] at h; cases h
      | some as =>
        rw [h2] at h
        cases h
        rw [List.map_cons, ← hf d a h1, ← mapM_cast hf ds as h2]
theorem as_all {f : PyData → Option α} {e : α → PyData} (hf : ∀ d a, f d = some a → d = e a) : ∀ d a, asAll f d = some a → d = eT e a := fun d a h => by
  cases d <;> try cases h
  rename_i ds
  unfold eT
  rw [← mapM_cast hf ds a h]
/-- the same for a list of data that is read -/
def asAllL (f : PyData → Option α) (ds : List PyData) : Option (List α) := ds.mapM f
theorem ev_asL {t : TE} {w : Wp (List PyData)} {f : PyData → Option α} {e : α → PyData} (h : EvG C Γ t w (fun r => RL C.K (r.map eD))) (hf : ∀ d a, f d = some a → d = e a) : EvG C Γ t (bnd w fun d => opt (asAllL f d)) (fun r => RL C.K (r.map e)) := fun P X hw B σ H fp en ex Q q =>
  h _ X hw B σ H fp en ex Q fun d v H' ⟨a, ha, hp⟩ s hv => q a v H' hp s (by
    have e1 := mapM_cast hf d a ha
    subst e1
    have e2 : (a.map e).map eD = a.map e := List.map_id _
    rw [e2] at hv
    exact hv)
/-! ### pop -/
theorem map_erase (e : α → β) : ∀ (xs : List α) (a : Nat), (xs.eraseIdx a).map e = (xs.map e).eraseIdx a
  | [], a => by simp
  | x :: xs, 0 => by simp
  | x :: xs, a + 1 => by
    have ih := map_erase e xs a
    simp [ih]
theorem sb_popSet {res : F → Oc} {N Bk Ct : Cont F} {i j : Nat} {ti : TE} {e : α → PyData} {xs : List α} {wi : Wp Int} {k : α → List α → Wp F} (h : Γ[i]? = some (.sl (ls C.K (xs.map e)))) (hi : EvG C Γ ti wi (fun r => RF C.K (eI r))) (hj : j < Γ.length) (hij : j ≠ i)
    (hk : ∀ x ys, Lands N ((Γ.set i (.sl (ls C.K (ys.map e)))).set j (.sl (fz C.K (e x)))) (k x ys)) : SimB C res N Bk Ct (tAsg (tBM C.K "list" rPopAt (tVar i) (tCons ti tNil)) (gName j)) Γ (popW xs wi k) := fun P X hm B D ex f n b c σ H fp en => by
  obtain ⟨p, vs, hv, hf, hp, hz⟩ := en.lst h
  refine ⟨_, hv, .inl ⟨rfl, vs, .inl (.inl hp)⟩, hi _ X hm B σ H fp en ex _ fun z u H1 hp1 s1 hu => ?_⟩
  obtain ⟨hg, a, ha, x, hx, hP⟩ := hp1
  have en1 := en.step s1
  obtain ⟨p', vs', hv', hf', hp', hz'⟩ := en1.lst h
  rw [hv] at hv'
  cases hv'
  have hl := hz'.length
  rw [List.length_map] at hl
  obtain ⟨y, hy, hyz⟩ := hz'.get (i := a) (d := e x) (by rw [List.getElem?_map, hx]; rfl)
  have eu := Fz.int_inv (n := z) hu
  subst eu
  have st : Stay H1 (upd H1 p (.lst (vs'.eraseIdx a))) := fun q o eq z => by
    have : q ≠ p := by
      rintro rfl
      rw [hp'] at eq; cases eq; cases z
    rw [upd_ne this]
    exact eq
  refine ⟨p, vs', z, a, y, rfl, rfl, hp', hg.1, hg.2, by rw [hl]; exact (ixN_seq ha).1, hy, n _ _ (hk x (xs.eraseIdx a) P X B _ _ _ hP (((en1.relist (vs' := vs'.eraseIdx a) (ds' := (xs.eraseIdx a).map e) h hv hf' hp' ?_).putF (by rw [List.length_set]; exact hj) (hyz.stay st))))⟩
  have er : ∀ (vs : List V) (ds : List PyData) (a : Nat), FzAll C.K H1 vs ds → FzAll C.K H1 (vs.eraseIdx a) (ds.eraseIdx a) := fun vs ds a hz => by
    rw [List.eraseIdx_eq_take_drop_succ, List.eraseIdx_eq_take_drop_succ]
    exact (hz.take a).append (hz.drop (a + 1))
  rw [map_erase]
  exact er _ _ _ hz'
theorem fz_erase {H1 : Hp} (vs : List V) (ds : List PyData) (a : Nat) (hz : FzAll K H1 vs ds) : FzAll K H1 (vs.eraseIdx a) (ds.eraseIdx a) := by
  rw [List.eraseIdx_eq_take_drop_succ, List.eraseIdx_eq_take_drop_succ]
  exact (hz.take a).append (hz.drop (a + 1))
/-- ys.append(xs.pop(i)) -/
theorem sb_popApp {res : F → Oc} {N Bk Ct : Cont F} {i j : Nat} {ti : TE} {e : α → PyData} {xs ys : List α} {wi : Wp Int} {k : List α → List α → Wp F} (h : Γ[i]? = some (.sl (ls C.K (xs.map e)))) (h' : Γ[j]? = some (.sl (ls C.K (ys.map e)))) (hij : j ≠ i) (hi : EvG C Γ ti wi (fun r => RF C.K (eI r)))
    (hk : ∀ xs' ys', Lands N ((Γ.set i (.sl (ls C.K (List.map e xs')))).set j (.sl (ls C.K (List.map e ys')))) (k xs' ys')) :
    SimB C res N Bk Ct (tDrop (tBM C.K "list" rAppend (tVar j) (tCons (tBM C.K "list" rPopAt (tVar i) (tCons ti tNil)) tNil))) Γ (popW xs wi fun x xs' => grd (ys.length < 16777216) (k xs' (ys ++ [x]))) := fun P X hm B D ex f n b c σ H fp en => by
  obtain ⟨p, vs, hv, hf, hp, hz⟩ := en.lst h
  obtain ⟨p2, vs2, hv2, hf2, hp2, hz2⟩ := en.lst h'
  refine ⟨_, hv2, .inl ⟨rfl, vs2, .inl (.inl hp2)⟩, _, hv, .inl ⟨rfl, vs, .inl (.inl hp)⟩, hi _ X hm B σ H fp en ex _ fun z u H1 hp1 s1 hu => ?_⟩
  obtain ⟨hg, a, ha, x, hx, hl2, hP⟩ := hp1
  have en1 := en.step s1
  obtain ⟨p', vs', hv', hf', hp', hz'⟩ := en1.lst h
  rw [hv] at hv'
  cases hv'
  have hl := hz'.length
  rw [List.length_map] at hl
  obtain ⟨y, hy, hyz⟩ := hz'.get (i := a) (d := e x) (by rw [List.getElem?_map, hx]; rfl)
  have eu := Fz.int_inv (n := z) hu
  subst eu
  have st : Stay H1 (upd H1 p (.lst (vs'.eraseIdx a))) := fun q o eq z => by
    have : q ≠ p := by
      rintro rfl
      rw [hp'] at eq; cases eq; cases z
    rw [upd_ne this]
    exact eq
  have en2 := en1.relist (vs' := vs'.eraseIdx a) (ds' := (xs.eraseIdx a).map e) h hv hf' hp' (by rw [map_erase]; exact fz_erase _ _ _ hz')
  have h2 : (Γ.set i (.sl (ls C.K ((xs.eraseIdx a).map e))))[j]? = some (.sl (ls C.K (ys.map e))) := by rw [List.getElem?_set_ne (Ne.symm hij)]; exact h'
  obtain ⟨p3, vs3, hv3, hf3, hp3, hz3⟩ := En.lst (C := C) en2 h2
  rw [hv2] at hv3
  cases hv3
  have hl3 := hz3.length
  rw [List.length_map] at hl3
  refine ⟨p, vs', z, a, y, rfl, rfl, hp', hg.1, hg.2, by rw [hl]; exact (ixN_seq ha).1, hy, p2, vs3, y, rfl, rfl, hp3, by rw [hl3]; exact lc_list_room _ hl2, n _ _ (hk _ _ P X B _ _ _ hP (en2.relist h2 hv2 hf3 hp3 ?_))⟩
  rw [List.map_append]
  exact hz3.append (.one (hyz.stay st))
/-- xs.pop(i), what it gives thrown away -/
theorem sb_popDrop {res : F → Oc} {N Bk Ct : Cont F} {i : Nat} {ti : TE} {e : α → PyData} {xs : List α} {wi : Wp Int} {k : α → List α → Wp F} (h : Γ[i]? = some (.sl (ls C.K (xs.map e)))) (hi : EvG C Γ ti wi (fun r => RF C.K (eI r)))
    (hk : ∀ x ys, Lands N (Γ.set i (.sl (ls C.K (List.map e ys)))) (k x ys)) : SimB C res N Bk Ct (tDrop (tBM C.K "list" rPopAt (tVar i) (tCons ti tNil))) Γ (popW xs wi k) := fun P X hm B D ex f n b c σ H fp en => by
  obtain ⟨p, vs, hv, hf, hp, hz⟩ := en.lst h
  refine ⟨_, hv, .inl ⟨rfl, vs, .inl (.inl hp)⟩, hi _ X hm B σ H fp en ex _ fun z u H1 hp1 s1 hu => ?_⟩
  obtain ⟨hg, a, ha, x, hx, hP⟩ := hp1
  have en1 := en.step s1
  obtain ⟨p', vs', hv', hf', hp', hz'⟩ := en1.lst h
  rw [hv] at hv'
  cases hv'
  have hl := hz'.length
  rw [List.length_map] at hl
  obtain ⟨y, hy, hyz⟩ := hz'.get (i := a) (d := e x) (by rw [List.getElem?_map, hx]; rfl)
  have eu := Fz.int_inv (n := z) hu
  subst eu
  exact ⟨p, vs', z, a, y, rfl, rfl, hp', hg.1, hg.2, by rw [hl]; exact (ixN_seq ha).1, hy, n _ _ (hk x (xs.eraseIdx a) P X B _ _ _ hP (en1.relist (vs' := vs'.eraseIdx a) (ds' := (xs.eraseIdx a).map e) h hv hf' hp' (by rw [map_erase]; exact fz_erase _ _ _ hz')))⟩
end
end WL
/-! WL, part 18: more of dicts: len, get, truth, del, a copy, walks, comprehensions. -/
namespace WL
open PySem PySem.Spec PyProof.Rows L2
section
variable {C : Cn} {Γ : List Ety} {K : PySem.W.Frag} {α β γ F : Type}
abbrev rLenD : List V → Hp → VK → Prop := fun xs H Q => ∃ a kvs, xs = [V.ref a] ∧ H a = some (.dK kvs) ∧ Q (.int kvs.length) H
theorem ev_dlen {i : Nat} {e : α → PyData} (kvs : List (Int × α)) (h : Has Γ i (dk C.K (kvs.map (eP e)))) : EvG C Γ (tCB rLenD (tCons (tVar i) tNil)) (ret (kvs.length : Int)) (fun r => RF C.K (eI r)) := fun P X hw B σ H fp en ex Q q => by
  obtain ⟨p, a, hv, hf, hp, hz⟩ := En.dkh (C := C) en h
  have hl := hz.length
  rw [List.length_map] at hl
  refine ⟨_, hv, p, a, rfl, hp, ?_⟩
  rw [hl]
  exact q _ _ H hw (.refl en.tps) (.int _)
theorem ev_dget2 {i : Nat} {ty tx : TE} {e : α → PyData} {wk : Wp Int} {wx : Wp α} (kvs : List (Int × α)) (h : Has Γ i (dk C.K (kvs.map (eP e)))) (hy : EvG C Γ ty wk (fun r => RF C.K (eI r))) (hx : EvG C Γ tx wx (fun r => RF C.K (e r))) :
    EvG C Γ (tDGet2 (tVar i) ty tx) (bnd wk fun k => bnd wx fun x => ret ((valI kvs k).getD x)) (fun r => RF C.K (e r)) := fun P X hw B σ H fp en ex Q q => by
  obtain ⟨p, a, hv, hf, hp, hz⟩ := En.dkh (C := C) en h
  refine ⟨_, hv, p, rfl, .inl ⟨a, .inl hp⟩, hy _ X hw B σ H fp en ex _ fun k y H1 h1 s1 hk => hx _ X h1 B σ H1 fp (en.step s1) ex _ fun x z H2 h2 s2 hz2 => ?_⟩
  have ek := Fz.int_inv (n := k) hk
  subst ek
  obtain ⟨p', a', hv', hf', hp', hz'⟩ := En.dkh (C := C) ((en.step s1).step s2) h
  rw [hv] at hv'
  cases hv'
  refine ⟨_, DGet.k (k := .inl k) hp', q _ _ H2 h2 (s1.trans s2) ?_⟩
  have g := hz'.get k
  rw [valI_map, Option.isSome_map] at g
  cases q1 : valI kvs k with
  | none =>
    rw [q1] at g
    have : valV a' (.inl k) = none := by
      have := g.1
      cases q2 : valV a' (.inl k) with
      | none => rfl
      | some v => rw [q2] at this; cases this
    rw [this]
    exact hz2
  | some d =>
    obtain ⟨v, g1, g2⟩ := g.2 (e d) (by rw [q1]; rfl)
    rw [g1]
    exact g2
/-- the truth of a dict -/
theorem et_truD {i : Nat} {e : α → PyData} (kvs : List (Int × α)) (h : Has Γ i (dk C.K (kvs.map (eP e)))) : EvT C Γ (fun σ H Q => tVar i σ H fun x H' => ∃ k, TruV C.K x H' k ∧ Q k H') (ret (!kvs.isEmpty)) := fun P X hw B σ H fp en ex Q q => by
  obtain ⟨p, a, hv, hf, hp, hz⟩ := En.dkh (C := C) en h
  refine ⟨_, hv, !a.isEmpty, .inr (.inr ⟨a, hp, rfl⟩), ?_⟩
  have : a.isEmpty = kvs.isEmpty := by
    have hl := hz.length
    rw [List.length_map] at hl
    cases a <;> cases kvs <;> simp_all
  rw [this]
  exact q _ _ hw (.refl en.tps)
/-- n ** m, both written -/
theorem ev_powC {n m r : Int} (hn : CPow n m) (hr : n ^ m.toNat = r) : EvG C Γ (tOp (rI CPow fun i j => .int (i ^ j.toNat)) (tC (.int n)) (tC (.int m))) (ret r) (fun r => RF C.K (eI r)) := fun P X hw B σ H fp en ex Q q =>
  ⟨n, m, rfl, rfl, hn, q r _ H hw (.refl en.tps) (show Fz C.K H (.int (n ^ m.toNat)) (.int r) by rw [hr]; exact .int r)⟩
end
end WL
/-! WL, part 19: abs, t * k, xs + ys by name, len(set(xs)); lists of lists that change. -/
namespace WL
open PySem PySem.Spec PyProof.Rows L2
section
variable {C : Cn} {Γ : List Ety} {K : PySem.W.Frag} {α β γ F : Type}
theorem c_abs (i : Int) : CaG C (fun xs H Q => ∃ i, xs = [V.int i] ∧ Q (.int (if i < 0 then -i else i)) H) [RF C.K (eI i)] (ret (if i < 0 then -i else i)) (fun r => RF C.K (eI r)) := fun P X hw B H0 H vs t0 ts hb h Q q => by
  cases h with
  | cons h1 h2 =>
    cases h2
    exact ⟨i, by rw [Fz.int_inv (n := i) h1], q _ _ H hw (.refl ts) (.int _)⟩
theorem op_repTK {X : Cx} (h : X.K = K) : OpR X (binaryOp .Mult) (rRepT K) := by subst h; exact op_repT
theorem o_repT {e : α → PyData} (xs : List α) (k : Int) : OpG C (rRepT C.K) (RF C.K (eT e xs)) (RF C.K (eI k)) (grd (xs ≠ [] ∧ 2 ≤ k ∧ k ≤ 1000 ∧ xs.length ≤ 1000) (ret (repL xs k))) (fun r => RF C.K (eT e r)) := fun P X hw B H0 H x y t0 ts hb hx hy Q q => by
  obtain ⟨a, vs, rfl, hs, hz⟩ := Fz.tup_inv hx
  have e1 := Fz.int_inv (n := k) hy
  subst e1
  have hl := hz.length
  rw [List.length_map] at hl
  refine ⟨a, k, vs, rfl, rfl, hs, fun z => hw.1.1 (List.length_eq_zero_iff.mp (by rw [← hl, z]; rfl)), hw.1.2.1, hw.1.2.2.1, by rw [hl]; exact hw.1.2.2.2, fun p hp => ?_⟩
  have s : Stp B H (upd H p (.tup (List.replicate k.toNat vs).flatten)) := .new ts hp
  have rep : ∀ n : Nat, FzAll C.K H (List.replicate n vs).flatten ((List.replicate n xs).flatten.map e) := fun n => by
    induction n with
    | zero => exact .nil
    | succ n ih =>
      rw [List.replicate_succ, List.replicate_succ, List.flatten_cons, List.flatten_cons, List.map_append]
      exact hz.append ih
  exact q _ _ _ hw.2 s (.tup (.inl (.inl upd_same)) ((rep k.toNat).stay (s.stay ts)))
/-- a list that stands as one: a name's own, or new -/
def RX (K : PySem.W.Frag) (ds : List PyData) : Rk := fun B _ H v => ∃ p vs, v = .ref p ∧ H p = some (.lst vs) ∧ B.off p ∧ FzAll K H vs ds
theorem st_X {ds : List PyData} : StR (RX K ds) := fun B H0 H1 H H' v _ t s ⟨p, vs, e, hs, ho, hz⟩ _ => ⟨p, vs, e, s.kp p _ hs ho, ho, hz.stay (s.stay t)⟩
theorem ev_lX {i : Nat} {e : α → PyData} (xs : List α) (h : Has Γ i (ls C.K (xs.map e))) : EvG C Γ (tVar i) (ret xs) (fun r => RX C.K (r.map e)) := fun P X hw B σ H fp en ex Q q => by
  obtain ⟨v, fq, hv, ⟨p, vs, rfl, e2, hp, hz⟩, hf⟩ := en.hold h
  exact ⟨_, hv, q xs _ H hw (.refl en.tps) ⟨p, vs, rfl, hp, hf p (by rw [e2]; exact List.mem_singleton.mpr rfl), hz⟩⟩
theorem ev_kX {i : Nat} {e : α → PyData} {p : Addr} {vs : List V} (xs : List α) (h : Γ[i]? = some (.sl (lk C.K p vs (xs.map e)))) : EvG C Γ (tVar i) (ret xs) (fun r => RX C.K (r.map e)) := fun P X hw B σ H fp en ex Q q => by
  obtain ⟨v, hv, rfl, e2, hp, hz⟩ := en.sl i _ h
  exact ⟨_, hv, q xs _ H hw (.refl en.tps) ⟨p, vs, rfl, hp, en.nt i p (by rw [e2]; exact List.mem_singleton.mpr rfl), hz⟩⟩
theorem EvG.rx {t : TE} {w : Wp α} {ds : α → List PyData} (h : EvG C Γ t w (fun a => RN (ls C.K (ds a)))) : EvG C Γ t w (fun a => RX C.K (ds a)) := fun P X hw B σ H fp en ex Q q =>
  h P X hw B σ H fp en ex Q fun r v H' hp s ⟨fp', ⟨p, vs, e1, e2, e3, hz⟩, hf⟩ => q r v H' hp s ⟨p, vs, e1, e3, en.tps.new (hf p (by rw [e2]; exact List.mem_singleton.mpr rfl)), hz⟩
theorem o_catX {e : α → PyData} (xs ys : List α) : OpG C rCat (RX C.K (xs.map e)) (RX C.K (ys.map e)) (grd (xs.length + ys.length ≤ 16777216) (ret (xs ++ ys))) (fun r => RN (ls C.K (r.map e))) := fun P X hw B H0 H x y t0 ts hb hx hy Q q => by
  obtain ⟨p, vs, rfl, hp, _, hz⟩ := hx
  obtain ⟨p', vs', rfl, hp', _, hz'⟩ := hy
  have hl := hz.length
  have hl' := hz'.length
  rw [List.length_map] at hl hl'
  refine ⟨p, p', vs, vs', rfl, rfl, hp, hp', by rw [hl, hl']; exact hw.1, fun l hn => ?_⟩
  have s : Stp B H (upd H l (.lst (vs ++ vs'))) := .new ts hn
  refine q _ _ _ hw.2 s ⟨[l], ⟨l, _, rfl, rfl, upd_same, ?_⟩, fun a ha => by rw [List.mem_singleton.mp ha]; exact hb l hn⟩
  rw [List.map_append]
  exact (hz.append hz').stay (s.stay ts)
theorem ev_opXX {r : R2} {ta tb : TE} {wa : Wp α} {wb : Wp β} {ea : α → List PyData} {eb : β → List PyData} {w : α → β → Wp γ} {R : γ → Rk} (ha : EvG C Γ ta wa (fun x => RX C.K (ea x))) (hb : EvG C Γ tb wb (fun x => RX C.K (eb x))) (hr : ∀ a b, OpG C r (RX C.K (ea a)) (RX C.K (eb b)) (w a b) R) :
    EvG C Γ (tOp r ta tb) (bnd wa fun a => bnd wb fun b => w a b) R := ev_op ha (fun _ => hb) hr (fun _ => st_X) (fun _ _ => st_X)
/-! ### len(set(xs)), ints -/
/-- how many different ones -/
def distinct (ns : List Int) : Nat := (PyProof.Rows.firstMet (fun i => ns.getD i 0) ns.length).length
def tLenSetG (K : PySem.W.Frag) (ta : TE) : TE := fun σ H Q => ta σ H fun x H1 => ∃ (l : Addr) (ns : List Int), x = .ref l ∧ SqL K H1 l (ns.map V.int) ∧ ns.length ≤ 4000 ∧ Q (.int (distinct ns : Nat)) H1
theorem pe_lenSetG {X : Cx} {a : Expr} {ta : TE} {p p2 q pos : Pos} (hK : X.K = K) (hg : Gl X "len") (hm : X.mg "len" = none) (hg2 : Gl X "set") (hm2 : X.mg "set" = none) (ha : PE X a ta) (hc : X.calm = true := by rfl)
    (na : starEach [a] X.env = (false, eval a X.env) :: starEach [] X.env := by rfl) : PE X (.Call (.Name "len" p) [.Call (.Name "set" p2) [a] [] q] [] pos) (tLenSetG K ta) := by
  subst hK
  refine ⟨fun pins s σ H Q I h => ?_⟩
  refine Call_ (ld_blt I hg hm boot_len ?_)
  refine PyProof.Rows.callWith_builtin1 (PyProof.Rows.args_cons ?_ rfl) rfl rfl
  refine Call_ (ld_blt I hg2 hm2 boot_set ?_)
  refine PyProof.Rows.callWith_type1 (PyProof.Rows.args_cons (thn (ha.run pins s σ H _ I h) fun v s1 ⟨x, H1, I1, r1, q1⟩ => PyProof.Rows.args_nil ?_) na) na rfl
  obtain ⟨l, ns, rfl, hq, hl, q1⟩ := q1
  cases r1
  obtain ⟨its, r, pl, hz⟩ := I1.list hq
  have hlen : its.toArray.size = ns.length := by rw [List.size_toArray, ← r.length, List.length_map]
  refine call_set_list (I1.ok.hd hc) pl.isList (by simpa using RZ.intsAre_vals r) (by rw [hlen]; unfold scanBound; omega) fun h' tk hS hk => ?_
  refine PyProof.Rows.args_nil ?_
  rw [hlen] at hS
  have hle := PyProof.Rows.firstMet_length_le (fun i => ns.getD i 0) ns.length
  obtain ⟨o, es, ep, t, ho, hex, hd, _, _, _, hf, hn⟩ := hS
  have I2 : Inv X pins σ H1 { s1 with heap := h', toks := tk } := I1.kept fun b o e => hk b o (Heap.lt_size e) e
  exact call_len_set ho hex hd hf (by rw [hn] <;> omega) ⟨.int (distinct ns : Nat), H1, I2.tok _, ⟨_, by rw [hn]; rfl⟩, q1⟩
theorem ev_lenSet {ta : TE} {w : Wp (List Int)} (h : EvG C Γ ta w (fun r => RL C.K (r.map eI))) : EvG C Γ (tLenSetG C.K ta) (bnd w fun xs => grd (xs.length ≤ 4000) (ret (distinct xs : Int))) (fun r => RF C.K (eI r)) := fun P X hw B σ H fp en ex Q q =>
  h _ X hw B σ H fp en ex _ fun xs v H' hp s hv => by
    obtain ⟨p, ws, rfl, hs, hz⟩ := hv
    have e := FzAll.ints (ns := xs) hz
    subst e
    exact ⟨p, xs, rfl, hs.sq, hp.1, q _ _ H' hp.2 s (.int _)⟩
/-! ### lists of lists that change -/
/-- the row at j of one's own list of lists -/
theorem En.row2 {B : Bs} {σ : List (Option V)} {H : Hp} {fp : Nat → List Addr} {i : Nat} {e : β → PyData} {xss : List (List β)} (en : En B Γ σ H fp) (h : Γ[i]? = some (.sl (ls2 C.K (e2L e xss)))) :
    ∃ p rs, σ[i]? = some (some (.ref p)) ∧ fp i = p :: rs ∧ (p :: rs).Nodup ∧ H p = some (.lst (rs.map V.ref)) ∧ LA C.K H rs (e2L e xss) ∧ rs.length = xss.length := by
  obtain ⟨v, hv, p, rs, rfl, e2, nd, hp, hl⟩ := en.sl i _ h
  have hlen := hl.length
  unfold e2L at hlen
  rw [List.length_map] at hlen
  exact ⟨p, rs, hv, e2, nd, hp, hl, hlen⟩
theorem LA.row {H : Hp} {rs : List Addr} {e : β → PyData} {xss : List (List β)} (h : LA K H rs (e2L e xss)) {j : Nat} {row : List β} (hj : xss[j]? = some row) : ∃ r vs, rs[j]? = some r ∧ H r = some (.lst vs) ∧ FzAll K H vs (row.map e) := h.at (i := j) (ds := row.map e) (by unfold e2L; rw [List.getElem?_map, hj]; rfl)
theorem LA.set {H : Hp} {o : HO} {r : Addr} {vs : List V} {ds : List PyData} (ho : o = .lst vs) (hst : Stay H (upd H r o)) : ∀ {rs : List Addr} {dss : List (List PyData)} {j : Nat}, LA K H rs dss → rs.Nodup → rs[j]? = some r → FzAll K (upd H r o) vs ds → LA K (upd H r o) rs (dss.set j ds)
  | _, _, 0, .cons (rs := rs) h1 h2 h3, nd, e, hz => by
    cases e
    refine .cons (by rw [ho]; exact upd_same) hz (h3.keep fun a ob ea z => ?_)
    rcases z with z | z
    · rw [upd_ne (show a ≠ _ from fun q => (List.nodup_cons.mp nd).1 (by rw [← q]; exact z))]
      exact ea
    · exact hst a ob ea z
  | _, _, j + 1, .cons (r := r') (rs := rs) h1 h2 h3, nd, e, hz => by
    have hm : r ∈ rs := List.mem_of_getElem? (show rs[j]? = some r from e)
    refine .cons ?_ (h2.stay hst) (LA.set ho hst h3 (List.nodup_cons.mp nd).2 e hz)
    rw [upd_ne (show r' ≠ r from fun q => (List.nodup_cons.mp nd).1 (by rw [q]; exact hm))]
    exact h1
  | _, _, 0, .nil, _, e, _ => by cases e
  | _, _, _ + 1, .nil, _, e, _ => by cases e
/-- a row's content changes -/
theorem En.rerow {B : Bs} {σ : List (Option V)} {H : Hp} {fp : Nat → List Addr} {i j : Nat} {e : β → PyData} {xss : List (List β)} {row' : List β} {p r : Addr} {rs : List Addr} {vs vs' : List V} (en : En B Γ σ H fp) (h : Γ[i]? = some (.sl (ls2 C.K (e2L e xss)))) (hv : σ[i]? = some (some (.ref p))) (hf : fp i = p :: rs) (nd : (p :: rs).Nodup) (hp : H p = some (.lst (rs.map V.ref))) (hl : LA C.K H rs (e2L e xss))
    (hr : rs[j]? = some r) (hrv : H r = some (.lst vs)) (hz : FzAll C.K H vs' (row'.map e)) : En B (Γ.set i (.sl (ls2 C.K (e2L e (xss.set j row'))))) σ (upd H r (.lst vs')) fp := by
  have hm : r ∈ rs := List.mem_of_getElem? hr
  have hrp : r ≠ p := fun q => (List.nodup_cons.mp nd).1 (q ▸ hm)
  have hst : Stay H (upd H r (.lst vs')) := fun a o ea z => by
    rw [upd_ne (fun q => by rw [q, hrv] at ea; cases ea; cases z)]
    exact ea
  -- as En.mut, but the changed object is a row of the slot's own
  have hS := h
  have hi : i < Γ.length := (List.getElem?_eq_some_iff.mp hS).1
  have hown : (ls2 C.K (e2L e (xss.set j row'))).own (upd H r (.lst vs')) (.ref p) (fp i) := by
    refine ⟨p, rs, rfl, hf, nd, by rw [upd_ne (Ne.symm hrp)]; exact hp, ?_⟩
    have := LA.set (ds := row'.map e) rfl hst hl (List.nodup_cons.mp nd).2 hr (hz.stay hst)
    unfold e2L at this ⊢
    rw [List.map_set]
    exact this
  have hrfp : r ∈ fp i := by rw [hf]; exact List.mem_cons_of_mem _ hm
  have still_ne : ∀ a ob, H a = some ob → still ob = true → a ≠ r := fun a ob ea z q => by
    rw [q, hrv] at ea; cases ea; cases z
  refine ⟨by rw [List.length_set]; exact en.len, fun k T hk => ?_, fun k T hk => ?_, fun k hk => ?_, en.dis, en.nt, fun k a T hk hro ha => ?_, fun k K' ds hk => ?_, fun k T hk => ?_, fun q hq => ?_, fun a o' ea => ?_, fun t ht => ?_⟩
  · by_cases ek : k = i
    · subst ek
      rw [List.getElem?_set_self hi] at hk
      cases hk
      exact ⟨_, hv, hown⟩
    · rw [List.getElem?_set_ne (Ne.symm ek)] at hk
      obtain ⟨u, hu, hT⟩ := en.sl k T hk
      refine ⟨u, hu, T.keep hT fun a ob ea z => ?_⟩
      rw [upd_ne]
      · exact ea
      · rcases z with z | z
        · exact fun q => ek (en.dis k i a z (q ▸ hrfp))
        · exact still_ne a ob ea z
  · by_cases ek : k = i
    · subst ek
      rw [List.getElem?_set_self hi] at hk
      cases hk
    · rw [List.getElem?_set_ne (Ne.symm ek)] at hk
      exact en.tp k T hk
  · by_cases ek : k = i
    · subst ek
      exact absurd (List.getElem?_set_self hi) (hk _)
    · exact en.off k fun S'' z => hk S'' (by rw [List.getElem?_set_ne (Ne.symm ek)]; exact z)
  · by_cases ek : k = i
    · subst ek
      exact en.new k a _ hS rfl ha
    · rw [List.getElem?_set_ne (Ne.symm ek)] at hk
      exact en.new k a T hk hro ha
  · by_cases ek : k = i
    · subst ek
      rw [List.getElem?_set_self hi] at hk
      cases hk
    · rw [List.getElem?_set_ne (Ne.symm ek)] at hk
      obtain ⟨q, us, h1, h2, h3⟩ := en.rd k K' ds hk
      exact ⟨q, us, h1, h2, h3.stay hst⟩
  · by_cases ek : k = i
    · subst ek
      rw [List.getElem?_set_self hi] at hk
      cases hk
    · rw [List.getElem?_set_ne (Ne.symm ek)] at hk
      obtain ⟨u, fq, hu, hT, hR⟩ := en.rb k T hk
      refine ⟨u, fq, hu, T.keep hT fun a ob ea z => ?_, hR⟩
      rw [upd_ne]
      · exact ea
      · rcases z with z | z
        · obtain ⟨o', hm'⟩ := hR a z
          exact fun q => (en.rr _ hm').2.2 i (q ▸ hrfp)
        · exact still_ne a ob ea z
  · obtain ⟨h1, h2, h3⟩ := en.rr q hq
    exact ⟨rd_upd (fun z => h3 i (z ▸ hrfp)) h1, h2, h3⟩
  · obtain ⟨o2, e2, k1, k2⟩ := en.fr a o' ea
    by_cases z : a = r
    · subst z
      refine ⟨_, upd_same, fun n1 _ => ?_, fun z => ?_⟩
      · rcases en.new i a _ hS rfl hrfp with q | q
        · rw [ea] at q; cases q
        · exact absurd q n1
      · have e5 := k2 z
        subst e5
        rw [hrv] at e2
        cases e2
        cases z
    · exact ⟨o2, by rw [upd_ne z]; exact e2, k1, k2⟩
  · have hoff := en.nt i r hrfp t ht
    refine t.1.keep (en.tps t ht) fun a ob ea z => ?_
    rw [upd_ne]
    · exact ea
    · rcases z with z | z
      · exact fun q => hoff (q ▸ z)
      · exact still_ne a ob ea z
theorem atI_map {xs : List α} {f : α → β} {i : Int} {j : Nat} {x : α} (h : ixN xs.length i = some j) (hx : xs[j]? = some x) : atI (xs.map f) i = some (f x) := by
  unfold atI
  rw [List.length_map, h]
  show (xs.map f)[j]? = _
  rw [List.getElem?_map, hx]
  rfl
/-- the row at an index -/
def rowW (xss : List (List β)) (wi : Wp Int) (k : Nat → List β → Wp F) : Wp F := bnd wi fun ix => bnd (opt (ixN xss.length ix)) fun j => bnd (opt xss[j]?) fun row => k j row
def app2W (xss : List (List β)) (wi : Wp Int) (w : Wp β) (k : List (List β) → Wp F) : Wp F := rowW xss wi fun j row => bnd w fun x => grd (row.length < 16777216) (k (xss.set j (row ++ [x])))
theorem sb_append2 {res : F → Oc} {N Bk Ct : Cont F} {i : Nat} {ti te : TE} {e : β → PyData} {xss : List (List β)} {wi : Wp Int} {w : Wp β} {k : List (List β) → Wp F} (h : Γ[i]? = some (.sl (ls2 C.K (e2L e xss)))) (hi : EvG C Γ ti wi (fun r => RF C.K (eI r))) (he : EvG C Γ te w (fun r => RF C.K (e r)))
    (hk : ∀ ys, Lands N (Γ.set i (.sl (ls2 C.K (e2L e ys)))) (k ys)) : SimB C res N Bk Ct (tDrop (tBM C.K "list" rAppend (tOp (rIxL C.K) (tVar i) ti) (tCons te tNil))) Γ (app2W xss wi w k) := fun P X hm B D ex f n b c σ H fp en => by
  obtain ⟨p, rs, hv, hf, nd, hp, hl, hlen⟩ := En.row2 (C := C) en h
  refine ⟨_, hv, hi _ X hm B σ H fp en ex _ fun ix y H1 h1 s1 hix => ?_⟩
  have ei := Fz.int_inv (n := ix) hix
  subst ei
  obtain ⟨j, hj, row, hrow, h1⟩ := h1
  have en1 := en.step s1
  obtain ⟨p', rs', hv', hf', nd', hp', hl', hlen'⟩ := En.row2 (C := C) en1 h
  rw [hv] at hv'
  cases hv'
  obtain ⟨r, vs, g1, g2, g3⟩ := hl'.row hrow
  refine ⟨p, rs'.map V.ref, ix, .ref r, rfl, rfl, .inl (.inl hp'), atI_map (by rw [hlen']; exact hj) g1, .inl ⟨rfl, vs, .inl (.inl g2)⟩, he _ X h1 B σ H1 fp en1 ex _ fun x v H2 h2 s2 hx => ?_⟩
  have en2 := en1.step s2
  obtain ⟨p2, rs2, hv2, hf2, nd2, hp2, hl2, hlen2⟩ := En.row2 (C := C) en2 h
  rw [hv] at hv2
  cases hv2
  rw [hf'] at hf2
  cases hf2
  obtain ⟨r2, vs2, k1, k2, k3⟩ := hl2.row hrow
  rw [g1] at k1
  cases k1
  have hll := k3.length
  rw [List.length_map] at hll
  refine ⟨r, vs2, v, rfl, rfl, k2, by rw [hll]; exact lc_list_room _ h2.1, n _ _ (hk _ P X B σ _ fp h2.2 (en2.rerow h hv hf' nd2 hp2 hl2 g1 k2 ?_))⟩
  rw [List.map_append]
  exact k3.append (.one hx)
def pop2W (xss : List (List β)) (wi wz : Wp Int) (k : β → List (List β) → Wp F) : Wp F := rowW xss wi fun j row => bnd wz fun z => grd (-(2 ^ 63) ≤ z ∧ z < 2 ^ 63) (bnd (opt (ixN row.length z)) fun a => bnd (opt row[a]?) fun x => k x (xss.set j (row.eraseIdx a)))
/-- what a pop of a row does -/
theorem pop2_core {i : Nat} {ti tz : TE} {e : β → PyData} {xss : List (List β)} {wi wz : Wp Int} {k : β → List (List β) → Wp F} (h : Γ[i]? = some (.sl (ls2 C.K (e2L e xss)))) (hi : EvG C Γ ti wi (fun r => RF C.K (eI r))) (hz : EvG C Γ tz wz (fun r => RF C.K (eI r)))
    {P : F → Prop} {X : Xn → Prop} (hm : pop2W xss wi wz k P X) {B : Bs} {σ : List (Option V)} {H : Hp} {fp : Nat → List Addr} (en : En B Γ σ H fp) (ex : Exok C B X) {Q : VK}
    (q : ∀ x y ys H', k x ys P X → En B (Γ.set i (.sl (ls2 C.K (e2L e ys)))) σ H' fp → Fz C.K H' y (e x) → Q y H') : tBM C.K "list" rPopAt (tOp (rIxL C.K) (tVar i) ti) (tCons tz tNil) σ H Q := by
  obtain ⟨p, rs, hv, hf, nd, hp, hl, hlen⟩ := En.row2 (C := C) en h
  refine ⟨_, hv, hi _ X hm B σ H fp en ex _ fun ix y H1 h1 s1 hix => ?_⟩
  have ei := Fz.int_inv (n := ix) hix
  subst ei
  obtain ⟨j, hj, row, hrow, h1⟩ := h1
  have en1 := en.step s1
  obtain ⟨p', rs', hv', hf', nd', hp', hl', hlen'⟩ := En.row2 (C := C) en1 h
  rw [hv] at hv'
  cases hv'
  obtain ⟨r, vs, g1, g2, g3⟩ := hl'.row hrow
  refine ⟨p, rs'.map V.ref, ix, .ref r, rfl, rfl, .inl (.inl hp'), atI_map (by rw [hlen']; exact hj) g1, .inl ⟨rfl, vs, .inl (.inl g2)⟩, hz _ X h1 B σ H1 fp en1 ex _ fun z v H2 h2 s2 hx => ?_⟩
  have ez := Fz.int_inv (n := z) hx
  subst ez
  obtain ⟨hg, a, ha, x, hx2, h2⟩ := h2
  have en2 := en1.step s2
  obtain ⟨p2, rs2, hv2, hf2, nd2, hp2, hl2, hlen2⟩ := En.row2 (C := C) en2 h
  rw [hv] at hv2
  cases hv2
  rw [hf'] at hf2
  cases hf2
  obtain ⟨r2, vs2, k1, k2, k3⟩ := hl2.row hrow
  rw [g1] at k1
  cases k1
  have hll := k3.length
  rw [List.length_map] at hll
  obtain ⟨y, hy, hyz⟩ := k3.get (i := a) (d := e x) (by rw [List.getElem?_map, hx2]; rfl)
  have st : Stay H2 (upd H2 r (.lst (vs2.eraseIdx a))) := fun q o eq z => by
    rw [upd_ne (fun w => by rw [w, k2] at eq; cases eq; cases z)]
    exact eq
  refine ⟨r, vs2, z, a, y, rfl, rfl, k2, hg.1, hg.2, by rw [hll]; exact (ixN_seq ha).1, hy, q x y _ _ h2 (en2.rerow h hv hf' nd2 hp2 hl2 g1 k2 ?_) (hyz.stay st)⟩
  rw [map_erase]
  exact fz_erase _ _ _ k3
theorem sb_pop2Drop {res : F → Oc} {N Bk Ct : Cont F} {i : Nat} {ti tz : TE} {e : β → PyData} {xss : List (List β)} {wi wz : Wp Int} {k : β → List (List β) → Wp F} (h : Γ[i]? = some (.sl (ls2 C.K (e2L e xss)))) (hi : EvG C Γ ti wi (fun r => RF C.K (eI r))) (hz : EvG C Γ tz wz (fun r => RF C.K (eI r)))
    (hk : ∀ x ys, Lands N (Γ.set i (.sl (ls2 C.K (e2L e ys)))) (k x ys)) : SimB C res N Bk Ct (tDrop (tBM C.K "list" rPopAt (tOp (rIxL C.K) (tVar i) ti) (tCons tz tNil))) Γ (pop2W xss wi wz k) := fun P X hm B D ex f n b c σ H fp en =>
  pop2_core h hi hz hm en ex fun x y ys H' hP en' _ => n _ _ (hk x ys P X B σ H' fp hP en')
theorem sb_pop2Set {res : F → Oc} {N Bk Ct : Cont F} {i j : Nat} {ti tz : TE} {e : β → PyData} {xss : List (List β)} {wi wz : Wp Int} {k : β → List (List β) → Wp F} (h : Γ[i]? = some (.sl (ls2 C.K (e2L e xss)))) (hi : EvG C Γ ti wi (fun r => RF C.K (eI r))) (hz : EvG C Γ tz wz (fun r => RF C.K (eI r))) (hj : j < Γ.length)
    (hk : ∀ x ys, Lands N ((Γ.set i (.sl (ls2 C.K (e2L e ys)))).set j (.sl (fz C.K (e x)))) (k x ys)) : SimB C res N Bk Ct (tAsg (tBM C.K "list" rPopAt (tOp (rIxL C.K) (tVar i) ti) (tCons tz tNil)) (gName j)) Γ (pop2W xss wi wz k) := fun P X hm B D ex f n b c σ H fp en =>
  pop2_core h hi hz hm en ex fun x y ys H' hP en' hy => n _ _ (hk x ys P X B _ H' _ hP (en'.putF (by rw [List.length_set]; exact hj) hy))
/-- xs[a].append(xs[b].pop(c)) -/
def mv2W (xss : List (List β)) (wa wb wz : Wp Int) (k : List (List β) → Wp F) : Wp F := rowW xss wa fun j _ => pop2W xss wb wz fun x ys => bnd (opt ys[j]?) fun row => grd (row.length < 16777216) (k (ys.set j (row ++ [x])))
theorem sb_mv2 {res : F → Oc} {N Bk Ct : Cont F} {i : Nat} {ta tb tz : TE} {e : β → PyData} {xss : List (List β)} {wa wb wz : Wp Int} {k : List (List β) → Wp F} (h : Γ[i]? = some (.sl (ls2 C.K (e2L e xss)))) (ha : EvG C Γ ta wa (fun r => RF C.K (eI r))) (hb : EvG C Γ tb wb (fun r => RF C.K (eI r))) (hz : EvG C Γ tz wz (fun r => RF C.K (eI r)))
    (hk : ∀ ys, Lands N (Γ.set i (.sl (ls2 C.K (e2L e ys)))) (k ys)) : SimB C res N Bk Ct (tDrop (tBM C.K "list" rAppend (tOp (rIxL C.K) (tVar i) ta) (tCons (tBM C.K "list" rPopAt (tOp (rIxL C.K) (tVar i) tb) (tCons tz tNil)) tNil))) Γ (mv2W xss wa wb wz k) := fun P X hm B D ex f n b c σ H fp en => by
  obtain ⟨p, rs, hv, hf, nd, hp, hl, hlen⟩ := En.row2 (C := C) en h
  refine ⟨_, hv, ha _ X hm B σ H fp en ex _ fun ix y H1 h1 s1 hix => ?_⟩
  have ei := Fz.int_inv (n := ix) hix
  subst ei
  obtain ⟨j, hj, row, hrow, h1⟩ := h1
  have en1 := en.step s1
  obtain ⟨p', rs', hv', hf', nd', hp', hl', hlen'⟩ := En.row2 (C := C) en1 h
  rw [hv] at hv'
  cases hv'
  obtain ⟨r, vs, g1, g2, g3⟩ := hl'.row hrow
  refine ⟨p, rs'.map V.ref, ix, .ref r, rfl, rfl, .inl (.inl hp'), atI_map (by rw [hlen']; exact hj) g1, .inl ⟨rfl, vs, .inl (.inl g2)⟩, pop2_core h hb hz h1 en1 ex fun x y ys H2 h2 en2 hy => ?_⟩
  obtain ⟨row2, hrow2, h2⟩ := h2
  have hS2 : (Γ.set i (.sl (ls2 C.K (e2L e ys))))[i]? = some (.sl (ls2 C.K (e2L e ys))) := List.getElem?_set_self (List.getElem?_eq_some_iff.mp h).1
  obtain ⟨p2, rs2, hv2, hf2, nd2, hp2, hl2, hlen2⟩ := En.row2 (C := C) en2 hS2
  rw [hv] at hv2
  cases hv2
  rw [hf'] at hf2
  cases hf2
  obtain ⟨r2, vs2, k1, k2, k3⟩ := hl2.row hrow2
  rw [g1] at k1
  cases k1
  have hll := k3.length
  rw [List.length_map] at hll
  have en3 := en2.rerow hS2 hv hf' nd2 hp2 hl2 g1 k2 (row' := row2 ++ [x]) (vs' := vs2 ++ [y]) (by rw [List.map_append]; exact k3.append (.one hy))
  rw [List.set_set] at en3
  exact ⟨r, vs2, y, rfl, rfl, k2, by rw [hll]; exact lc_list_room _ h2.1, n _ _ (hk _ P X B σ _ fp h2.2 en3)⟩
/-- xs[u][d] = e -/
def set2W (xss : List (List β)) (w : Wp β) (wu wd : Wp Int) (k : List (List β) → Wp F) : Wp F := bnd w fun x => rowW xss wu fun j row => bnd wd fun d => bnd (opt (ixN row.length d)) fun jj => k (xss.set j (row.set jj x))
theorem sb_set2 {res : F → Oc} {N Bk Ct : Cont F} {i : Nat} {te tu td : TE} {e : β → PyData} {xss : List (List β)} {w : Wp β} {wu wd : Wp Int} {k : List (List β) → Wp F} (h : Γ[i]? = some (.sl (ls2 C.K (e2L e xss)))) (he : EvG C Γ te w (fun r => RF C.K (e r))) (hu : EvG C Γ tu wu (fun r => RF C.K (eI r))) (hd : EvG C Γ td wd (fun r => RF C.K (eI r)))
    (hk : ∀ ys, Lands N (Γ.set i (.sl (ls2 C.K (e2L e ys)))) (k ys)) : SimB C res N Bk Ct (tAsg te (gSub (tOp (rIxL C.K) (tVar i) tu) td rSetL)) Γ (set2W xss w wu wd k) := fun P X hm B D ex f n b c σ H fp en => by
  refine he _ X hm B σ H fp en ex _ fun x v H0 h0 s0 hx => ?_
  have en0 := en.step s0
  obtain ⟨p, rs, hv, hf, nd, hp, hl, hlen⟩ := En.row2 (C := C) en0 h
  refine ⟨_, hv, hu _ X h0 B σ H0 fp en0 ex _ fun ix y H1 h1 s1 hix => ?_⟩
  have ei := Fz.int_inv (n := ix) hix
  subst ei
  obtain ⟨j, hj, row, hrow, h1⟩ := h1
  have en1 := en0.step s1
  obtain ⟨p', rs', hv', hf', nd', hp', hl', hlen'⟩ := En.row2 (C := C) en1 h
  rw [hv] at hv'
  cases hv'
  obtain ⟨r, vs, g1, g2, g3⟩ := hl'.row hrow
  refine ⟨p, rs'.map V.ref, ix, .ref r, rfl, rfl, .inl (.inl hp'), atI_map (by rw [hlen']; exact hj) g1, hd _ X h1 B σ H1 fp en1 ex _ fun d u H2 h2 s2 hd' => ?_⟩
  obtain ⟨jj, hjj, h2⟩ := h2
  have en2 := en1.step s2
  obtain ⟨p2, rs2, hv2, hf2, nd2, hp2, hl2, hlen2⟩ := En.row2 (C := C) en2 h
  rw [hv] at hv2
  cases hv2
  rw [hf'] at hf2
  cases hf2
  obtain ⟨r2, vs2, k1, k2, k3⟩ := hl2.row hrow
  rw [g1] at k1
  cases k1
  have hll := k3.length
  rw [List.length_map] at hll
  refine ⟨r, vs2, d, jj, rfl, Fz.int_inv hd', k2, by rw [hll]; exact hjj, n _ _ (hk _ P X B σ _ fp h2 (en2.rerow h hv hf' nd2 hp2 hl2 g1 k2 ?_))⟩
  rw [List.map_set]
  exact k3.set jj (Fz.stay ((s1.trans s2).stay s0.ts) hx)
end
end WL
/-! WL, part 20: things that stand for a while; lists of lists walked. -/
namespace WL
open PySem PySem.Spec PyProof.Rows L2
section
variable {C : Cn} {Γ : List Ety} {K : PySem.W.Frag} {α β γ F : Type}
abbrev Bs.more (B : Bs) (R : List (Addr × HO)) : Bs := { B with R := R ++ B.R }
theorem En.addR {B : Bs} {σ : List (Option V)} {H : Hp} {fp : Nat → List Addr} (en : En B Γ σ H fp) (X : List (Addr × HO)) (hX : ∀ r ∈ X, Rd H r.1 r.2 ∧ B.off r.1 ∧ ∀ i, r.1 ∉ fp i) : En (B.more X) Γ σ H fp where
  len := en.len
  sl := en.sl
  tp := en.tp
  off := en.off
  dis := en.dis
  nt := en.nt
  new := en.new
  rd := fun i K' ds h => by
    obtain ⟨p, vs, h1, h2, h3⟩ := en.rd i K' ds h
    exact ⟨p, vs, h1.imp (fun z => List.mem_append_right _ z) id, h2, h3⟩
  rb := fun i S h => by
    obtain ⟨v, fq, h1, h2, h3⟩ := en.rb i S h
    exact ⟨v, fq, h1, h2, fun a ha => (h3 a ha).imp fun o ho => List.mem_append_right _ ho⟩
  rr := fun r hr => by
    rcases List.mem_append.mp hr with hr | hr
    · exact hX r hr
    · exact en.rr r hr
  fr := en.fr
  tps := en.tps
theorem En.unRb {B : Bs} {σ : List (Option V)} {H : Hp} {fp : Nat → List Addr} {i : Nat} {S : Sl} {v : V} {fq : List Addr} (en : En B Γ σ H fp) (hu : Γ[i]? = some .un) (hv : σ[i]? = some (some v)) (ho : S.own H v fq) (hq : ∀ a ∈ fq, ∃ o, (a, o) ∈ B.R) : En B (Γ.set i (.rb S)) σ H fp := by
  have hi : i < Γ.length := (List.getElem?_eq_some_iff.mp hu).1
  have get : ∀ (k : Nat) (t : Ety), (Γ.set i (.rb S))[k]? = some t → (k = i ∧ t = .rb S) ∨ (k ≠ i ∧ Γ[k]? = some t) := fun k t h => by
    by_cases e : k = i
    · subst e
      rw [List.getElem?_set_self hi] at h
      cases h
      exact .inl ⟨rfl, rfl⟩
    · rw [List.getElem?_set_ne (Ne.symm e)] at h
      exact .inr ⟨e, h⟩
  refine ⟨by rw [List.length_set]; exact en.len, fun k T h => ?_, fun k T h => ?_, fun k h => ?_, en.dis, en.nt, fun k a T h => ?_, fun k K' ds h => ?_, fun k T h => ?_, en.rr, en.fr, en.tps⟩
  · rcases get k _ h with ⟨_, h⟩ | ⟨_, h⟩
    · cases h
    · exact en.sl k T h
  · rcases get k _ h with ⟨_, h⟩ | ⟨_, h⟩
    · cases h
    · exact en.tp k T h
  · refine en.off k fun T hT => ?_
    by_cases e : k = i
    · rw [e, hu] at hT; cases hT
    · exact h T (by rw [List.getElem?_set_ne (Ne.symm e)]; exact hT)
  · rcases get k _ h with ⟨_, h⟩ | ⟨_, h⟩
    · cases h
    · exact en.new k a T h
  · rcases get k _ h with ⟨_, h⟩ | ⟨_, h⟩
    · cases h
    · exact en.rd k K' ds h
  · rcases get k _ h with ⟨e, h⟩ | ⟨_, h⟩
    · cases h
      exact ⟨v, fq, by rw [e]; exact hv, ho, hq⟩
    · exact en.rb k T h
theorem En.putRb {B : Bs} {σ : List (Option V)} {H : Hp} {fp : Nat → List Addr} {i : Nat} {S : Sl} {v : V} {fq : List Addr} (en : En B Γ σ H fp) (hi : i < Γ.length) (ho : S.own H v fq) (hq : ∀ a ∈ fq, ∃ o, (a, o) ∈ B.R) : En B (Γ.set i (.rb S)) (σ.set i (some v)) H (WL.put fp i []) := by
  have h := (en.drop i (some v)).unRb (i := i) (S := S) (List.getElem?_set_self hi) (List.getElem?_set_self (by rw [en.len]; exact hi)) ho hq
  rw [List.set_set] at h
  exact h
/-- what a name owns is set fast for a while -/
theorem ev_freeze {i : Nat} {S : Sl} {t : TE} {w : Wp α} {R : α → Rk} (h : Γ[i]? = some (.sl S)) (ht : EvG C (Γ.set i (.rb S)) t w R) (hR : ∀ r B Y H0 H v, R r (Bs.more B Y) H0 H v → R r B H0 H v) : EvG C Γ t w R := fun P X hw B σ H fp en ex Q q => by
  obtain ⟨v, hv, ho⟩ := en.sl i S h
  have en1 := (en.forget i).addR ((fp i).map fun a => (a, (H a).getD (.tup []))) fun r hr => by
    obtain ⟨a, ha, rfl⟩ := List.mem_map.mp hr
    obtain ⟨o, e, _⟩ := S.dom ho ha
    refine ⟨.inl ?_, en.nt i a ha, fun k hk => ?_⟩
    · show H a = some ((H a).getD (.tup []))
      rw [e]
      rfl
    · by_cases z : k = i
      · subst z
        rw [put_same] at hk; cases hk
      · rw [put_ne z] at hk
        exact z (en.dis k i a hk ha)
  have hi : i < Γ.length := (List.getElem?_eq_some_iff.mp h).1
  have en2 := en1.unRb (i := i) (S := S) (v := v) (fq := fp i) (List.getElem?_set_self hi) hv ho fun a ha => ⟨_, List.mem_append_left _ (List.mem_map.mpr ⟨a, ha, rfl⟩)⟩
  rw [List.set_set] at en2
  exact ht P X hw _ σ H _ en2 (fun x v d H' a b c => ex x v d H' a b c) Q fun r v H' hp s hr => q r v H' hp ⟨s.kp, s.ts⟩ (hR r _ _ _ _ _ hr)
/-- S is a list of things of the kinds Ss -/
def Nest (S : Sl) (Ss : List Sl) : Prop := ∀ (H : Hp) (v : V) (fq : List Addr), S.own H v fq → ∃ p vs, v = .ref p ∧ p ∈ fq ∧ H p = some (.lst vs) ∧ vs.length = Ss.length ∧ ∀ (j : Nat) (T : Sl), Ss[j]? = some T → ∃ x fx, vs[j]? = some x ∧ T.own H x fx ∧ ∀ a ∈ fx, a ∈ fq
theorem nest2 {e : β → PyData} (xss : List (List β)) : Nest (ls2 K (e2L e xss)) (xss.map fun x => ls K (x.map e)) := fun H v fq ⟨p, rs, e1, efq, nd, hp, hl⟩ => by
  have hll := hl.length
  unfold e2L at hll
  rw [List.length_map] at hll
  refine ⟨p, rs.map V.ref, e1, by rw [efq]; simp, hp, by rw [List.length_map, List.length_map, hll], fun j T hT => ?_⟩
  rw [List.getElem?_map] at hT
  cases hx : xss[j]? with
  | none => rw [hx] at hT; cases hT
  | some row =>
    rw [hx] at hT
    cases hT
    obtain ⟨r, vs, g1, g2, g3⟩ := hl.row hx
    exact ⟨.ref r, [r], by rw [List.getElem?_map, g1]; rfl, ⟨r, vs, rfl, rfl, g2, g3⟩, fun a ha => by rw [List.mem_singleton.mp ha, efq]; exact List.mem_cons_of_mem _ (List.mem_of_getElem? g1)⟩
/-- [.. for row in rows], rows lists of lists that stand -/
theorem ev_lcNest {i j : Nat} {tt : TT} {te : TE} {S : Sl} {Sf : α → Sl} (xss : List α) {c : α → Wp Bool} {f : α → Wp γ} {e' : γ → PyData} (h : Γ[i]? = some (.rb S)) (hN : Nest S (xss.map Sf)) (hj : j < Γ.length) (hij : i ≠ j)
    (ht : ∀ x, EvT C.nox ((Γ.set j .un).set j (.rb (Sf x))) tt (c x)) (hf : ∀ x, EvG C.nox ((Γ.set j .un).set j (.rb (Sf x))) te (f x) (fun r => RF C.K (e' r))) :
    EvG C Γ (tLc (iList C.K (tVar i)) (gName j) tt te [j]) (bnd (ret xss) fun xs => lcG c f xs) (fun r => RN (ls C.K (r.map e'))) := fun P X hw B σ H fp en ex Q q => by
  obtain ⟨hlen, hp⟩ := hw
  obtain ⟨v, fq, hv, hown, hq⟩ := en.rb i _ h
  obtain ⟨p, vs0, rfl, hpq, hpp, hll, hat⟩ := hN _ _ _ hown
  rw [List.length_map] at hll
  refine ⟨_, hv, p, rfl, ⟨_, .inl (.inl hpp)⟩, ?_⟩
  have inR : ∀ a ∈ fq, B.off a ∧ (∀ k, a ∉ fp k) ∧ ∃ o, H a = some o ∧ still o = false ∧ (a, o) ∈ B.R := fun a ha => by
    obtain ⟨o, hm⟩ := hq a ha
    obtain ⟨h1, h2, h3⟩ := en.rr _ hm
    obtain ⟨o', e1, e2⟩ := S.dom hown ha
    rcases h1 with h1 | ⟨o2, h1⟩
    · have h1 : H a = some o := h1
      rw [e1] at h1
      have := Option.some.inj h1
      subst this
      exact ⟨h2, h3, o', e1, e2, hm⟩
    · have h1 : H a = some (.frz o2 o) := h1
      rw [e1] at h1
      cases h1
      cases e2
  intro D hD
  have offD : B.off D := en.tps.new hD
  have hBD : B.H D = none := by
    cases z : B.H D with
    | none => rfl
    | some o =>
      obtain ⟨o', e', _⟩ := en.fr D o z
      rw [hD] at e'; cases e'
  have nD : ∀ k, D ∉ fp k := fun k hm => by
    obtain ⟨S, hS⟩ := en.lt hm
    obtain ⟨v, _, ho⟩ := en.sl k S hS
    obtain ⟨o, eo, _⟩ := S.dom ho hm
    rw [hD] at eo; cases eo
  have hRD : ∀ r ∈ B.R, r.1 ≠ D := fun r hr z => rd_new (en.rr r hr).1 (by rw [z]; exact hD)
  obtain ⟨fpw, enw, subw⟩ := en.wiped [j]
  refine ⟨fun a m H2 => m = xss.length - a ∧ a ≤ xss.length ∧ (∀ a o, H a = some o → B.off a → H2 a = some o) ∧ TpSt B H2 ∧ En B (unA Γ [j]) (wipe σ [j]) H2 fpw ∧ ∃ (acc : List V) (ys : List γ), H2 D = some (.lst acc) ∧ acc.length ≤ a ∧ FzAll C.K H2 acc (ys.map e') ∧
      lcW c f (xss.drop a) (fun zs => P (ys ++ zs)) (fun _ => False), ⟨xss.length, by omega, Nat.zero_le _, fun a o ea _ => ?_, ?_, ?_, [], [], upd_same, Nat.le_refl _, .nil, hp⟩, ?_⟩
  · rw [upd_ne (ne_of_none ea hD)]
    exact ea
  · exact en.tps.same (upd_keeps hD)
  · exact enw.step (.new en.tps hD)
  rintro a m H2 ⟨rfl, ha', kp, ts2, en2, acc, ys, hacc, hal, hz, hlc⟩
  have hp2 : H2 p = some (.lst vs0) := kp p _ hpp (inR p hpq).1
  by_cases hlt : a < xss.length
  · have hra : a < vs0.length := by omega
    refine .inr ⟨⟨vs0, vs0[a], .inl (.inl hp2), List.getElem?_eq_getElem hra⟩, fun H' => ∃ m', m' < xss.length - a ∧ (m' = xss.length - (a + 1) ∧ a + 1 ≤ xss.length ∧ (∀ a o, H a = some o → B.off a → H' a = some o) ∧ TpSt B H' ∧ En B (unA Γ [j]) (wipe σ [j]) H' fpw ∧ ∃ (acc : List V) (ys : List γ), H' D = some (.lst acc) ∧ acc.length ≤ a + 1 ∧ FzAll C.K H' acc (ys.map e') ∧
      lcW c f (xss.drop (a + 1)) (fun zs => P (ys ++ zs)) (fun _ => False)), fun H' h => h, fun x H3 hy => ?_⟩
    obtain ⟨rfl, hx⟩ := hy
    have hx := hx _ (.inl (.inl hp2))
    obtain ⟨x', fx, g1, g2, g3⟩ := hat a (Sf xss[a]) (by rw [List.getElem?_map, List.getElem?_eq_getElem hlt]; rfl)
    rw [hx] at g1
    cases g1
    have own3 : (Sf xss[a]).own H3 x fx := (Sf xss[a]).keep g2 fun b o eb z => by
      rcases z with z | z
      · exact kp b o eb (inR b (g3 b z)).1
      · exact kp b o eb (en.tps.notstill eb z)
    have en4 := en2.putRb (i := j) (S := Sf xss[a]) (by show j < ((unA Γ []).set j .un).length; rw [List.length_set]; exact hj) own3 fun b hb => by
      obtain ⟨_, _, ob, _, _, o5⟩ := inR b (g3 b hb)
      exact ⟨ob, o5⟩
    have hdrop : xss.drop a = xss[a] :: xss.drop (a + 1) := List.drop_eq_getElem_cons hlt
    rw [hdrop] at hlc
    refine ⟨?_, ?_⟩
    · show wipe ((wipe σ [j]).set j _) [j] = _
      rw [wipe1]
      exact wipe_idem [j] σ
    have nD4 : ∀ k, D ∉ put fpw j [] k := fun k hm => by
      by_cases z : k = j
      · subst z
        rw [put_same] at hm; cases hm
      · rw [put_ne z] at hm
        exact nD k (subw D k hm)
    refine ht xss[a] _ (fun _ => False) hlc B _ H3 _ en4 exok_no _ fun b H5 hb s5 => ?_
    have en5 := en4.step s5
    have kp5 : ∀ a o, H a = some o → B.off a → H5 a = some o := fun a o ea na => s5.kp a o (kp a o ea na) na
    cases b with
    | true =>
      refine iteT ?_
      refine hf xss[a] _ (fun _ => False) hb B _ H5 _ en5 exok_no _ fun y v H6 hy6 s6 r6 => ?_
      have s36 := s5.trans s6
      have hD6 : H6 D = some (.lst acc) := s36.kp D _ hacc offD
      have hz6 := hz.stay (s36.stay ts2)
      have enw6 : En B (unA Γ [j]) (wipe σ [j]) H6 fpw := en2.step s36
      have stE : Stay H6 (upd H6 D (.lst (acc ++ [v]))) := fun a o ea z => by
        have : a ≠ D := by
          rintro rfl
          rw [hD6] at ea; cases ea; cases z
        rw [upd_ne this]
        exact ea
      have eny := enw6.side (o' := .lst (acc ++ [v])) hD6 rfl (fun i hm => nD i (subw D i hm)) offD hBD hRD
      refine ⟨acc, hD6, lc_list_room _ (by omega), xss.length - (a + 1), by omega, rfl, hlt, fun b o ea na => ?_, eny.tps, eny, acc ++ [v], ys ++ [y], upd_same, ?_, ?_, ?_⟩
      · have : b ≠ D := by
          rintro rfl
          rw [hD] at ea; cases ea
        rw [upd_ne this]
        exact s6.kp b o (kp5 b o ea na) na
      · rw [List.length_append, List.length_singleton]
        omega
      · rw [List.map_append]
        exact (hz6.stay stE).append (.one (Fz.stay stE r6))
      · have : (fun zs => P (ys ++ [y] ++ zs)) = fun zs => P (ys ++ y :: zs) := by
          funext zs
          rw [List.append_assoc]
          rfl
        rw [this]
        exact hy6
    | false =>
      refine iteF ?_
      exact ⟨xss.length - (a + 1), by omega, rfl, hlt, kp5, s5.ts, en2.step s5, acc, ys, s5.kp D _ hacc offD, by omega, hz.stay (s5.stay ts2), hb⟩
  · have ei : a = xss.length := by omega
    subst ei
    rw [List.drop_length] at hlc
    refine .inl ⟨⟨vs0, .inl (.inl hp2), by omega⟩, ?_⟩
    have hP : P (ys ++ []) := hlc
    rw [List.append_nil] at hP
    refine q ys (.ref D) H2 hP ⟨fun a o ea na => kp a o ea na, ts2⟩ ⟨[D], ⟨D, acc, rfl, rfl, hacc, hz⟩, fun a ha => ?_⟩
    rw [List.mem_singleton.mp ha]
    exact hD
/-- a borrowed list, read -/
theorem ev_b {i : Nat} {e : α → PyData} (xs : List α) (h : Γ[i]? = some (.rb (ls C.K (xs.map e)))) : EvG C Γ (tVar i) (ret xs) (fun r => RL C.K (r.map e)) := fun P X hw B σ H fp en ex Q q => by
  obtain ⟨v, fq, hv, ⟨p, vs, rfl, e2, hp, hz⟩, hf⟩ := en.hold (.inr h)
  exact ⟨_, hv, q xs _ H hw (.refl en.tps) ⟨p, vs, rfl, .inl ⟨.inl hp, hf p (by rw [e2]; exact List.mem_singleton.mpr rfl)⟩, hz⟩⟩
/-- .. walked -/
theorem it_b {i : Nat} {e : α → PyData} (xs : List α) (h : Γ[i]? = some (.rb (ls C.K (xs.map e)))) : ItG C Γ (iList C.K (tVar i)) (ret xs) (fun r => r.map e) noOwn := fun P X hw B σ H fp en ex R q => by
  obtain ⟨v, fq, hv, ⟨p, vs, rfl, e2, hp, hz⟩, hq⟩ := en.rb i _ h
  obtain ⟨o, hm⟩ := hq p (by rw [e2]; exact List.mem_singleton.mpr rfl)
  have hoff := (en.rr _ hm).2.1
  have hlen := hz.length
  refine ⟨_, hv, p, rfl, ⟨vs, .inl (.inl hp)⟩, q xs _ H [p] hw (.refl en.tps) ⟨fun a h => ?_, fun i H2 st hi => ?_, fun i H2 st hi => ⟨vs, .inl (.inl (st p _ hp (.inl (by simp)))), le_beta hlen hi⟩⟩ fun a h => ?_⟩
  · rw [List.mem_singleton.mp h]
    exact ⟨hoff, _, hp⟩
  · have stay : Stay H H2 := fun a o e z => st a o e (.inr z)
    have hs2 : SqL C.K H2 p vs := .inl (.inl (st p _ hp (.inl (by simp))))
    have hi2 : i < vs.length := lt_beta hlen hi
    refine ⟨⟨vs, vs[i], hs2, List.getElem?_eq_getElem hi2⟩, fun x H3 hy => ?_⟩
    obtain ⟨rfl, hx⟩ := hy
    obtain ⟨d, hd, hf⟩ := (hz.stay stay).getV (hx vs hs2)
    exact ⟨fun _ _ e => e, d, hd, hf⟩
  · rw [List.mem_singleton.mp h]
    exact .inr (.inr ⟨_, hm, rfl⟩)
end
end WL
/-! WL, part 21: lists of lists of lists; things that move into others, into a call. -/
namespace WL
open PySem PySem.Spec PyProof.Rows L2
section
variable {C : Cn} {Γ : List Ety} {K : PySem.W.Frag} {α β γ ι F : Type}
/-- an object that nobody of the names owns is changed (it may be one that may change) -/
theorem En.side2 {B : Bs} {σ : List (Option V)} {H : Hp} {fp : Nat → List Addr} (en : En B Γ σ H fp) {D : Addr} {o o' : HO} (hD : H D = some o) (ho : still o = false) (hn : ∀ i, D ∉ fp i) (ht : B.off D) (hb : B.H D = none ∨ D ∈ B.O) (hR : ∀ r ∈ B.R, r.1 ≠ D) : En B Γ σ (upd H D o') fp where
  len := en.len
  sl := fun i S hS => by
    obtain ⟨v, hv, h⟩ := en.sl i S hS
    refine ⟨v, hv, S.keep h fun a ob e z => ?_⟩
    have : a ≠ D := by
      rintro rfl
      rcases z with z | z
      · exact hn i z
      · rw [hD] at e
        cases e
        rw [ho] at z; cases z
    rw [upd_ne this]
    exact e
  tp := en.tp
  off := en.off
  dis := en.dis
  nt := en.nt
  new := en.new
  rd := fun j K' ds hj => by
    obtain ⟨r, us, h1, h2, h3⟩ := en.rd j K' ds hj
    refine ⟨r, us, h1, h2, h3.stay fun a ob ea z => ?_⟩
    have : a ≠ D := by
      rintro rfl
      rw [hD] at ea
      cases ea
      rw [ho] at z; cases z
    rw [upd_ne this]
    exact ea
  rb := fun j T hj => by
    obtain ⟨u, fq, hu, hT, hq⟩ := en.rb j T hj
    refine ⟨u, fq, hu, T.keep hT fun a ob ea z => ?_, hq⟩
    have : a ≠ D := by
      rintro rfl
      rcases z with z | z
      · obtain ⟨o', hm⟩ := hq a z
        exact hR _ hm rfl
      · rw [hD] at ea
        cases ea
        rw [ho] at z; cases z
    rw [upd_ne this]
    exact ea
  rr := fun r hr => by
    obtain ⟨h1, h2, h3⟩ := en.rr r hr
    exact ⟨rd_upd (hR r hr) h1, h2, h3⟩
  fr := fun a ob e => by
    obtain ⟨o2, e2, k1, k2⟩ := en.fr a ob e
    by_cases z : a = D
    · subst z
      refine ⟨_, upd_same, fun n1 _ => ?_, fun z => ?_⟩
      · rcases hb with q | q
        · rw [e] at q; cases q
        · exact absurd q n1
      · have e5 := k2 z
        subst e5
        rw [hD] at e2
        cases e2
        rw [ho] at z; cases z
    · exact ⟨o2, by rw [upd_ne z]; exact e2, k1, k2⟩
  tps := fun t h => by
    refine t.1.keep (en.tps t h) fun a ob ea z => ?_
    have : a ≠ D := by
      rintro rfl
      rcases z with z | z
      · exact ht t h z
      · rw [hD] at ea
        cases ea
        rw [ho] at z; cases z
    rw [upd_ne this]
    exact ea
/-- a name's thing changes at p, and owns other objects then -/
theorem En.regrow {B : Bs} {σ : List (Option V)} {H : Hp} {fp : Nat → List Addr} {i : Nat} {S S' : Sl} {v : V} {p : Addr} {o o0 : HO} {q : List Addr} (en : En B Γ σ H fp) (hS : Γ[i]? = some (.sl S)) (ro : S.ro = false) (hv : σ[i]? = some (some v)) (hp : p ∈ fp i) (hpo : H p = some o0) (h0 : still o0 = false) (hown : S'.own (upd H p o) v q)
    (hd : ∀ a ∈ q, ∀ k, a ∈ fp k → k = i) (ht : ∀ a ∈ q, B.off a) (hn : ∀ a ∈ q, B.H a = none ∨ a ∈ B.O) (hR : ∀ r ∈ B.R, r.1 ∉ q) : En B (Γ.set i (.sl S')) σ (upd H p o) (WL.put fp i q) := by
  have hi : i < Γ.length := (List.getElem?_eq_some_iff.mp hS).1
  have en1 := en.forget i
  have en2 := en1.side2 (D := p) (o' := o) hpo h0 (fun k hk => by
    by_cases z : k = i
    · subst z
      rw [put_same] at hk; cases hk
    · rw [put_ne z] at hk
      exact z (en.dis k i p hk hp)) (en.nt i p hp) (en.new i p S hS ro hp) fun r hr z => (en.rr r hr).2.2 i (by rw [z]; exact hp)
  have en3 := en2.put (i := i) (S := S') (v := v) (q := q) (by rw [List.length_set]; exact hi) hown (fun a ha k hk => by
    by_cases z : k = i
    · exact z
    · rw [put_ne z] at hk
      exact hd a ha k hk) ht (fun _ => hn) hR
  rw [List.set_set, set_id σ i _ hv] at en3
  have e : WL.put (WL.put fp i []) i q = WL.put fp i q := by
    funext k
    by_cases z : k = i
    · subst z
      rw [put_same, put_same]
    · rw [put_ne z, put_ne z, put_ne z]
  rw [e] at en3
  exact en3
/-- [] of lists -/
theorem ev_new2 {e : β → PyData} : EvG C Γ (tLst tNil) (ret ([] : List (List β))) (fun r => RN (ls2 C.K (e2L e r))) := fun P X hw B σ H fp en ex Q q =>
  ⟨Nat.zero_le _, fun p hp => q [] (.ref p) _ hw (.new en.tps hp) ⟨[p], ⟨p, [], rfl, rfl, by simp, upd_same, .nil⟩, fun a ha => by rw [List.mem_singleton.mp ha]; exact hp⟩⟩
/-- xss.append(a new list) -/
theorem sb_appN {res : F → Oc} {N Bk Ct : Cont F} {i : Nat} {te : TE} {e : β → PyData} {xss : List (List β)} {w : Wp (List β)} {k : List (List β) → Wp F} (h : Γ[i]? = some (.sl (ls2 C.K (e2L e xss)))) (he : EvG C Γ te w (fun r => RN (ls C.K (r.map e))))
    (hk : ∀ ys, Lands N (Γ.set i (.sl (ls2 C.K (e2L e ys)))) (k ys)) : SimB C res N Bk Ct (tDrop (tBM C.K "list" rAppend (tVar i) (tCons te tNil))) Γ (appW xss w k) := fun P X hm B D ex f n b c σ H fp en => by
  obtain ⟨p, rs, hv, hf, nd, hp, hl, hlen⟩ := En.row2 (C := C) en h
  refine ⟨_, hv, .inl ⟨rfl, _, .inl (.inl hp)⟩, he _ X hm B σ H fp en ex _ fun x v H1 hpx s1 hx => ?_⟩
  have en1 := en.step s1
  obtain ⟨p', rs', hv', hf', nd', hp', hl', hlen'⟩ := En.row2 (C := C) en1 h
  rw [hv] at hv'
  cases hv'
  rw [hf] at hf'
  cases hf'
  obtain ⟨fq, ⟨r, vs, rfl, efq, hr, hz⟩, hfr⟩ := hx
  have hrn : H r = none := hfr r (by rw [efq]; exact List.mem_singleton.mpr rfl)
  have old : ∀ a ∈ fp i, ∃ o, H a = some o := fun a ha => by
    obtain ⟨u, _, ho⟩ := en.sl i _ h
    obtain ⟨o, e, _⟩ := (ls2 C.K (e2L e xss)).dom ho ha
    exact ⟨o, e⟩
  have hrf : r ∉ p :: rs := fun hm => by
    obtain ⟨o, e⟩ := old r (by rw [hf]; exact hm)
    rw [hrn] at e; cases e
  have hrp : r ≠ p := fun z => hrf (by rw [z]; exact List.mem_cons_self)
  have st : Stay H1 (upd H1 p (.lst (rs.map V.ref ++ [V.ref r]))) := fun a o ea z => by
    rw [upd_ne (fun q => by rw [q, hp'] at ea; cases ea; cases z)]
    exact ea
  have hown : (ls2 C.K (e2L e (xss ++ [x]))).own (upd H1 p (.lst (rs.map V.ref ++ [V.ref r]))) (.ref p) (p :: (rs ++ [r])) := by
    refine ⟨p, rs ++ [r], rfl, rfl, ?_, ?_, ?_⟩
    · rw [← List.cons_append, List.nodup_append]
      refine ⟨nd, by simp, fun a ha b hb z => hrf ?_⟩
      rw [List.mem_singleton.mp hb] at z
      exact z ▸ ha
    · rw [upd_same, List.map_append]
      rfl
    · unfold e2L
      rw [List.map_append]
      refine LA.snoc (by rw [upd_ne hrp]; exact hr) (hz.stay st) (hl'.keep fun a o ea z => ?_)
      rcases z with z | z
      · rw [upd_ne (show a ≠ p from fun q => (List.nodup_cons.mp nd).1 (by rw [← q]; exact z))]
        exact ea
      · exact st a o ea z
  have inq : ∀ a ∈ p :: (rs ++ [r]), a ∈ fp i ∨ a = r := fun a ha => by
    rw [← List.cons_append] at ha
    rcases List.mem_append.mp ha with ha | ha
    · exact .inl (by rw [hf]; exact ha)
    · exact .inr (List.mem_singleton.mp ha)
  have rnot : ∀ k, r ∉ fp k := fun k hk => by
    obtain ⟨T, hT⟩ := en.lt hk
    obtain ⟨u, _, ho⟩ := en.sl k T hT
    obtain ⟨o, e, _⟩ := T.dom ho hk
    rw [hrn] at e; cases e
  refine ⟨p, rs.map V.ref, .ref r, rfl, rfl, hp', by rw [List.length_map, hlen]; exact lc_list_room _ hpx.1, n _ _ (hk _ P X B σ _ _ hpx.2 (en1.regrow h rfl hv (by rw [hf]; exact List.mem_cons_self) hp' rfl hown (fun a ha k hk => ?_) (fun a ha => ?_) (fun a ha => ?_) fun z hz hzq => ?_))⟩
  · rcases inq a ha with z | z
    · exact en.dis k i a hk z
    · exact absurd hk (by rw [z]; exact rnot k)
  · rcases inq a ha with z | z
    · exact en.nt i a z
    · rw [z]; exact en.tps.new hrn
  · rcases inq a ha with z | z
    · exact en.new i a _ h rfl z
    · left
      rw [z]
      cases q : B.H r with
      | none => rfl
      | some o =>
        obtain ⟨o', e', _⟩ := en.fr r o q
        rw [hrn] at e'; cases e'
  · rcases inq _ hzq with q | q
    · exact (en.rr z hz).2.2 i q
    · exact rd_new (en.rr z hz).1 (by rw [q]; exact hrn)
/-! ### lists of lists of lists -/
inductive LB (K : PySem.W.Frag) (H : Hp) : List (Addr × List Addr) → List (List (List PyData)) → Prop
  | nil : LB K H [] []
  | cons {r : Addr} {rs : List Addr} {dss : List (List PyData)} {zs : List (Addr × List Addr)} {dsss : List (List (List PyData))} : H r = some (.lst (rs.map V.ref)) → LA K H rs dss → LB K H zs dsss → LB K H ((r, rs) :: zs) (dss :: dsss)
def flatZ (zs : List (Addr × List Addr)) : List Addr := zs.flatMap fun z => z.1 :: z.2
theorem LB.keep {H H' : Hp} : ∀ {zs : List (Addr × List Addr)} {ds : List (List (List PyData))}, LB K H zs ds → (∀ a o, H a = some o → (a ∈ flatZ zs ∨ still o = true) → H' a = some o) → LB K H' zs ds
  | _, _, .nil, _ => .nil
  | _, _, .cons (r := r) (rs := rs) (zs := zs) h1 h2 h3, k => by
    have hin : ∀ a, a ∈ r :: rs ∨ a ∈ flatZ zs → a ∈ flatZ ((r, rs) :: zs) := fun a ha => by
      unfold flatZ
      rw [List.flatMap_cons, List.mem_append]
      exact ha
    exact .cons (k _ _ h1 (.inl (hin _ (.inl List.mem_cons_self)))) (h2.keep fun a o e z => k a o e (z.imp (fun m => hin _ (.inl (List.mem_cons_of_mem _ m))) id)) (h3.keep fun a o e z => k a o e (z.imp (fun m => hin _ (.inr m)) id))
theorem LB.dom {H : Hp} : ∀ {zs : List (Addr × List Addr)} {ds : List (List (List PyData))} {a : Addr}, LB K H zs ds → a ∈ flatZ zs → ∃ vs, H a = some (.lst vs)
  | _, _, a, .cons (r := r) (rs := rs) (zs := zs) h1 h2 h3, h => by
    unfold flatZ at h
    rw [List.flatMap_cons, List.mem_append] at h
    rcases h with h | h
    · rcases List.mem_cons.mp h with rfl | h
      · exact ⟨_, h1⟩
      · exact h2.mem h
    · exact h3.dom h
theorem LB.snoc {H : Hp} {r : Addr} {rs : List Addr} {dss : List (List PyData)} (h1 : H r = some (.lst (rs.map V.ref))) (h2 : LA K H rs dss) : ∀ {zs : List (Addr × List Addr)} {ds : List (List (List PyData))}, LB K H zs ds → LB K H (zs ++ [(r, rs)]) (ds ++ [dss])
  | _, _, .nil => .cons h1 h2 .nil
  | _, _, .cons a b c => .cons a b (c.snoc h1 h2)
theorem LB.length {H : Hp} : ∀ {zs : List (Addr × List Addr)} {ds : List (List (List PyData))}, LB K H zs ds → zs.length = ds.length
  | _, _, .nil => rfl
  | _, _, .cons _ _ h => congrArg Nat.succ h.length
theorem LB.at {H : Hp} : ∀ {zs : List (Addr × List Addr)} {ds : List (List (List PyData))} {i : Nat} {dss : List (List PyData)}, LB K H zs ds → ds[i]? = some dss → ∃ r rs, zs[i]? = some (r, rs) ∧ H r = some (.lst (rs.map V.ref)) ∧ LA K H rs dss
  | _, _, 0, _, .cons a b _, e => by cases e; exact ⟨_, _, rfl, a, b⟩
  | _, _, i + 1, _, .cons _ _ c, e => c.at (i := i) e
  | _, _, 0, _, .nil, e => by cases e
  | _, _, _ + 1, _, .nil, e => by cases e
def ls3 (K : PySem.W.Frag) (ds : List (List (List PyData))) : Sl where
  own := fun H v fp => ∃ (p : Addr) (zs : List (Addr × List Addr)), v = .ref p ∧ fp = p :: flatZ zs ∧ (p :: flatZ zs).Nodup ∧ H p = some (.lst (zs.map fun z => V.ref z.1)) ∧ LB K H zs ds
  ro := false
  dom := fun h ha => by
    obtain ⟨p, zs, _, e, _, hp, hl⟩ := h
    rw [e] at ha
    rcases List.mem_cons.mp ha with rfl | ha
    · exact ⟨_, hp, rfl⟩
    · obtain ⟨vs, hv⟩ := hl.dom ha
      exact ⟨_, hv, rfl⟩
  keep := fun h k => by
    obtain ⟨p, zs, e1, e2, nd, hp, hl⟩ := h
    exact ⟨p, zs, e1, e2, nd, k p _ hp (.inl (by rw [e2]; exact List.mem_cons_self)), hl.keep fun a o e z => k a o e (z.imp (fun m => by rw [e2]; exact List.mem_cons_of_mem _ m) id)⟩
def e3L (e : β → PyData) (r : List (List (List β))) : List (List (List PyData)) := r.map (e2L e)
theorem mem_flatZ {zs : List (Addr × List Addr)} {i : Nat} {r : Addr} {rs : List Addr} (h : zs[i]? = some (r, rs)) {a : Addr} (ha : a ∈ r :: rs) : a ∈ flatZ zs := by
  unfold flatZ
  exact List.mem_flatMap.mpr ⟨(r, rs), List.mem_of_getElem? h, ha⟩
theorem nd_flatZ : ∀ {zs : List (Addr × List Addr)} {i : Nat} {r : Addr} {rs : List Addr}, (flatZ zs).Nodup → zs[i]? = some (r, rs) → (r :: rs).Nodup
  | z :: zs, 0, r, rs, h, e => by
    cases e
    unfold flatZ at h
    rw [List.flatMap_cons, List.nodup_append] at h
    exact h.1
  | z :: zs, i + 1, r, rs, h, e => by
    unfold flatZ at h
    rw [List.flatMap_cons, List.nodup_append] at h
    exact nd_flatZ h.2.1 e
  | [], 0, _, _, _, e => by cases e
  | [], _ + 1, _, _, _, e => by cases e
theorem nest3 {e : β → PyData} (xs : List (List (List β))) : Nest (ls3 K (e3L e xs)) (xs.map fun x => ls2 K (e2L e x)) := fun H v fq ⟨p, zs, e1, efq, nd, hp, hl⟩ => by
  have hll := hl.length
  unfold e3L at hll
  rw [List.length_map] at hll
  refine ⟨p, _, e1, by rw [efq]; simp, hp, by rw [List.length_map, List.length_map, hll], fun j T hT => ?_⟩
  rw [List.getElem?_map] at hT
  cases hx : xs[j]? with
  | none => rw [hx] at hT; cases hT
  | some row =>
    rw [hx] at hT
    cases hT
    obtain ⟨r, rs, g1, g2, g3⟩ := hl.at (i := j) (dss := e2L e row) (by unfold e3L; rw [List.getElem?_map, hx]; rfl)
    exact ⟨.ref r, r :: rs, by rw [List.getElem?_map, g1]; rfl, ⟨r, rs, rfl, rfl, nd_flatZ (List.nodup_cons.mp nd).2 g1, g2, g3⟩, fun a ha => by rw [efq]; exact List.mem_cons_of_mem _ (mem_flatZ g1 ha)⟩
theorem ev_new3 {e : β → PyData} : EvG C Γ (tLst tNil) (ret ([] : List (List (List β)))) (fun r => RN (ls3 C.K (e3L e r))) := fun P X hw B σ H fp en ex Q q =>
  ⟨Nat.zero_le _, fun p hp => q [] (.ref p) _ hw (.new en.tps hp) ⟨[p], ⟨p, [], rfl, rfl, by simp [flatZ], upd_same, .nil⟩, fun a ha => by rw [List.mem_singleton.mp ha]; exact hp⟩⟩
theorem flatZ_snoc (zs : List (Addr × List Addr)) (r : Addr) (rs : List Addr) : flatZ (zs ++ [(r, rs)]) = flatZ zs ++ (r :: rs) := by
  unfold flatZ
  rw [List.flatMap_append]
  simp
/-- t.append(row), a list of lists of one's own goes into t -/
theorem sb_app3 {res : F → Oc} {N Bk Ct : Cont F} {i j : Nat} {e : β → PyData} {xs : List (List (List β))} {row : List (List β)} {k : List (List (List β)) → Wp F} (h : Γ[i]? = some (.sl (ls3 C.K (e3L e xs)))) (hr : Γ[j]? = some (.sl (ls2 C.K (e2L e row)))) (hij : i ≠ j)
    (hk : ∀ ys, Lands N ((Γ.set j .un).set i (.sl (ls3 C.K (e3L e ys)))) (k ys)) : SimB C res N Bk Ct (tDrop (tBM C.K "list" rAppend (tVar i) (tCons (tVar j) tNil))) Γ (appW xs (ret row) k) := fun P X hm B D ex f n b c σ H fp en => by
  obtain ⟨hlt, hP⟩ := hm
  obtain ⟨v, hv, p, zs, rfl, hf, nd, hp, hl⟩ := en.sl i _ h
  obtain ⟨r, rs, hvj, hfj, ndj, hpj, hlj, _⟩ := En.row2 (C := C) en hr
  have hlen := hl.length
  unfold e3L at hlen
  rw [List.length_map] at hlen
  refine ⟨_, hv, .inl ⟨rfl, _, .inl (.inl hp)⟩, _, hvj, ?_⟩
  have hdis : ∀ a ∈ p :: flatZ zs, a ∉ r :: rs := fun a ha hb => hij (en.dis i j a (by rw [hf]; exact ha) (by rw [hfj]; exact hb))
  have st : Stay H (upd H p (.lst (zs.map (fun z => V.ref z.1) ++ [V.ref r]))) := fun a o ea z => by
    rw [upd_ne (fun q => by rw [q, hp] at ea; cases ea; cases z)]
    exact ea
  have hpn : p ∉ flatZ zs := (List.nodup_cons.mp nd).1
  have keepR : ∀ a ∈ r :: rs, ∀ o, H a = some o → upd H p (.lst (zs.map (fun z => V.ref z.1) ++ [V.ref r])) a = some o := fun a ha o ea => by
    rw [upd_ne (show a ≠ p from fun q => hdis p List.mem_cons_self (by rw [← q]; exact ha))]
    exact ea
  have hown : (ls3 C.K (e3L e (xs ++ [row]))).own (upd H p (.lst (zs.map (fun z => V.ref z.1) ++ [V.ref r]))) (.ref p) (p :: flatZ zs ++ (r :: rs)) := by
    refine ⟨p, zs ++ [(r, rs)], rfl, by rw [flatZ_snoc]; rfl, ?_, ?_, ?_⟩
    · rw [flatZ_snoc, ← List.cons_append, List.nodup_append]
      exact ⟨nd, ndj, fun a ha b hb z => hdis a ha (z ▸ hb)⟩
    · rw [upd_same, List.map_append]
      rfl
    · unfold e3L
      rw [List.map_append]
      refine LB.snoc (keepR r List.mem_cons_self _ hpj) (hlj.keep fun a o ea z => ?_) (hl.keep fun a o ea z => ?_)
      · rcases z with z | z
        · exact keepR a (List.mem_cons_of_mem _ z) o ea
        · exact st a o ea z
      · rcases z with z | z
        · rw [upd_ne (show a ≠ p from fun q => hpn (by rw [← q]; exact z))]
          exact ea
        · exact st a o ea z
  have en1 := en.forget j
  have hS1 : (Γ.set j .un)[i]? = some (.sl (ls3 C.K (e3L e xs))) := by rw [List.getElem?_set_ne (Ne.symm hij)]; exact h
  have hf1 : WL.put fp j [] i = fp i := put_ne hij
  have inq : ∀ a ∈ p :: flatZ zs ++ (r :: rs), a ∈ fp i ∨ a ∈ fp j := fun a ha => by
    rcases List.mem_append.mp ha with ha | ha
    · exact .inl (by rw [hf]; exact ha)
    · exact .inr (by rw [hfj]; exact ha)
  refine ⟨p, _, .ref r, rfl, rfl, hp, by rw [List.length_map, hlen]; exact lc_list_room _ hlt, n _ _ (hk _ P X B σ _ _ hP (en1.regrow hS1 rfl hv (by rw [hf1, hf]; exact List.mem_cons_self) hp rfl hown (fun a ha k hk => ?_) (fun a ha => ?_) (fun a ha => ?_) fun z hz hzq => ?_))⟩
  · by_cases z : k = j
    · subst z
      rw [put_same] at hk; cases hk
    · rw [put_ne z] at hk
      rcases inq a ha with q | q
      · exact en.dis k i a hk q
      · exact absurd (en.dis k j a hk q) z
  · rcases inq a ha with q | q
    · exact en.nt i a q
    · exact en.nt j a q
  · rcases inq a ha with q | q
    · exact en.new i a _ h rfl q
    · exact en.new j a _ hr rfl q
  · rcases inq _ hzq with q | q
    · exact (en.rr z hz).2.2 i q
    · exact (en.rr z hz).2.2 j q
/-- t[u][d], read -/
theorem ev_ix3 {i : Nat} {tu td : TE} {e : β → PyData} {wu wd : Wp Int} (xs : List (List (List β))) (h : Has Γ i (ls3 C.K (e3L e xs))) (hu : EvG C Γ tu wu (fun r => RF C.K (eI r))) (hd : EvG C Γ td wd (fun r => RF C.K (eI r))) :
    EvG C Γ (tOp (rIxL C.K) (tOp (rIxL C.K) (tVar i) tu) td) (bnd wu fun u => bnd (opt (atI xs u)) fun row => bnd wd fun d => opt (atI row d)) (fun r => RL C.K (r.map e)) := fun P X hw B σ H fp en ex Q q => by
  obtain ⟨v, fq, hv, ⟨p, zs, rfl, efp, nd, hp, hl⟩, hoff⟩ := en.hold h
  refine ⟨_, hv, hu _ X hw B σ H fp en ex _ fun u y H1 h1 s1 hk => ?_⟩
  have ek := Fz.int_inv (n := u) hk
  subst ek
  obtain ⟨v', fq', hv', ⟨p', zs', rfl, efp', nd', hp', hl'⟩, hoff'⟩ := (en.step s1).hold h
  rw [hv] at hv'
  cases hv'
  obtain ⟨row, hrow, h1⟩ := h1
  unfold atI at hrow
  cases e1 : ixN xs.length u with
  | none => rw [e1] at hrow; cases hrow
  | some j =>
    rw [e1] at hrow
    have hrow : xs[j]? = some row := hrow
    obtain ⟨r, rs, g1, g2, g3⟩ := hl'.at (i := j) (dss := e2L e row) (by unfold e3L; rw [List.getElem?_map, hrow]; rfl)
    have hlen := hl'.length
    unfold e3L at hlen
    rw [List.length_map] at hlen
    refine ⟨p, _, u, .ref r, rfl, rfl, .inl (.inl hp'), atI_map (by rw [hlen]; exact e1) g1, hd _ X h1 B σ H1 fp (en.step s1) ex _ fun d y H2 h2 s2 hk2 => ?_⟩
    have ek := Fz.int_inv (n := d) hk2
    subst ek
    obtain ⟨cell, hcell, h2⟩ := h2
    have offr : B.off r := hoff' r (by rw [efp']; exact List.mem_cons_of_mem _ (mem_flatZ g1 List.mem_cons_self))
    have offs : ∀ a ∈ rs, B.off a := fun a ha => hoff' a (by rw [efp']; exact List.mem_cons_of_mem _ (mem_flatZ g1 (List.mem_cons_of_mem _ ha)))
    have g2' := s2.kp r _ g2 offr
    have g3' : LA C.K H2 rs (e2L e row) := g3.keep fun a o ea z => by
      rcases z with z | z
      · exact s2.kp a o ea (offs a z)
      · exact s2.kp a o ea (s1.ts.notstill ea z)
    unfold atI at hcell
    cases e2 : ixN row.length d with
    | none => rw [e2] at hcell; cases hcell
    | some jj =>
      rw [e2] at hcell
      have hcell : row[jj]? = some cell := hcell
      obtain ⟨a, vs, k1, k2, k3⟩ := g3'.row hcell
      have hlen2 := g3'.length
      unfold e2L at hlen2
      rw [List.length_map] at hlen2
      exact ⟨r, _, d, .ref a, rfl, rfl, .inl (.inl g2'), atI_map (by rw [hlen2]; exact e2) k1, q cell (.ref a) H2 h2 (s1.trans s2) ⟨a, vs, rfl, .inl ⟨.inl k2, offs a (List.mem_of_getElem? k1)⟩, k3⟩⟩
/-! ### a borrowed thing as an argument -/
theorem ev_B {i : Nat} (x : α) {S : α → Sl} (h : Has Γ i (S x)) : EvG C Γ (tVar i) (ret x) (fun r => RB (S r)) := fun P X hw B σ H fp en ex Q q => by
  obtain ⟨v, fq, hv, ho, hf⟩ := en.hold h
  exact ⟨_, hv, q x _ H hw (.refl en.tps) ⟨fq, ho, hf⟩⟩
theorem es_b {te : TE} {tr : TA} {wa : Wp α} {wr : Wp β} {S : α → Sl} {Rr : β → List Rk} (h : EvG C Γ te wa (fun x => RB (S x))) (hr : EvS C Γ tr wr Rr) : EvS C Γ (tCons te tr) (bnd wa fun a => bnd wr fun r => ret (a, r)) (fun x => RB (S x.1) :: Rr x.2) := es_cons h (fun _ => st_B) hr
/-- a new thing may be lent -/
theorem EvG.lend {t : TE} {w : Wp α} {S : α → Sl} (h : EvG C Γ t w (fun a => RN (S a))) : EvG C Γ t w (fun a => RB (S a)) := fun P X hw B σ H fp en ex Q q =>
  h P X hw B σ H fp en ex Q fun r v H' hp s ⟨fp', h1, hf⟩ => q r v H' hp s ⟨fp', h1, fun a ha => en.tps.new (hf a ha)⟩
end
end WL
/-! WL, part 22: a def that takes a thing over; a list put into a list of lists of lists. -/
namespace WL
open PySem PySem.Spec PyProof.Rows L2
/-- the promise of a def that takes things over -/
def spM (K : PySem.W.Frag) {ι F : Type} (ag : ι → List Ag) (f : ι → Wp F) (res : F → Oc) : Sp := fun vs H Q _ => ∃ (x : ι) (P : F → Prop) (T : Option (Sl × V × List Addr)) (R : List (Addr × HO)) (O : List Addr) (fp : Nat → List Addr),
  f x P (fun _ => False) ∧ En ⟨H, O, T, R⟩ ((ag x).map (Ag.ety K)) (vs.map some) H fp ∧ ∀ out v H', P out → Frame ⟨H, O, T, R⟩ H' → TpSt ⟨H, O, T, R⟩ H' → OcOk K ⟨H, O, T, R⟩ H' (res out) v → Q v H'
section
variable {C : Cn} {Γ : List Ety} {K : PySem.W.Frag} {α β γ ι F G : Type} {P : Program} {w : World} {mg : Str → Option Value} {base : Heap}
theorem fn_m {x qual : Str} {st : Stmt} {f : Addr} {fd : FuncData} {N ps : List Str} {k : Nat} {ag : ι → List Ag} {fm : ι → Wp F} {res : F → Oc} (Fu : Fun K x qual st f fd) (S : FnScope N ps (defScope st)) (hlen : ∀ x, (ag x).length = ps.length)
    (hb : ∀ (cdv : Value) (A : Around) (outer : List PySem.Env) (s : Shared) (H : Hp) (E : XK), Room k (A.deeper (envOfC qual (defScope st) s.heap.objs.size f cdv)) →
      ∃ t, PSs (cxOf CX0 P w K mg base N qual (defScope st) f cdv A outer s H E).nox (defBody st) t ∧ ∀ x, SimB ⟨K, E0, fun _ => (.none, "")⟩ res (endC res) noC noC t ((ag x).map (Ag.ety K) ++ List.replicate (N.length - ps.length) .un) (fm x)) :
    FnOk P w K mg base CX0 (k + 1) f fd ps (spM K ag fm res) := by
  refine Fu.ok S (fun vs H Q E h => ?_) (fun cdv A outer s H vs Q E hr h => ?_)
  · obtain ⟨x, P, T, R, O, fp, _, en, _⟩ := h
    have := en.len
    rw [List.length_map, List.length_map] at this
    rw [this, hlen]
  · obtain ⟨t, ht, hs⟩ := hb cdv A outer s H E hr
    refine ⟨t, ht, ?_⟩
    obtain ⟨x, P, T, R, O, fp, hf, en, fin⟩ := h
    have hl := en.len
    rw [List.length_map, List.length_map] at hl
    have hs' := hs x
    rw [← hlen x, ← hl] at hs'
    refine hs' P (fun _ => False) hf ⟨H, O, T, R⟩ { nx := fun _ H' => Q .non H', rt := Q } exok_no fin (fun σ H' h => ?_) (fun σ H' h => h.elim) (fun σ H' h => h.elim) _ _ fp ?_
    · obtain ⟨out, hp, hr, h1, h2⟩ := h
      refine fin out .non H' hp h1 h2 ?_
      rw [hr]
      exact .non
    · rw [start_eq]
      exact en.slots _
/-- return (a, f(xs, n, t)), t gone over to f -/
theorem sb_retMv {res : F → Oc} {N Bk Ct : Cont F} {i j : Nat} {ta t2 : TE} {wa : Wp α} {w2 : Wp β} {ea : α → PyData} {e2' : β → PyData} {e1 : γ → PyData} {er : G → PyData} {xs : List γ} {S : Sl} {ag : ι → List Ag} {fm : ι → Wp G} {rs : G → Oc} {E : XK} {mk : β → ι} {g : α → G → F}
    (ha : EvG C Γ ta wa (fun x => RF C.K (ea x))) (hj : Γ[j]? = some (.sl (ls C.K (xs.map e1)))) (h2 : EvG C Γ t2 w2 (fun x => RF C.K (e2' x))) (hi : Γ[i]? = some (.sl S)) (ro : S.ro = false) (hij : j ≠ i)
    (hag : ∀ y, ag (mk y) = [.l (xs.map e1), .d (e2' y), .o S]) (hrs : ∀ r, rs r = .fz (er r)) (hres : ∀ a r, res (g a r) = .fz (.tuple [ea a, er r])) :
    SimB C res N Bk Ct (tRet (tTup (tCons ta (tCons (tCall (spM C.K ag fm rs) [] E (tCons (tVar j) (tCons t2 (tCons (tVar i) tNil)))) tNil)))) Γ (bnd wa fun a => bnd w2 fun y => bnd (noX (fm (mk y))) fun r => ret (g a r)) := fun P X hm B D ex f n b c σ H fp en => by
  refine ha _ X hm B σ H fp en ex _ fun a va H1 h1 s1 r1 => ?_
  have en1 := en.step s1
  obtain ⟨p, vs, hvj, hfj, hpj, hzj⟩ := En.lst (C := C) en1 hj
  refine ⟨_, hvj, h2 _ X h1 B σ H1 fp en1 ex _ fun y vy H2 h3 s2 r2 => ?_⟩
  have en2 := en1.step s2
  obtain ⟨v3, hv3, ho3⟩ := en2.sl i S hi
  refine ⟨v3, hv3, ?_⟩
  obtain ⟨p', vs', hvj', hfj', hpj', hzj'⟩ := En.lst (C := C) en2 hj
  rw [hvj] at hvj'
  cases hvj'
  have r1' : Fz C.K H2 va (ea a) := Fz.stay (s2.stay s1.ts) r1
  have hpf : p ∈ fp j := by rw [hfj]; exact List.mem_singleton.mpr rfl
  have enc : En ⟨H2, fp i, B.T, [(p, HO.lst vs')]⟩ ((ag (mk y)).map (Ag.ety C.K)) ([V.ref p, vy, v3].map some) H2 (fun k => if k = 2 then fp i else []) := by
    rw [hag]
    refine ⟨rfl, fun k T hk => ?_, fun k T hk => ?_, fun k hk => ?_, fun k l q hq hq2 => ?_, fun k q hq => ?_, fun k q T hk hro hq => ?_, fun k K' ds hk => ?_, fun k T hk => ?_, fun r hr => ?_, fun q o e => ⟨o, e, fun _ _ => rfl, fun _ => rfl⟩, en2.tps⟩
    · match k, hk with
      | 1, hk =>
        cases hk
        exact ⟨vy, rfl, rfl, r2⟩
      | 2, hk =>
        cases hk
        exact ⟨v3, rfl, ho3⟩
    · match k, hk with
      | 0, hk => cases hk
      | 1, hk => cases hk
      | 2, hk => cases hk
    · by_cases z : k = 2
      · subst z
        exact absurd rfl (hk S)
      · exact if_neg z
    · by_cases z : k = 2
      · by_cases z' : l = 2
        · rw [z, z']
        · have hq2 : q ∈ (if l = 2 then fp i else []) := hq2
          rw [if_neg z'] at hq2; cases hq2
      · have hq : q ∈ (if k = 2 then fp i else []) := hq
        rw [if_neg z] at hq; cases hq
    · have hq : q ∈ (if k = 2 then fp i else []) := hq
      by_cases z : k = 2
      · rw [if_pos z] at hq
        exact en.nt i q hq
      · rw [if_neg z] at hq; cases hq
    · have hq : q ∈ (if k = 2 then fp i else []) := hq
      by_cases z : k = 2
      · rw [if_pos z] at hq
        exact .inr hq
      · rw [if_neg z] at hq; cases hq
    · match k, hk with
      | 0, hk =>
        cases hk
        exact ⟨p, vs', .inl List.mem_cons_self, rfl, hzj'⟩
      | 1, hk => cases hk
      | 2, hk => cases hk
    · match k, hk with
      | 0, hk => cases hk
      | 1, hk => cases hk
      | 2, hk => cases hk
    · rw [List.mem_singleton.mp hr]
      refine ⟨.inl hpj', en.nt j p hpf, fun k hq => ?_⟩
      have hq : p ∈ (if k = 2 then fp i else []) := hq
      by_cases z : k = 2
      · rw [if_pos z] at hq
        exact hij (en.dis j i p hpf hq)
      · rw [if_neg z] at hq; cases hq
  refine ⟨mk y, _, B.T, _, _, _, h3, enc, fun out v H' hp hf ht ho => ?_⟩
  rw [hrs] at ho
  have ho : Fz C.K H' v (er out) := ho
  have st : Stay H2 H' := fun q o e z => by
    obtain ⟨o', e', _, k⟩ := hf q o e
    rw [k z] at e'
    exact e'
  refine ⟨by show (2 : Nat) ≤ _; decide, fun q hq => ?_⟩
  have hts : TpSt B H' := ht
  have hnew : ∀ q' o, H' q' = some o → upd H' q (.tup [va, v]) q' = some o := upd_keeps hq
  refine f (g a out) (.ref q) _ hp (fun q' o e => ?_) (hts.same hnew) ?_
  · obtain ⟨o1, e1, k1, k2⟩ := en2.fr q' o e
    obtain ⟨o2, e2, k3, k4⟩ := hf q' o1 e1
    refine ⟨o2, hnew q' o2 e2, fun n1 n2 => ?_, fun z => ?_⟩
    · rw [← k1 n1 n2]
      refine k3 (fun hin => ?_) n2
      rcases en.new i q' S hi ro hin with z | z
      · rw [e] at z; cases z
      · exact n1 z
    · have e5 := k2 z
      subst e5
      exact k4 z
  · rw [hres]
    exact .tup (.inl (.inl upd_same)) (.cons (r1'.stay fun q' o e z => hnew q' o (st q' o e z)) (.cons (ho.stay fun q' o e z => hnew q' o e) .nil))
/-! ### t[u][d] = xs, a list of one's own goes into t -/
theorem nd_set {rs : List Addr} (h : rs.Nodup) {r : Addr} (hr : r ∉ rs) (d : Nat) : (rs.set d r).Nodup := by
  induction rs generalizing d with
  | nil => simpa using h
  | cons a rs ih =>
    obtain ⟨h1, h2⟩ := List.nodup_cons.mp h
    cases d with
    | zero => exact List.nodup_cons.mpr ⟨fun z => hr (List.mem_cons_of_mem _ z), h2⟩
    | succ d =>
      refine List.nodup_cons.mpr ⟨fun z => ?_, ih h2 (fun z => hr (List.mem_cons_of_mem _ z)) d⟩
      rcases List.mem_or_eq_of_mem_set z with z | z
      · exact h1 z
      · exact hr (by rw [← z]; exact List.mem_cons_self)
theorem flatZ_cons (z : Addr × List Addr) (zs : List (Addr × List Addr)) : flatZ (z :: zs) = (z.1 :: z.2) ++ flatZ zs := by
  unfold flatZ
  rw [List.flatMap_cons]
theorem flatZ_set : ∀ {zs : List (Addr × List Addr)} {u d : Nat} {r : Addr} {rs : List Addr} {a : Addr}, zs[u]? = some (r, rs) → (flatZ zs).Nodup → a ∉ flatZ zs → (flatZ (zs.set u (r, rs.set d a))).Nodup ∧ ∀ q ∈ flatZ (zs.set u (r, rs.set d a)), q ∈ flatZ zs ∨ q = a
  | z :: zs, 0, d, r, rs, a, e, hn, ha => by
    cases e
    rw [List.set_cons_zero, flatZ_cons, flatZ_cons] at *
    rw [List.nodup_append] at hn
    obtain ⟨n1, n2, n3⟩ := hn
    obtain ⟨m1, m2⟩ := List.nodup_cons.mp n1
    rw [List.mem_append, not_or] at ha
    have har : a ∉ rs := fun z => ha.1 (List.mem_cons_of_mem _ z)
    have mem : ∀ q, q ∈ r :: rs.set d a → q ∈ r :: rs ∨ q = a := fun q hq => by
      rcases List.mem_cons.mp hq with z | z
      · exact .inl (by rw [z]; exact List.mem_cons_self)
      · exact (List.mem_or_eq_of_mem_set z).imp (List.mem_cons_of_mem _) id
    refine ⟨?_, fun q hq => ?_⟩
    · rw [List.nodup_append]
      refine ⟨List.nodup_cons.mpr ⟨fun z => ?_, nd_set m2 har d⟩, n2, fun x hx y hy e => ?_⟩
      · rcases List.mem_or_eq_of_mem_set z with z | z
        · exact m1 z
        · exact ha.1 (by rw [← z]; exact List.mem_cons_self)
      · rcases mem x hx with z | z
        · exact n3 x z y hy e
        · exact ha.2 (by rw [← z, e]; exact hy)
    · rcases List.mem_append.mp hq with z | z
      · exact (mem q z).imp (fun z => List.mem_append_left _ z) id
      · exact .inl (List.mem_append_right _ z)
  | z :: zs, u + 1, d, r, rs, a, e, hn, ha => by
    have e : zs[u]? = some (r, rs) := e
    rw [List.set_cons_succ, flatZ_cons, flatZ_cons] at *
    rw [List.nodup_append] at hn
    obtain ⟨n1, n2, n3⟩ := hn
    rw [List.mem_append, not_or] at ha
    obtain ⟨i1, i2⟩ := flatZ_set (d := d) e n2 ha.2
    refine ⟨?_, fun q hq => ?_⟩
    · rw [List.nodup_append]
      refine ⟨n1, i1, fun x hx y hy exy => ?_⟩
      rcases i2 y hy with z | z
      · exact n3 x hx y z exy
      · exact ha.1 (by rw [← z, ← exy]; exact hx)
    · rcases List.mem_append.mp hq with z | z
      · exact .inl (List.mem_append_left _ z)
      · exact (i2 q z).imp (fun z => List.mem_append_right _ z) id
  | [], 0, _, _, _, _, e, _, _ => by cases e
  | [], _ + 1, _, _, _, _, e, _, _ => by cases e
theorem set_id' {α : Type} : ∀ (l : List α) (i : Nat) (x : α), l[i]? = some x → l.set i x = l
  | [], _, _, h => by simp at h
  | _ :: _, 0, _, h => by
    simp at h
    rw [h]
    rfl
  | a :: l, i + 1, x, h => by
    rw [List.set_cons_succ, set_id' l i x (by simpa using h)]
theorem flatZ_dis : ∀ {zs : List (Addr × List Addr)} {i j : Nat} {z z' : Addr × List Addr}, (flatZ zs).Nodup → i ≠ j → zs[i]? = some z → zs[j]? = some z' → ∀ a ∈ z.1 :: z.2, a ∉ z'.1 :: z'.2
  | y :: zs, 0, j + 1, z, z', hn, _, e1, e2, a, ha, hb => by
    cases e1
    rw [flatZ_cons, List.nodup_append] at hn
    exact hn.2.2 a ha a (mem_flatZ (r := z'.1) (rs := z'.2) (show zs[j]? = some (z'.1, z'.2) from e2) hb) rfl
  | y :: zs, i + 1, 0, z, z', hn, _, e1, e2, a, ha, hb => by
    cases e2
    rw [flatZ_cons, List.nodup_append] at hn
    exact hn.2.2 a hb a (mem_flatZ (r := z.1) (rs := z.2) (show zs[i]? = some (z.1, z.2) from e1) ha) rfl
  | y :: zs, i + 1, j + 1, z, z', hn, hne, e1, e2, a, ha, hb => by
    rw [flatZ_cons, List.nodup_append] at hn
    exact flatZ_dis hn.2.1 (fun w => hne (by rw [w])) (show zs[i]? = some z from e1) (show zs[j]? = some z' from e2) a ha hb
  | _ :: _, 0, 0, _, _, _, hne, _, _, _, _, _ => hne rfl
  | [], 0, _, _, _, _, _, e, _, _, _, _ => by cases e
  | [], _ + 1, _, _, _, _, _, e, _, _, _, _ => by cases e
theorem LA.setR {H : Hp} {a : Addr} {vs : List V} {ds : List PyData} (h1 : H a = some (.lst vs)) (h2 : FzAll K H vs ds) : ∀ {rs : List Addr} {dss : List (List PyData)} {d : Nat}, LA K H rs dss → LA K H (rs.set d a) (dss.set d ds)
  | _, _, _, .nil => .nil
  | _, _, 0, .cons _ _ c => .cons h1 h2 c
  | _, _, _ + 1, .cons x y c => .cons x y (c.setR h1 h2)
theorem LB.setR {H : Hp} {r : Addr} {rs : List Addr} {dss : List (List PyData)} (h1 : H r = some (.lst (rs.map V.ref))) (h2 : LA K H rs dss) : ∀ {zs : List (Addr × List Addr)} {ds : List (List (List PyData))} {u : Nat}, (∀ z ∈ zs, z.1 ≠ r → H z.1 = some (.lst (z.2.map V.ref))) → (∀ (k : Nat) z dss', k ≠ u → zs[k]? = some z → ds[k]? = some dss' → H z.1 = some (.lst (z.2.map V.ref)) ∧ LA K H z.2 dss') → zs.length = ds.length → LB K H (zs.set u (r, rs)) (ds.set u dss)
  | [], [], _, _, _, _ => .nil
  | z :: zs, d :: ds, 0, _, hk, hl => by
    refine .cons h1 h2 ?_
    have : ∀ {zs : List (Addr × List Addr)} {ds : List (List (List PyData))}, (∀ (k : Nat) z dss', zs[k]? = some z → ds[k]? = some dss' → H z.1 = some (.lst (z.2.map V.ref)) ∧ LA K H z.2 dss') → zs.length = ds.length → LB K H zs ds := by
      intro zs
      induction zs with
      | nil =>
        intro ds _ hl
        cases ds with
        | nil => exact .nil
        | cons => cases hl
      | cons z zs ih =>
        intro ds hk hl
        cases ds with
        | nil => cases hl
        | cons d ds =>
          obtain ⟨a, b⟩ := hk 0 z d rfl rfl
          exact .cons a b (ih (fun k z' d' e1 e2 => hk (k + 1) z' d' e1 e2) (by simpa using hl))
    exact this (fun k z' d' e1 e2 => hk (k + 1) z' d' (by omega) e1 e2) (by simpa using hl)
  | z :: zs, d :: ds, u + 1, hz, hk, hl => by
    obtain ⟨a, b⟩ := hk 0 z d (by omega) rfl rfl
    exact .cons a b (LB.setR h1 h2 (fun z' h => hz z' (List.mem_cons_of_mem _ h)) (fun k z' d' e e1 e2 => hk (k + 1) z' d' (by omega) e1 e2) (by simpa using hl))
  | [], _ :: _, _, _, _, hl => by cases hl
  | _ :: _, [], _, _, _, hl => by cases hl
def set3W (xs : List (List (List β))) (x : List β) (wu wd : Wp Int) (k : List (List (List β)) → Wp F) : Wp F := bnd wu fun u => bnd (opt (ixN xs.length u)) fun i => bnd (opt xs[i]?) fun row => bnd wd fun d => bnd (opt (ixN row.length d)) fun j => k (xs.set i (row.set j x))
set_option maxHeartbeats 1000000 in
theorem sb_set3 {res : F → Oc} {N Bk Ct : Cont F} {i j : Nat} {tu td : TE} {e : β → PyData} {xs : List (List (List β))} {x : List β} {wu wd : Wp Int} {k : List (List (List β)) → Wp F} (h : Γ[i]? = some (.sl (ls3 C.K (e3L e xs)))) (hx : Γ[j]? = some (.sl (ls C.K (x.map e)))) (hij : i ≠ j) (hu : EvG C Γ tu wu (fun r => RF C.K (eI r))) (hd : EvG C Γ td wd (fun r => RF C.K (eI r)))
    (hk : ∀ ys, Lands N ((Γ.set j .un).set i (.sl (ls3 C.K (e3L e ys)))) (k ys)) : SimB C res N Bk Ct (tAsg (tVar j) (gSub (tOp (rIxL C.K) (tVar i) tu) td rSetL)) Γ (set3W xs x wu wd k) := fun P X hm B D ex f n b c σ H fp en => by
  obtain ⟨q, ws, hvj, hfj, hqj, hzj⟩ := En.lst (C := C) en hx
  obtain ⟨v, hv, p, zs, rfl, hf, nd, hp, hl⟩ := en.sl i _ h
  refine ⟨_, hvj, _, hv, hu _ X hm B σ H fp en ex _ fun u y H1 h1 s1 hy => ?_⟩
  have ey := Fz.int_inv (n := u) hy
  subst ey
  obtain ⟨iu, hiu, row, hrow, h1⟩ := h1
  have en1 := en.step s1
  obtain ⟨v', hv', p', zs', rfl, hf', nd', hp', hl'⟩ := en1.sl i _ h
  rw [hv] at hv'
  cases hv'
  obtain ⟨r, rs, g1, g2, g3⟩ := hl'.at (i := iu) (dss := e2L e row) (by unfold e3L; rw [List.getElem?_map, hrow]; rfl)
  have hlen := hl'.length
  unfold e3L at hlen
  rw [List.length_map] at hlen
  refine ⟨p, _, u, .ref r, rfl, rfl, .inl (.inl hp'), atI_map (by rw [hlen]; exact hiu) g1, hd _ X h1 B σ H1 fp en1 ex _ fun d y2 H2 h2 s2 hy2 => ?_⟩
  obtain ⟨jd, hjd, h2⟩ := h2
  have en2 := en1.step s2
  obtain ⟨q', ws', hvj', hfj', hqj', hzj'⟩ := En.lst (C := C) en2 hx
  rw [hvj] at hvj'
  cases hvj'
  obtain ⟨v2, hv2, p2, zs2, rfl, hf2, nd2, hp2, hl2⟩ := en2.sl i _ h
  rw [hv] at hv2
  cases hv2
  -- the rows' addresses as before: the outer list is the same object
  rw [hf'] at hf2
  have hp2' := s2.kp p _ hp' (en.nt i p (by rw [hf']; exact List.mem_cons_self))
  have hl2' : LB C.K H2 zs' (e3L e xs) := hl'.keep fun a o ea z => by
    rcases z with z | z
    · exact s2.kp a o ea (en.nt i a (by rw [hf']; exact List.mem_cons_of_mem _ z))
    · exact s2.kp a o ea (s1.ts.notstill ea z)
  obtain ⟨r2, rs2, k1, k2, k3⟩ := hl2'.at (i := iu) (dss := e2L e row) (by unfold e3L; rw [List.getElem?_map, hrow]; rfl)
  rw [g1] at k1
  cases k1
  have hlen2 := k3.length
  unfold e2L at hlen2
  rw [List.length_map] at hlen2
  have hrf : r ∈ flatZ zs' := mem_flatZ g1 List.mem_cons_self
  have hri : r ∈ fp i := by rw [hf']; exact List.mem_cons_of_mem _ hrf
  have hqj2 : q ∈ fp j := by rw [hfj]; exact List.mem_singleton.mpr rfl
  have hqz : q ∉ p :: flatZ zs' := fun z => hij (en.dis i j q (by rw [hf']; exact z) hqj2)
  have hpn : p ∉ flatZ zs' := (List.nodup_cons.mp nd').1
  have hzn : (flatZ zs').Nodup := (List.nodup_cons.mp nd').2
  have hrp : r ≠ p := fun z => hpn (z ▸ hrf)
  have hqr : q ≠ r := fun z => hqz (by rw [z]; exact List.mem_cons_of_mem _ hrf)
  obtain ⟨f1, f2⟩ := flatZ_set (d := jd) g1 hzn (fun z => hqz (List.mem_cons_of_mem _ z))
  have hnr := nd_flatZ hzn g1
  have hrrs : r ∉ rs := (List.nodup_cons.mp hnr).1
  have st : Stay H2 (upd H2 r (.lst ((rs.set jd q).map V.ref))) := fun a o ea z => by
    rw [upd_ne (show a ≠ r from fun w => by rw [w, k2] at ea; cases ea; cases z)]
    exact ea
  have keepO : ∀ a, a ≠ r → ∀ o, H2 a = some o → upd H2 r (.lst ((rs.set jd q).map V.ref)) a = some o := fun a ha o ea => by
    rw [upd_ne ha]
    exact ea
  have hown : (ls3 C.K (e3L e (xs.set iu (row.set jd x)))).own (upd H2 r (.lst ((rs.set jd q).map V.ref))) (.ref p) (p :: flatZ (zs'.set iu (r, rs.set jd q))) := by
    refine ⟨p, zs'.set iu (r, rs.set jd q), rfl, rfl, List.nodup_cons.mpr ⟨fun z => ?_, f1⟩, ?_, ?_⟩
    · rcases f2 p z with z | z
      · exact hpn z
      · exact hqz (by rw [← z]; exact List.mem_cons_self)
    · rw [keepO p (Ne.symm hrp) _ hp2', List.map_set]
      congr 2
      refine (set_id' _ _ _ ?_).symm
      rw [List.getElem?_map, g1]
      rfl
    · unfold e3L
      have e2s : e2L e (row.set jd x) = (e2L e row).set jd (x.map e) := by
        unfold e2L
        rw [List.map_set]
      have e3s : (xs.set iu (row.set jd x)).map (e2L e) = (xs.map (e2L e)).set iu ((e2L e row).set jd (x.map e)) := by rw [List.map_set, e2s]
      rw [e3s]
      refine LB.setR upd_same (LA.setR (keepO q hqr _ hqj') (hzj'.stay st) (k3.keep fun a o ea z => ?_)) (fun z hz hne => ?_) (fun kk z dss' hne e1 e2' => ?_) (by rw [List.length_map]; exact hlen)
      · rcases z with z | z
        · exact keepO a (fun w => hrrs (w ▸ z)) o ea
        · exact st a o ea z
      · obtain ⟨kk, hkk, e1⟩ := List.getElem_of_mem hz
        obtain ⟨r3, rs3, m1, m2, m3⟩ := hl2'.at (i := kk) (dss := (e3L e xs)[kk]'(by unfold e3L; rw [List.length_map]; omega)) (List.getElem?_eq_getElem _)
        rw [List.getElem?_eq_getElem hkk, e1] at m1
        cases m1
        exact keepO _ hne _ m2
      · obtain ⟨r3, rs3, m1, m2, m3⟩ := hl2'.at (i := kk) (dss := dss') e2'
        rw [e1] at m1
        cases m1
        have dj := flatZ_dis hzn hne e1 g1
        exact ⟨keepO _ (fun w => dj r3 List.mem_cons_self (by rw [show r3 = r from w]; exact List.mem_cons_self)) _ m2, m3.keep fun a o ea z => by
          rcases z with z | z
          · exact keepO a (fun w => dj a (List.mem_cons_of_mem _ z) (by rw [w]; exact List.mem_cons_self)) o ea
          · exact st a o ea z⟩
  have en3 := en2.forget j
  have hS3 : (Γ.set j .un)[i]? = some (.sl (ls3 C.K (e3L e xs))) := by rw [List.getElem?_set_ne (Ne.symm hij)]; exact h
  have hf3 : WL.put fp j [] i = fp i := put_ne hij
  have inq : ∀ a ∈ p :: flatZ (zs'.set iu (r, rs.set jd q)), a ∈ fp i ∨ a = q := fun a ha => by
    rcases List.mem_cons.mp ha with z | z
    · exact .inl (by rw [hf', z]; exact List.mem_cons_self)
    · exact (f2 a z).imp (fun w => by rw [hf']; exact List.mem_cons_of_mem _ w) id
  have hreg := en3.regrow (p := r) (o := .lst ((rs.set jd q).map V.ref)) (q := p :: flatZ (zs'.set iu (r, rs.set jd q))) hS3 rfl hv (by rw [hf3]; exact hri) k2 rfl hown (fun a ha kk hkk => ?_) (fun a ha => ?_) (fun a ha => ?_) (fun z hz hzq => ?_)
  · refine ⟨r, _, d, jd, rfl, Fz.int_inv hy2, k2, by rw [List.length_map, hlen2]; exact hjd, ?_⟩
    have em : (rs.map V.ref).set jd (.ref q) = (rs.set jd q).map V.ref := by rw [List.map_set]
    rw [em]
    exact n _ _ (hk _ P X B σ _ _ h2 hreg)
  · by_cases z : kk = j
    · subst z
      rw [put_same] at hkk; cases hkk
    · rw [put_ne z] at hkk
      rcases inq a ha with w | w
      · exact en.dis kk i a hkk w
      · exact absurd (en.dis kk j a hkk (by rw [w]; exact hqj2)) z
  · rcases inq a ha with w | w
    · exact en.nt i a w
    · rw [w]; exact en.nt j q hqj2
  · rcases inq a ha with w | w
    · exact en.new i a _ h rfl w
    · rw [w]; exact en.new j q _ hx rfl hqj2
  · rcases inq _ hzq with w | w
    · exact (en.rr z hz).2.2 i w
    · exact (en.rr z hz).2.2 j (by rw [w]; exact hqj2)
end
end WL
/-! WL, part 23: data as tuples of things. -/
namespace WL
open PySem PySem.Spec PyProof.Rows L2
section
variable {α β γ δ : Type}
def asQ2 (a : PyData → Option α) (b : PyData → Option β) : PyData → Option (α × β)
  | .tuple [x, y] => (a x).bind fun u => (b y).bind fun v => some (u, v)
  | _ => none
def asQ3 (a : PyData → Option α) (b : PyData → Option β) (c : PyData → Option γ) : PyData → Option (α × β × γ)
  | .tuple [x, y, z] => (a x).bind fun u => (b y).bind fun v => (c z).bind fun w => some (u, v, w)
  | _ => none
def asQ4 (a : PyData → Option α) (b : PyData → Option β) (c : PyData → Option γ) (d : PyData → Option δ) : PyData → Option (α × β × γ × δ)
  | .tuple [x, y, z, t] => (a x).bind fun u => (b y).bind fun v => (c z).bind fun w => (d t).bind fun s => some (u, v, w, s)
  | _ => none
theorem as_Q2 {a : PyData → Option α} {b : PyData → Option β} {ea : α → PyData} {eb : β → PyData} (ha : ∀ d x, a d = some x → d = ea x) (hb : ∀ d x, b d = some x → d = eb x) : ∀ d x, asQ2 a b d = some x → d = e2 ea eb x := fun d x h => by
  unfold asQ2 at h
  split at h
  · rename_i x y
    cases h1 : a x with
    | none => rw [h1] at h; cases h
    | some u =>
      cases h2 : b y with
      | none => rw [h1, h2] at h; cases h
      | some v =>
        rw [h1, h2] at h
        cases h
        rw [ha _ _ h1, hb _ _ h2]
        rfl
  · cases h
theorem as_Q3 {a : PyData → Option α} {b : PyData → Option β} {c : PyData → Option γ} {ea : α → PyData} {eb : β → PyData} {ec : γ → PyData} (ha : ∀ d x, a d = some x → d = ea x) (hb : ∀ d x, b d = some x → d = eb x) (hc : ∀ d x, c d = some x → d = ec x) : ∀ d x, asQ3 a b c d = some x → d = e3 ea eb ec x := fun d x h => by
  unfold asQ3 at h
  split at h
  · rename_i x y z
    cases h1 : a x with
    | none => rw [h1] at h; cases h
    | some u =>
      cases h2 : b y with
      | none => rw [h1, h2] at h; cases h
      | some v =>
        cases h3 : c z with
        | none => rw [h1, h2, h3] at h; cases h
        | some w =>
          rw [h1, h2, h3] at h
          cases h
          rw [ha _ _ h1, hb _ _ h2, hc _ _ h3]
          rfl
  · cases h
theorem as_Q4 {a : PyData → Option α} {b : PyData → Option β} {c : PyData → Option γ} {e : PyData → Option δ} {ea : α → PyData} {eb : β → PyData} {ec : γ → PyData} {ed : δ → PyData} (ha : ∀ d x, a d = some x → d = ea x) (hb : ∀ d x, b d = some x → d = eb x) (hc : ∀ d x, c d = some x → d = ec x) (hd : ∀ d x, e d = some x → d = ed x) : ∀ d x, asQ4 a b c e d = some x → d = e4 ea eb ec ed x := fun d x h => by
  unfold asQ4 at h
  split at h
  · rename_i x y z t
    cases h1 : a x with
    | none => rw [h1] at h; cases h
    | some u =>
      cases h2 : b y with
      | none => rw [h1, h2] at h; cases h
      | some v =>
        cases h3 : c z with
        | none => rw [h1, h2, h3] at h; cases h
        | some w =>
          cases h4 : e t with
          | none => rw [h1, h2, h3, h4] at h; cases h
          | some s =>
            rw [h1, h2, h3, h4] at h
            cases h
            rw [ha _ _ h1, hb _ _ h2, hc _ _ h3, hd _ _ h4]
            rfl
  · cases h
def asD : PyData → Option PyData := some
theorem as_D : ∀ d x, asD d = some x → d = eD x := fun d x h => by cases h; rfl
end
end WL
/-! WL, part 24: the tape of draws (a dict), the law over any tape. -/
namespace WL
open PySem PySem.Spec PyProof.Rows L2
def kAt : Key := .inr "at"
def kRow : Key := .inr "row"
/-- the tape of draws: the place, the row -/
def tape2 : Sl where
  own := fun H v fp => ∃ (p q : Addr) (cells : List Int) (a : Int), v = .ref p ∧ fp = [p, q] ∧ p ≠ q ∧ H p = some (.dK [(kAt, .int a), (kRow, .ref q)]) ∧ H q = some (.lst (cells.map V.int)) ∧ 0 ≤ a ∧ cells ≠ [] ∧ cells.length ≤ 1000 ∧ ∀ c ∈ cells, 0 ≤ c
  ro := false
  dom := fun h ha => by
    obtain ⟨p, q, cells, a, _, e, _, h1, h2, _⟩ := h
    rw [e] at ha
    rcases List.mem_cons.mp ha with rfl | ha
    · exact ⟨_, h1, rfl⟩
    · rw [List.mem_singleton.mp ha]
      exact ⟨_, h2, rfl⟩
  keep := fun h k => by
    obtain ⟨p, q, cells, a, e1, e, hne, h1, h2, r⟩ := h
    exact ⟨p, q, cells, a, e1, e, hne, k p _ h1 (.inl (by rw [e]; simp)), k q _ h2 (.inl (by rw [e]; simp)), r⟩
/-- the tape of a script -/
def spTapeS (S : Sl) (K : PySem.W.Frag) : Sp := fun vs H Q _ => ∃ (p : Addr) (ns : List Int) (z : Int), vs = [.ref p, .int z] ∧ SqL K H p (ns.map V.int) ∧ 1 ≤ z ∧ z ≤ 1000 ∧ ∀ H' a fq, (∀ x o, H x = some o → H' x = some o) → S.own H' (.ref a) fq → Q (.ref a) H'
theorem law_runS {S : Sl} {K : PySem.W.Frag} {n : Nat} {t : TS} {m : Wp Bool} {Q : VK} {H : Hp} {x : Option V} {a : Addr} {fq : List Addr}
    (hs : SimB ⟨K, E0, fun _ => (.none, "")⟩ (fun r : Bool => Oc.fz (eB r)) (endC fun r : Bool => Oc.fz (eB r)) noC noC t (.un :: .tp S :: List.replicate n .un) m) (hm : m (fun b => b = true) (fun _ => False))
    (ho : S.own H (.ref a) fq) (q : ∀ H', Q (.bl true) H') : t { nx := fun _ H' => Q .non H', rt := Q } (x :: some (.ref a) :: List.replicate n none) H := by
  refine hs _ _ hm ⟨H, [], some (S, .ref a, fq), []⟩ _ exok_no (fun out v H' hp hf ht hv => ?_) (fun σ H' h => ?_) (fun σ H' h => h.elim) (fun σ H' h => h.elim) _ _ (fun _ => []) ?_
  · have e : out = true := hp
    subst e
    have e := Fz.bl_inv (b := true) hv
    subst e
    exact q H'
  · obtain ⟨out, _, hr, _⟩ := h
    cases hr
  · have key : ∀ (i : Nat) (e : Ety), (Ety.un :: .tp S :: List.replicate n .un)[i]? = some e → e = .un ∨ (i = 1 ∧ e = .tp S) := fun i e h => by
      match i, h with
      | 0, h => cases h; exact .inl rfl
      | 1, h => cases h; exact .inr ⟨rfl, rfl⟩
      | i + 2, h =>
        have h : (List.replicate n Ety.un)[i]? = some e := h
        rw [List.getElem?_replicate] at h
        split at h
        · cases h; exact .inl rfl
        · cases h
    refine ⟨by simp, fun i T h => ?_, fun i T h => ?_, fun i h => rfl, fun i j a h => (by cases h), fun i a h => (by cases h), fun i a T h _ h2 => (by cases h2), fun i K' ds h => ?_, fun i T h => ?_, fun r h => (by cases h), fun a o e => ⟨o, e, fun _ _ => rfl, fun _ => rfl⟩, fun t e => ?_⟩
    · rcases key i _ h with h | ⟨_, h⟩ <;> cases h
    · rcases key i _ h with h | ⟨rfl, h⟩
      · cases h
      · cases h
        exact ⟨_, _, rfl, rfl⟩
    · rcases key i _ h with h | ⟨_, h⟩ <;> cases h
    · rcases key i _ h with h | ⟨_, h⟩ <;> cases h
    · cases e
      exact ho
/-- the row of numbers made for the tape -/
theorem nums_use {K : PySem.W.Frag} {f : List Int → Int → Wp (List Int)} {H : Hp} {Q : VK} {E : XK} {p : Addr} {ns : List Int} {z : Int} (hs : SqL K H p (ns.map V.int)) (hf : f ns z (fun v => v ≠ [] ∧ v.length ≤ 1000 ∧ ∀ c ∈ v, 0 ≤ c) (fun _ => False))
    (h : ∀ v q H', v ≠ [] → v.length ≤ 1000 → (∀ c ∈ v, 0 ≤ c) → (∀ a o, H a = some o → H' a = some o) → H q = none → H' q = some (.lst (v.map V.int)) → Q (.ref q) H') :
    spN K (fun x : List Int × Int × Unit => [.l (List.map eI x.1), .d (eI x.2.1)]) (fun x => f x.1 x.2.1) (fun r : List Int => .nw (ls K (List.map eI r))) ([V.ref p, V.int z] ++ []) H Q E := by
  have hz : FzAll K H (ns.map V.int) (ns.map eI) := fz_span ns
  have rl : RL K (ns.map eI) ⟨H, [], none, []⟩ H H (.ref p) := by
    refine ⟨p, ns.map V.int, rfl, ?_, hz⟩
    rcases hs with hs | hs
    · exact .inl ⟨hs, fun t h => nomatch h⟩
    · exact .inr fun H' => .inr hs
  obtain ⟨R, en⟩ := args_en (K := K) (B := ⟨H, [], none, []⟩) (H0 := H) (H := H) (vs := [V.ref p, V.int z]) (as := [.l (ns.map eI), .d (eI z)]) (fun t h => nomatch h) (.cons rl (.cons (Fz.int z) .nil))
  refine ⟨(ns, z, ()), _, none, R, _, hf, en, fun out v H' hp hf ht ho => ?_⟩
  obtain ⟨fq, ⟨q, vs, rfl, efq, hq, hzq⟩, hn, _⟩ := ho
  have e := FzAll.ints (ns := out) hzq
  subst e
  refine h out q H' hp.1 hp.2.1 hp.2.2 (fun a o ea => ?_) ?_ hq
  · obtain ⟨o', e1, e2, _⟩ := hf a o ea
    rw [e2 (by simp) (fun t h => nomatch h)] at e1
    exact e1
  · rcases hn q (by rw [efq]; exact List.mem_singleton.mpr rfl) with z | z
    · exact z
    · cases z
end WL
/-! WL, part 25: comprehensions over what is read in place; written dicts of texts. -/
namespace WL
open PySem PySem.Spec PyProof.Rows L2
section
variable {C : Cn} {Γ : List Ety} {K : PySem.W.Frag} {α β γ F : Type}
/-- what a comprehension walks -/
def ItC (C : Cn) (Γ : List Ety) {α : Type} (wi : TI) (w : Wp α) (ds : α → List PyData) : Prop := ∀ (P : α → Prop) (X : Xn → Prop), w P X → ∀ B σ H fp, En B Γ σ H fp → Exok C B X →
  ∀ R : It → Hp → Prop, (∀ r J H' sup, P r → Stp B H H' → ItOk C.K B J H' (ds r) sup → R J H') → wi σ H R
theorem ItC.is {wi : TI} {w w' : Wp α} {ds : α → List PyData} (h : ItC C Γ wi w ds) (e : w = w') : ItC C Γ wi w' ds := e ▸ h
/-- a list that is read in place -/
theorem it_RL {te : TE} {w : Wp (List α)} {e : α → PyData} (h : EvG C Γ te w (fun r => RL C.K (r.map e))) : ItC C Γ (iList C.K te) w (fun r => r.map e) := fun P X hw B σ H fp en ex R q => by
  refine h P X hw B σ H fp en ex _ fun r v H1 hp s hr => ?_
  obtain ⟨p, vs, rfl, hs, hz⟩ := hr
  have hlen := hz.length
  have core : ∀ sup : List Addr, (∀ H2 : Hp, (∀ a o, H1 a = some o → (a ∈ sup ∨ still o = true) → H2 a = some o) → SqL C.K H2 p vs) → (∀ a ∈ sup, B.off a ∧ ∃ o, H1 a = some o) → ItOk C.K B (Itl C.K p) H1 (r.map e) sup := fun sup hk hsp => by
    refine ⟨hsp, fun i H2 st hi => ?_, fun i H2 st hi => ⟨vs, hk H2 st, le_beta hlen hi⟩⟩
    have stay : Stay H1 H2 := fun a o e z => st a o e (.inr z)
    have hs2 := hk H2 st
    have hi2 : i < vs.length := lt_beta hlen hi
    refine ⟨⟨vs, vs[i], hs2, List.getElem?_eq_getElem hi2⟩, fun x H3 hy => ?_⟩
    obtain ⟨rfl, hx⟩ := hy
    obtain ⟨d, hd, hf⟩ := (FzAll.stay stay hz).getV (hx vs hs2)
    exact ⟨fun _ _ e => e, d, hd, hf⟩
  rcases hs with ⟨h1, h2⟩ | hs
  · have hk : ∀ H2 : Hp, (∀ a o, H1 a = some o → (a ∈ [p] ∨ still o = true) → H2 a = some o) → SqL C.K H2 p vs := fun H2 st => by
      rcases h1 with h1 | ⟨o, h1⟩
      · exact .inl (.inl (st p _ h1 (.inl (by simp))))
      · exact .inl (.inr ⟨o, st p _ h1 (.inl (by simp))⟩)
    refine ⟨p, rfl, ⟨vs, .inl h1⟩, q r _ H1 [p] hp s (core [p] hk fun a h => ?_)⟩
    rw [List.mem_singleton.mp h]
    refine ⟨h2, ?_⟩
    rcases h1 with h1 | ⟨o, h1⟩
    · exact ⟨_, h1⟩
    · exact ⟨_, h1⟩
  · exact ⟨p, rfl, ⟨vs, hs H1⟩, q r _ H1 [] hp s (core [] (fun H2 _ => hs H2) fun a h => absurd h (by simp))⟩
theorem ev_lcC {wi : TI} {g : TG} {tt : TT} {te : TE} {vs : List Nat} {w : Wp (List α)} {e : α → PyData} {c : α → Wp Bool} {f : α → Wp β} {e' : β → PyData} {Γb : α → List Ety} (hi : ItC C Γ wi w (fun r => r.map e))
    (hg : ∀ x, TgG C.K (unA Γ vs) g vs (e x) (Γb x)) (ht : ∀ x, EvT C.nox (Γb x) tt (c x)) (hf : ∀ x, EvG C.nox (Γb x) te (f x) (fun r => RF C.K (e' r))) :
    EvG C Γ (tLc wi g tt te vs) (bnd w fun xs => lcG c f xs) (fun r => RN (ls C.K (r.map e'))) := fun P X hw B σ H fp en ex Q q => by
  refine hi _ X hw B σ H fp en ex _ fun xs J H1 sup hp s1 ok => ?_
  obtain ⟨hlen, hp⟩ := hp
  intro D hD
  have hD0 : H D = none := s1.back en.tps hD
  have offD : B.off D := s1.ts.new hD
  have hBD : B.H D = none := by
    cases z : B.H D with
    | none => rfl
    | some o =>
      obtain ⟨o', e', _⟩ := (en.step s1).fr D o z
      rw [hD] at e'; cases e'
  have nD : ∀ i, D ∉ fp i := fun i hm => by
    obtain ⟨S, hS⟩ := en.lt hm
    obtain ⟨v, _, ho⟩ := en.sl i S hS
    obtain ⟨o, eo, _⟩ := S.dom ho hm
    rw [hD0] at eo; cases eo
  have nsup : D ∉ sup := fun hm => by
    obtain ⟨_, o, eo⟩ := ok.sp D hm
    rw [hD] at eo; cases eo
  have hRD : ∀ r ∈ B.R, r.1 ≠ D := fun r hr z => rd_new ((en.step s1).rr r hr).1 (by rw [z]; exact hD)
  obtain ⟨fpw, enw, subw⟩ := (en.step s1).wiped vs
  -- the invariant: what is still to come answers
  refine ⟨fun i m H2 => m = xs.length - i ∧ i ≤ xs.length ∧ (∀ a o, H1 a = some o → B.off a → H2 a = some o) ∧ TpSt B H2 ∧ En B (unA Γ vs) (wipe σ vs) H2 fpw ∧ ∃ (acc : List V) (ys : List β), H2 D = some (.lst acc) ∧ acc.length ≤ i ∧ FzAll C.K H2 acc (ys.map e') ∧
      lcW c f (xs.drop i) (fun zs => P (ys ++ zs)) (fun _ => False), ⟨xs.length, by omega, Nat.zero_le _, fun a o ea _ => ?_, ?_, ?_, [], [], upd_same, Nat.le_refl _, .nil, hp⟩, ?_⟩
  · rw [upd_ne (ne_of_none ea hD)]
    exact ea
  · exact s1.ts.same (upd_keeps hD)
  · exact enw.step (.new s1.ts hD)
  rintro i m H2 ⟨rfl, hi', kp, ts2, en2, acc, ys, hacc, hal, hz, hlc⟩
  have kst : ∀ a o, H1 a = some o → (a ∈ sup ∨ still o = true) → H2 a = some o := fun a o ea z => by
    rcases z with z | z
    · exact kp a o ea (ok.sp a z).1
    · exact kp a o ea (s1.ts.notstill ea z)
  by_cases hlt : i < xs.length
  · obtain ⟨go, yld⟩ := ok.go i H2 kst (by rw [List.length_map]; exact hlt)
    refine .inr ⟨go, fun H' => ∃ m', m' < xs.length - i ∧ (m' = xs.length - (i + 1) ∧ i + 1 ≤ xs.length ∧ (∀ a o, H1 a = some o → B.off a → H' a = some o) ∧ TpSt B H' ∧ En B (unA Γ vs) (wipe σ vs) H' fpw ∧ ∃ (acc : List V) (ys : List β), H' D = some (.lst acc) ∧ acc.length ≤ i + 1 ∧ FzAll C.K H' acc (ys.map e') ∧
      lcW c f (xs.drop (i + 1)) (fun zs => P (ys ++ zs)) (fun _ => False)), fun H' h => h, fun x H3 hy => ?_⟩
    obtain ⟨kp3, d, hd, hx⟩ := yld x H3 hy
    have ed : d = e xs[i] := by
      rw [List.getElem?_map, List.getElem?_eq_getElem hlt] at hd
      exact (Option.some.inj hd).symm
    subst ed
    have s3 : Stp B H2 H3 := .same ts2 kp3
    have en3 := en2.step s3
    refine (hg xs[i]).run B (wipe σ vs) H3 fpw x en3 hx _ fun σ4 fp4 en4 hw4 sub4 => ?_
    have nD4 : ∀ i, D ∉ fp4 i := fun i hm => by
      obtain ⟨j, hj⟩ := sub4 D i hm
      exact nD j (subw D j hj)
    have hdrop : xs.drop i = xs[i] :: xs.drop (i + 1) := List.drop_eq_getElem_cons hlt
    rw [hdrop] at hlc
    refine ⟨?_, ?_⟩
    · refine hw4.trans ?_
      exact wipe_idem vs σ
    refine ht xs[i] _ (fun _ => False) hlc B σ4 H3 fp4 en4 exok_no _ fun b H5 hb s5 => ?_
    have en5 := en4.step s5
    have s25 := s3.trans s5
    have kp5 : ∀ a o, H1 a = some o → B.off a → H5 a = some o := fun a o ea na => s25.kp a o (kp a o ea na) na
    cases b with
    | true =>
      refine iteT ?_
      refine hf xs[i] _ (fun _ => False) hb B σ4 H5 fp4 en5 exok_no _ fun y v H6 hy6 s6 r6 => ?_
      have en6 := en5.step s6
      have s26 := s25.trans s6
      have hD6 : H6 D = some (.lst acc) := s26.kp D _ hacc offD
      have hz6 := hz.stay (s26.stay ts2)
      have enw6 : En B (unA Γ vs) (wipe σ vs) H6 fpw := en2.step s26
      have stE : Stay H6 (upd H6 D (.lst (acc ++ [v]))) := fun a o ea z => by
        have : a ≠ D := by
          rintro rfl
          rw [hD6] at ea; cases ea; cases z
        rw [upd_ne this]
        exact ea
      have eny := enw6.side (o' := .lst (acc ++ [v])) hD6 rfl (fun i hm => nD i (subw D i hm)) offD hBD hRD
      refine ⟨acc, hD6, lc_list_room _ (by omega), xs.length - (i + 1), by omega, rfl, hlt, fun a o ea na => ?_, eny.tps, eny, acc ++ [v], ys ++ [y], upd_same, ?_, ?_, ?_⟩
      · have : a ≠ D := by
          rintro rfl
          rw [hD] at ea; cases ea
        rw [upd_ne this]
        exact s6.kp a o (kp5 a o ea na) na
      · rw [List.length_append, List.length_singleton]
        omega
      · rw [List.map_append]
        exact (hz6.stay stE).append (.one (Fz.stay stE r6))
      · have : (fun zs => P (ys ++ [y] ++ zs)) = fun zs => P (ys ++ y :: zs) := by
          funext zs
          rw [List.append_assoc]
          rfl
        rw [this]
        exact hy6
    | false =>
      refine iteF ?_
      exact ⟨xs.length - (i + 1), by omega, rfl, hlt, kp5, s5.ts, en2.step s25, acc, ys, s25.kp D _ hacc offD, by omega, hz.stay (s25.stay ts2), hb⟩
  · have ei : i = xs.length := by omega
    subst ei
    rw [List.drop_length] at hlc
    refine .inl ⟨ok.stop _ H2 kst (by rw [List.length_map]; exact Nat.le_refl _), ?_⟩
    have hP : P (ys ++ []) := hlc
    rw [List.append_nil] at hP
    refine q ys (.ref D) H2 hP ⟨fun a o ea na => kp a o (s1.kp a o ea na) na, ts2⟩ ⟨[D], ⟨D, acc, rfl, rfl, hacc, hz⟩, fun a ha => ?_⟩
    rw [List.mem_singleton.mp ha]
    exact hD0

end
/-! ### written dicts of texts -/
/-- at d: a written dict, texts to ints -/
def KD (K : PySem.W.Frag) (w : World) (d : Addr) (kvs : List (Str × Int)) : Prop := ∃ es n, KDict K w d es n ∧ ∀ z, match kvs.lookup z with
  | some i => ∃ t, PySem.W.nsIn K d z = some (some (.int i t))
  | none => PySem.W.nsIn K d z = some none
section
variable {X : Cx} {C : Cn} {Γ : List Ety} {K : PySem.W.Frag} {d : Addr} {kvs : List (Str × Int)}
theorem op_inKD (hK : X.K = K) (D : KD K X.w d kvs) : OpR X (compareOp .In) (fun x y H Q => ∃ z, x = .str z ∧ y = .ref d ∧ Q (.bl (kvs.lookup z).isSome) H) := by
  subst hK
  obtain ⟨es, n, D, hz⟩ := D
  intro pins s σ H x y v u Q I rx ry h
  obtain ⟨z, rfl, rfl, q⟩ := h
  have := hz z
  cases e : kvs.lookup z with
  | none =>
    rw [e] at this q
    exact op_in_kd D pins s σ H _ _ v u Q I rx ry ⟨z, none, rfl, rfl, this, q⟩
  | some i =>
    rw [e] at this q
    obtain ⟨t, ht⟩ := this
    exact op_in_kd D pins s σ H _ _ v u Q I rx ry ⟨z, _, rfl, rfl, ht, q⟩
theorem op_niKD (hK : X.K = K) (D : KD K X.w d kvs) : OpR X (compareOp .NotIn) (fun x y H Q => ∃ z, x = .str z ∧ y = .ref d ∧ Q (.bl (!(kvs.lookup z).isSome)) H) := by
  subst hK
  obtain ⟨es, n, D, hz⟩ := D
  intro pins s σ H x y v u Q I rx ry h
  obtain ⟨z, rfl, rfl, q⟩ := h
  have := hz z
  cases e : kvs.lookup z with
  | none =>
    rw [e] at this q
    exact op_notIn_kd D pins s σ H _ _ v u Q I rx ry ⟨z, none, rfl, rfl, this, q⟩
  | some i =>
    rw [e] at this q
    obtain ⟨t, ht⟩ := this
    exact op_notIn_kd D pins s σ H _ _ v u Q I rx ry ⟨z, _, rfl, rfl, ht, q⟩
theorem ix_KD (hK : X.K = K) (D : KD K X.w d kvs) : IxR X (fun x y H Q => ∃ z i, x = .ref d ∧ y = .str z ∧ kvs.lookup z = some i ∧ Q (.int i) H) := by
  subst hK
  obtain ⟨es, n, D, hz⟩ := D
  intro value slice pins s σ H x y v u Q I rx ry h hs
  obtain ⟨z, i, rfl, rfl, e, q⟩ := h
  have := hz z
  rw [e] at this
  obtain ⟨t, ht⟩ := this
  exact ix_kdict value slice pins s σ H _ _ v u Q I rx ry ⟨d, z, .int i, rfl, rfl, ⟨es, n, _, D.at_, D.lit, ht, ⟨t, rfl⟩⟩, q⟩ hs
theorem ev_kdin {te : TE} {w : Wp Str} (h : EvG C Γ te w (fun r => RF C.K (eS r))) : EvG C Γ (tOp (fun x y H Q => ∃ z, x = .str z ∧ y = .ref d ∧ Q (.bl (kvs.lookup z).isSome) H) te (tC (.ref d))) (bnd w fun z => ret (kvs.lookup z).isSome) (fun r => RF C.K (eB r)) := fun P Y hw B σ H fp en ex Q q =>
  h _ Y hw B σ H fp en ex _ fun z v H' hp s hv => ⟨z, Fz.str_inv hv, rfl, q _ _ H' hp s (.bl _)⟩
theorem ev_kdni {te : TE} {w : Wp Str} (h : EvG C Γ te w (fun r => RF C.K (eS r))) : EvG C Γ (tOp (fun x y H Q => ∃ z, x = .str z ∧ y = .ref d ∧ Q (.bl (!(kvs.lookup z).isSome)) H) te (tC (.ref d))) (bnd w fun z => ret (!(kvs.lookup z).isSome)) (fun r => RF C.K (eB r)) := fun P Y hw B σ H fp en ex Q q =>
  h _ Y hw B σ H fp en ex _ fun z v H' hp s hv => ⟨z, Fz.str_inv hv, rfl, q _ _ H' hp s (.bl _)⟩
theorem ev_kdget {te : TE} {w : Wp Str} (h : EvG C Γ te w (fun r => RF C.K (eS r))) : EvG C Γ (tOp (fun x y H Q => ∃ z i, x = .ref d ∧ y = .str z ∧ kvs.lookup z = some i ∧ Q (.int i) H) (tC (.ref d)) te) (bnd w fun z => opt (kvs.lookup z)) (fun r => RF C.K (eI r)) := fun P Y hw B σ H fp en ex Q q =>
  h _ Y hw B σ H fp en ex _ fun z v H' ⟨i, hi, hp⟩ s hv => ⟨z, i, rfl, Fz.str_inv hv, hi, q _ _ H' hp s (.int _)⟩
end
/-- three entries -/
theorem KD.of3 {K : PySem.W.Frag} {w : World} {d : Addr} {h1 h2 h3 : Int} {k1 k2 k3 : Str} {t1 t2 t3 u1 u2 u3 : Tok} {v1 v2 v3 : Int} {n : Nat} (hl : K.lookup d = some ⟨.type "dict", none, .dict #[⟨h1, .str k1 t1, .int v1 u1⟩, ⟨h2, .str k2 t2, .int v2 u2⟩, ⟨h3, .str k3 t3, .int v3 u3⟩] n, #[]⟩)
    (e1 : h1 = PyData.keyHash w.params k1) (e2 : h2 = PyData.keyHash w.params k2) (e3 : h3 = PyData.keyHash w.params k3) (hd : (d == sysModules) = false) : KD K w d [(k1, v1), (k2, v2), (k3, v3)] := by
  refine ⟨_, _, ⟨hl, ⟨⟨k1, t1, rfl, e1⟩, ⟨k2, t2, rfl, e2⟩, ⟨k3, t3, rfl, e3⟩, trivial⟩, hd⟩, fun z => ?_⟩
  have key : PySem.W.nsIn K d z = if z = k1 then some (some (.int v1 u1)) else if z = k2 then some (some (.int v2 u2)) else if z = k3 then some (some (.int v3 u3)) else some none := by
    unfold PySem.W.nsIn
    rw [hl]
    have s1 : ∀ (x : Str) (t : Tok), (Value.str x t).isStr z = (x == z) := fun x t => rfl
    by_cases q1 : z = k1
    · subst q1
      simp [s1]
    · have r1 : (k1 == z) = false := beq_eq_false_iff_ne.mpr (fun h => q1 h.symm)
      by_cases q2 : z = k2
      · subst q2
        simp [s1, q1, r1]
      · have r2 : (k2 == z) = false := beq_eq_false_iff_ne.mpr (fun h => q2 h.symm)
        by_cases q3 : z = k3
        · subst q3
          simp [s1, q1, q2, r1, r2]
        · have r3 : (k3 == z) = false := beq_eq_false_iff_ne.mpr (fun h => q3 h.symm)
          simp [s1, q1, q2, q3, r1, r2, r3, DictEntry.refKey]
  rw [key]
  by_cases q1 : z = k1
  · subst q1
    simp [List.lookup]
  · have r1 : (z == k1) = false := beq_eq_false_iff_ne.mpr q1
    by_cases q2 : z = k2
    · subst q2
      simp [List.lookup, r1, q1]
    · have r2 : (z == k2) = false := beq_eq_false_iff_ne.mpr q2
      by_cases q3 : z = k3
      · subst q3
        simp [List.lookup, r1, r2, q1, q2]
      · have r3 : (z == k3) = false := beq_eq_false_iff_ne.mpr q3
        simp [List.lookup, r1, r2, r3, q1, q2, q3]
end WL
/-! WL, part 26: str(n). -/
namespace WL
open PySem PySem.Spec PyProof.Rows L2
section
variable {C : Cn} {Γ : List Ety} {K : PySem.W.Frag} {α β γ F : Type}
/-- the text of an int -/
def strI (i : Int) : Str := toString i
theorem c_str (n : Int) : CaG C (fun xs H Q => ∃ i : Int, xs = [.int i] ∧ i.natAbs.log2 < 1920 ∧ Q (.str (toString i)) H) [RF C.K (eI n)] (grd (n.natAbs.log2 < 1920) (ret (strI n))) (fun r => RF C.K (eS r)) := fun P X ⟨hl, hw⟩ B H0 H vs t0 ts hb h Q q => by
  cases h with
  | cons h1 h2 =>
    cases h2
    exact ⟨n, by rw [Fz.int_inv (n := n) h1], hl, q (strI n) _ H hw (.refl ts) (.str _)⟩
end
end WL
/-! WL, part 27: tuples sorted, turned; sorted(set(t)). -/
namespace HT
open PySem PyProof.Rows
section
open PySem.SeqAt
open PySem.AutoSeq1 (wpAny_loadPart')
open PySem.MeetsSeq PySem.MeetsSeq2 PySem.MeetsSeq3
variable {prog : Program} {w : World} {A : Around} {E : Value → Shared → Prop} {s : Shared}
theorem places_rev (n : Nat) : Builtin.Slice.slicePlaces ((n : Int) - 1) (-1) (-1) = n := by
  unfold Builtin.Slice.slicePlaces
  have h1 : ¬ ((-1 : Int) > 0) := by omega
  have e : (-(-1) : Int) = 1 := rfl
  simp only [h1, if_false, e, Int.ediv_one]
  split <;> omega
theorem sliceApplied_rev {sl : Addr} {vs : Value} {n : Nat} {Q : Int × Int × Nat → Shared → Prop} (hs : s.heap.IsSliceOf sl .none .none vs) (ps : IsPart vs (some (-1)))
    (h : Q ((n : Int) - 1, -1, n) s) : wpAny (model prog w) A (Builtin.Slice.sliceApplied (.ref sl) (pure (n : Int))) Q E s := by
  obtain ⟨os, hos, hcs, hds⟩ := id hs
  unfold Builtin.Slice.sliceApplied Builtin.Slice.sliceFields
  refine wpAny_bind (wpAny_bind (wpAny_field hos hds (x := .none) rfl (wpAny_bind (wpAny_field hos hds (x := .none) rfl (wpAny_bind (wpAny_field hos hds (x := vs) rfl (wpAny_pure ?_)))))))
  refine wpAny_bind (slicePart_ ps ?_)
  show wpAny _ _ (if ((-1 : Int) == 0) = true then _ else _) _ _ s
  rw [if_neg (by decide)]
  refine wpAny_bind (slicePart_none (wpAny_bind (slicePart_none (wpAny_bind (wpAny_pure ?_)))))
  show wpAny _ _ (pure ((n : Int) - 1, (-1 : Int), Builtin.Slice.slicePlaces ((n : Int) - 1) (-1) (-1))) _ _ s
  rw [places_rev]
  exact wpAny_pure h
theorem fm_map {α β : Type} {f : α → Option β} {g : α → β} : ∀ {l : List α}, (∀ m ∈ l, f m = some (g m)) → l.filterMap f = l.map g
  | [], _ => rfl
  | a :: l, h => by
    rw [List.filterMap_cons, h a List.mem_cons_self, List.map_cons, fm_map fun m hm => h m (List.mem_cons_of_mem _ hm)]
theorem pick_rev (xs : Array Value) : ((List.range xs.size).filterMap fun (m : Nat) => xs[((xs.size : Int) - 1 + (m : Int) * (-1)).toNat]?).toArray = xs.toList.reverse.toArray := by
  congr 1
  have e : ∀ l : List Value, (List.range l.length).filterMap (fun (m : Nat) => l[((l.length : Int) - 1 + (m : Int) * (-1)).toNat]?) = l.reverse := by
    intro l
    refine List.ext_getElem? fun i => ?_
    have h1 : (List.range l.length).filterMap (fun (m : Nat) => l[((l.length : Int) - 1 + (m : Int) * (-1)).toNat]?) = (List.range l.length).map (fun m => l.getD (l.length - 1 - m) .none) := by
      refine fm_map fun m hm => ?_
      have hm := List.mem_range.mp hm
      have e1 : ((l.length : Int) - 1 + (m : Int) * (-1)).toNat = l.length - 1 - m := by omega
      rw [e1, List.getElem?_eq_getElem (by omega)]
      rw [List.getD_eq_getElem?_getD, List.getElem?_eq_getElem (by omega)]
      rfl
    rw [h1, List.getElem?_map]
    by_cases hi : i < l.length
    · rw [List.getElem?_range hi, List.getElem?_reverse hi]
      show some (l.getD (l.length - 1 - i) .none) = _
      rw [List.getD_eq_getElem?_getD, List.getElem?_eq_getElem (by omega)]
      rfl
    · rw [List.getElem?_eq_none (by rw [List.length_range]; omega), List.getElem?_eq_none (by rw [List.length_reverse]; omega)]
      rfl
  have := e xs.toList
  rw [Array.length_toList] at this
  rw [← this]
  congr 1
  funext m
  rw [Array.getElem?_toList]
theorem getItem_tuple_rev {t sl : Addr} {items : Array Value} {vs : Value} {Q : Value → Shared → Prop} (ht : IsTup s.heap t items) (hs : s.heap.IsSliceOf sl .none .none vs) (ps : IsPart vs (some (-1)))
    (h : Q (.ref s.heap.objs.size) { s with heap := s.heap.push { cls := .type "tuple", data := .seq items.toList.reverse.toArray } })
    (hsz : items.size ≤ sizeLine) : wpAny (model prog w) A (getItem (.ref t) (.ref sl)) Q E s := by
  have htake : sizeOk (.seq items.toList.reverse.toArray) := by
    show items.toList.reverse.toArray.size ≤ sizeLine
    rw [List.size_toArray, List.length_reverse, Array.length_toList]
    exact hsz
  obtain ⟨os, hos, hcs, hds⟩ := id hs
  have hTs : s.TypeIs (.ref sl) "slice" := ⟨os, hos, hcs⟩
  unfold getItem
  try with_reducible refine wpAny_holding ?_
  first | refine wpAny_bind (wpAny_pure ?_) | skip
  refine wpAny_bind (wpAny_sequenceKey ht.typeIs (by decide) ?_)
  refine wpAny_bind (wpAny_callSpecial?_slot (name := Str.ofString "__getitem__") ht.typeIs PyProof.Rows.slot_tuple_getitem
    (wpAny_call_entry PyProof.Rows.slot_tuple_getitem ht.typeIs entry_tuple_getitem ?_ (args_tuple_getitem _ _)))
  show wpAny _ _ (Builtin.Tuple.tupleItemsOf (.ref t) >>= _) _ _ s
  refine wpAny_bind (tupleItemsOf_ ht ?_)
  refine wpAny_bind (wpAny_typeOf hTs ?_)
  rw [if_pos (by decide)]
  refine wpAny_bind (sliceApplied_rev hs ps ?_)
  have hno : ¬ ((((items.size : Int) - 1) == 0 && (-1 : Int) == 1 && items.size == items.size) = true) := by
    intro q
    rw [Bool.and_eq_true, Bool.and_eq_true] at q
    exact absurd q.1.2 (by decide)
  show wpAny _ _ (if (((items.size : Int) - 1) == 0 && (-1 : Int) == 1 && items.size == items.size) = true then _ else _) _ _ s
  rw [if_neg hno, pick_rev]
  first
    | exact wpAny_bind (m := Builtin.Tuple.tupleExact _) (wpAny_newObj_type (wpAny_pure ⟨_, rfl, wpAny_pure h⟩) htake)
    | exact wpAny_bind (m := Builtin.Tuple.tupleExact _) (wpAny_newObj_type (wpAny_bind (wpAny_pure (wpAny_pure ⟨_, rfl, wpAny_pure h⟩))) htake)
    | exact wpAny_bind (wpAny_bind (m := Builtin.Tuple.tupleExact _) (wpAny_newObj_type (wpAny_pure (wpAny_pure ⟨_, rfl, wpAny_pure h⟩)) htake))
    | exact wpAny_bind (wpAny_bind (m := Builtin.Tuple.tupleExact _) (wpAny_newObj_type (wpAny_pure ⟨_, rfl, wpAny_pure h⟩) htake))
end
end HT
namespace WL
open PySem PySem.Spec PyProof.Rows L2
/-! ### t[::-1] -/
def tRevT (K : PySem.W.Frag) (te : TE) : TE := fun σ H Q => te σ H fun x H1 => ∃ a xs, x = .ref a ∧ SqT K H1 a xs ∧ ∀ p, H1 p = none → Q (.ref p) (upd H1 p (.tup xs.reverse))
section
variable {X : Cx} {K : PySem.W.Frag}
theorem pe_revT (hK : X.K = K) {e : Expr} {te : TE} {k : Nat} {p1 p2 p3 pos : Pos} (he : PE X e te) : PE X (.Subscript e (.Slice none none (some (.UnaryOp .USub (.Constant (.int 1) k p1) p2)) p3) pos) (tRevT K te) := by
  subst hK
  refine ⟨fun pins s σ H Q I h => ?_⟩
  refine Subscript_ (thn (he.run pins s σ H _ I h) fun v s1 ⟨x, H1, I1, r1, q1⟩ => ?_)
  obtain ⟨a, xs, ex, hx, q⟩ := q1
  subst ex
  cases r1
  have hst : PO X (some (.UnaryOp .USub (.Constant (.int 1) k p1) p2)) (tPart (tUn (rU fun i => .int (-i)) (tC (.int 1)))) := po_some (pe_un un_neg pe_int)
  refine wpAny_Slice (thn (po_none.run pins s1 σ H1 (fun o H2 => o = none ∧ H2 = H1) I1 ⟨rfl, rfl⟩) fun vl s2 ⟨l, H2, I2, pl, el, e2⟩ => ?_)
  subst el e2
  refine thn (po_none.run pins s2 σ H2 (fun o H3 => o = none ∧ H3 = H2) I2 ⟨rfl, rfl⟩) fun vu s3 ⟨u, H3, I3, pu, eu, e3⟩ => ?_
  subst eu e3
  refine thn (hst.run pins s3 σ H3 (fun o H4 => o = some (-1) ∧ H4 = H3) I3 ⟨1, rfl, -1, rfl, rfl, rfl⟩) fun vs s4 ⟨o, H4, I4, ps, eo, e4⟩ => ?_
  subst eo e4
  cases pl
  cases pu
  have I5 : Inv X pins σ H4 { s4 with heap := s4.heap.push { cls := .type "slice", data := .fields #[.none, .none, vs] } } := I4.kept (t' := s4.toks) fun b ob q => Heap.get?_push_of_some _ q
  obtain ⟨its, r, ht, hz⟩ := I5.tuple hx
  have hlen := r.length
  show wpAny (model X.prog X.w) X.A (subscriptTail e (.Slice none none (some (.UnaryOp .USub (.Constant (.int 1) k p1) p2)) p3) (.ref a) (.ref s4.heap.objs.size)) (EP X pins σ Q) X.xe { s4 with heap := s4.heap.push { cls := .type "slice", data := .fields #[.none, .none, vs] } }
  refine tail_any (ops := [.ref a, .ref s4.heap.objs.size]) ht.typeIs (PyProof.Rows.slot_tuple_getitem.lookup) ?_ (by with_unfolding_all rfl)
  refine HT.getItem_tuple_rev ht (Heap.IsSliceOf.new _ .none .none vs) ps ?_ (by rw [List.size_toArray, ← hlen]; exact hz)
  refine ⟨.ref _, _, I5.laid (t' := s4.toks) (o := .tup xs.reverse) (fun b ob q => Heap.get?_push_of_some _ q) (Nat.le_refl _) ?_, rfl, q _ (I5.hok.fresh (Nat.le_refl _))⟩
  exact ⟨by rw [List.length_reverse]; exact hz, _, r.reverse, IsTup.new _ _⟩
end
section
variable {C : Cn} {Γ : List Ety} {K : PySem.W.Frag} {α β γ F : Type}
theorem ev_revT {te : TE} {w : Wp (List α)} {e : α → PyData} (h : EvG C Γ te w (fun r => RF C.K (eT e r))) : EvG C Γ (tRevT C.K te) (bnd w fun xs => ret xs.reverse) (fun r => RF C.K (eT e r)) := fun P X hw B σ H fp en ex Q q => by
  refine h _ X hw B σ H fp en ex _ fun xs v H1 h1 s1 hv => ?_
  obtain ⟨a, vs, rfl, hs, hz⟩ := Fz.tup_inv hv
  refine ⟨a, vs, rfl, hs, fun p hp => ?_⟩
  have s2 : Stp B H1 (upd H1 p (.tup vs.reverse)) := .new s1.ts hp
  refine q _ _ _ h1 (s1.trans s2) (.tup (.inl (.inl upd_same)) ?_)
  rw [List.map_reverse]
  exact hz.reverse.stay (s2.stay s1.ts)
end
/-! ### sorted(t), a tuple of ints -/
section
variable {P : Program} {w : World} {A : Around} {E : Value → Shared → Prop} {s : Shared}
theorem collect_tup {l : Addr} {vs : List Value} {Q : List Value → Shared → Prop} (hl : IsTup s.heap l vs.toArray)
    (h : Q vs { s with heap := (s.heap.push (seqObj "list" #[] 0)).update s.heap.objs.size (Obj.mapSeq (· ++ vs.toArray)) }) (hsz : vs.length ≤ sizeLine) :
    wpAny (model P w) A (collect (.ref l)) Q E s := by
  obtain ⟨o, ho, hc, n, hd⟩ := id hl
  unfold collect
  refine wpAny_bind (wpAny_runValue (codeAny_builtin entry_proto_collect' ?_))
  show wpAny _ _ (do again (.builtin "list.__iadd__" ⟨[← newList [], .ref l], []⟩)) _ _ s
  refine wpAny_bind (wpAny_newList (wpAny_pure ⟨Code.quiet_builtin _ (by decide +kernel), codeAny_builtin entry_list_iadd' ?_⟩))
  show wpAny _ _ (Builtin.List.listExtendWith (.ref s.heap.objs.size) (.ref l) (.ref s.heap.objs.size)) _ _ { s with heap := s.heap.push (seqObj "list" #[] 0) }
  unfold Builtin.List.listExtendWith
  have ho' : (s.heap.push (seqObj "list" #[] 0)).get? l = some o := Heap.get?_push_of_some _ ho
  refine wpAny_bind (wpAny_typeOf (T := "tuple") ⟨o, ho', hc⟩ ?_)
  rw [if_pos (by rw [show (Value.type "tuple" == Value.type "tuple") = true from rfl, Bool.or_true])]
  refine wpAny_bind (listItems_at ho' hd ?_)
  refine wpAny_bind (listItems_at (xs := #[]) (n := 0) (Heap.get?_push_size _ rfl) rfl ?_)
  rw [if_neg (by simp)]
  refine wpAny_bind (listUpdate_at (xs := #[]) (n := 0) (Heap.get?_push_size _ rfl) rfl ?_ (Nat.zero_le _) (by show (#[] ++ vs.toArray).size ≤ sizeLine + 1; simp only [Array.size_append, List.size_toArray, List.length_nil]; omega))
  refine wpAny_pure ?_
  show wpAny (model P w) A (do
      let o ← load s.heap.objs.size
      match o.data with
      | .seq xs _ => pure xs.toList
      | _ => unsupported "internal:collect") Q E { s with heap := (s.heap.push (seqObj "list" #[] 0)).update s.heap.objs.size (Obj.mapSeq (· ++ vs.toArray)) }
  refine wpAny_bind (wpAny_load (get?_update_seq (Heap.get?_push_size _ rfl) _) ?_)
  show wpAny _ _ (pure ((#[] : Array Value) ++ vs.toArray).toList) Q E _
  rw [show ((#[] : Array Value) ++ vs.toArray).toList = vs by simp]
  exact wpAny_pure h
theorem sorted_tupI {a : Addr} {items : List Value} {ns : List Int} {Q : Value → Shared → Prop} (hl : IsTup s.heap a items.toArray) (hi : IntsAre items ns) (h64 : items.length < 64)
    (hQ : ∀ h' p (out : Array Value) (c : Nat) (ns' : List Int), (∀ b o, s.heap.get? b = some o → h'.get? b = some o) → s.heap.objs.size ≤ p → h'.get? p = some (seqObj "list" out c) → IntsAre out.toList ns' → ns'.Perm ns → ns'.Pairwise (· ≤ ·) → Q (.ref p) { s with heap := h' }) :
    wpAny (model P w) A (call (.builtin "sorted") [.ref a]) Q E s := by
  obtain ⟨o, ho, hc, n, hd⟩ := id hl
  refine Calls.call_function_entry kind_sorted plain_sorted entry_sorted (args_sorted1 _) ?_
  unfold Builtin.«sorted»
  refine wpAny_bind (m := checkCount "sorted" 1 1 _) (wpAny_pure ?_)
  refine wpAny_bind (collect_tup hl ?_ (by rw [sizeLine_eq]; omega))
  have k1 : ∀ b o, s.heap.get? b = some o → ((s.heap.push (seqObj "list" #[] 0)).update s.heap.objs.size (Obj.mapSeq (· ++ items.toArray))).get? b = some o := fun b o e => by
    rw [Heap.get?_update_ne _ _ _ _ (Nat.ne_of_lt (Heap.lt_size e))]
    exact Heap.get?_push_of_some _ e
  have hz : s.heap.objs.size ≤ ((s.heap.push (seqObj "list" #[] 0)).update s.heap.objs.size (Obj.mapSeq (· ++ items.toArray))).objs.size := by
    rw [Heap.size_update, size_push']
    omega
  generalize ((s.heap.push (seqObj "list" #[] 0)).update s.heap.objs.size (Obj.mapSeq (· ++ items.toArray))) = h1 at k1 hz
  refine wpAny_bind (wpAny_newList ?_ (by rw [sizeLine_eq]; omega))
  have hoL : (h1.push (seqObj "list" items.toArray 0)).get? h1.objs.size = some (seqObj "list" items.toArray 0) := Heap.get?_push_size _ rfl
  refine wpAny_bind (wpAny_holding (wpAny_call_entry slot_list_sort ⟨_, hoL, rfl⟩ entry_list_sort (list_sort_tree hoL hi h64 fun out ns' a1 a2 a3 => ⟨_, rfl, ?_⟩) (args_list_sort _)))
  obtain ⟨c, hcc⟩ := sortedHeap_at (vs := items) (out := out) hoL
  refine wpAny_pure ⟨_, rfl, hQ _ h1.objs.size out c ns' (fun b u e => ?_) hz hcc a1 a2 a3⟩
  have q := k1 b u e
  have hlt := Heap.lt_size q
  show (sortedHeap (h1.push (seqObj "list" items.toArray 0)) h1.objs.size items out).get? b = some u
  rw [sortedHeap_old (Nat.ne_of_lt hlt) (by rw [size_push']; exact Nat.lt_succ_of_lt hlt)]
  exact Heap.get?_push_of_some _ q
end
def rSortTI (K : PySem.W.Frag) : List V → Hp → VK → Prop := fun vs H Q => ∃ (a : Addr) (ns : List Int), vs = [V.ref a] ∧ SqT K H a (ns.map V.int) ∧ ns.length < 64 ∧
  ∀ (ns' : List Int) (p : Addr), ns'.Perm ns → ns'.Pairwise (· ≤ ·) → H p = none → Q (.ref p) (upd H p (.lst (ns'.map V.int)))
section
variable {X : Cx} {K : PySem.W.Frag}
theorem cr_sortTI (hK : X.K = K) : CallR X (.builtin "sorted") (rSortTI K) := by
  subst hK
  intro pins s σ H vs us Q I r h
  obtain ⟨a, ns, rfl, ha, h64, q⟩ := h
  obtain ⟨its, rv, pt, hz⟩ := I.tuple ha
  have hi := ints_of_vals rv
  rw [Vals.ref1 r]
  refine sorted_tupI pt hi (by rw [hi.length]; exact h64) fun h' p out c ns' k hp hg h1 h2 h3 => ?_
  have hlen : (ns'.map V.int).length ≤ sizeLine := by rw [List.length_map, h2.length_eq]; exact small64 h64
  exact ⟨.ref p, _, I.laid (t' := s.toks) (o := .lst (ns'.map V.int)) k hp ⟨hlen, out.toList, c, vals_of_ints h1, hg⟩, rfl, q ns' p h2 h3 (I.hok.fresh hp)⟩
/-! ### sorted(set(t)) -/
def tSortSet (K : PySem.W.Frag) (ta : TE) : TE := fun σ H Q => ta σ H fun x H1 => ∃ (l : Addr) (ns : List Int), x = .ref l ∧ SqT K H1 l (ns.map V.int) ∧ ns.length < 64 ∧
  ∀ (ns' : List Int) (p : Addr), ns'.Pairwise (· < ·) → (∀ k : Int, k ∈ ns' ↔ k ∈ ns) → H1 p = none → Q (.ref p) (upd H1 p (.lst (ns'.map V.int)))
theorem pe_sortSet {a : Expr} {ta : TE} {p p2 q pos : Pos} (hK : X.K = K) (hg : Gl X "sorted") (hm : X.mg "sorted" = none) (hg2 : Gl X "set") (hm2 : X.mg "set" = none) (ha : PE X a ta) (hc : X.calm = true := by rfl)
    (na : starEach [a] X.env = (false, eval a X.env) :: starEach [] X.env := by rfl) : PE X (.Call (.Name "sorted" p) [.Call (.Name "set" p2) [a] [] q] [] pos) (tSortSet K ta) := by
  subst hK
  refine ⟨fun pins s σ H Q I h => ?_⟩
  refine Call_ (ld_blt I hg hm PyProof.Rows.boot_sorted ?_)
  refine PyProof.Rows.callWith_builtin1 (PyProof.Rows.args_cons ?_ rfl) rfl rfl
  refine Call_ (ld_blt I hg2 hm2 boot_set ?_)
  refine PyProof.Rows.callWith_type1 (PyProof.Rows.args_cons (thn (ha.run pins s σ H _ I h) fun v s1 ⟨x, H1, I1, r1, q1⟩ => PyProof.Rows.args_nil ?_) na) na rfl
  obtain ⟨l, ns, rfl, hq, hl, q1⟩ := q1
  cases r1
  obtain ⟨its, rv, pt, hz⟩ := I1.tuple hq
  have hi : IntsAre its.toArray.toList ns := ints_of_vals rv
  have hd := I1.ok.hd hc
  refine call_set_tupI ns hd (show s1.heap.IsTuple l its.toArray from pt) hi (by unfold scanBound; omega) fun h' tk c R hcn k => ?_
  refine PyProof.Rows.args_nil ?_
  have I2 : Inv X pins σ H1 { s1 with heap := h', toks := tk } := I1.kept fun b o e => k b o e
  refine sorted_set R hd (by omega) fun s' p out c2 ns' k2 g o hp hgp h1 h2 h3 h4 => ?_
  have hlen : (ns'.map V.int).length ≤ sizeLine := by rw [List.length_map, h4, sizeLine_eq]; omega
  have hn : H1 p = none := I2.hok.fresh hp
  have J : Inv X pins σ (upd H1 p (.lst (ns'.map V.int))) ({ ({ s1 with heap := h', toks := tk } : Shared) with heap := s'.heap, gens := s'.gens, drawn := s'.drawn, toks := s'.toks } : Shared) :=
    I2.call (ch := []) (Un.laid k2 hp hn) (I2.hok.laid k2 hp ⟨hlen, out.toList, c2, vals_of_ints h1, hgp⟩) (by rw [g]; exact I2.bare) (fun _ z => nomatch z)
  have e : s' = ({ ({ s1 with heap := h', toks := tk } : Shared) with heap := s'.heap, gens := s'.gens, drawn := s'.drawn, toks := s'.toks } : Shared) := by
    cases s'
    cases s1
    cases o
    rfl
  rw [e]
  exact ⟨.ref p, _, J, rfl, q1 ns' p h2 (fun j => by rw [h3, decide_eq_true_eq]) hn⟩
end
section
variable {C : Cn} {Γ : List Ety} {K : PySem.W.Frag} {α β γ F : Type}
theorem ints_tup {H : Hp} {p : Addr} {vs : List V} {ns : List Int} (hs : SqT K H p vs) (hz : FzAll K H vs (ns.map eI)) : SqT K H p (ns.map V.int) := by
  have e := FzAll.ints (ns := ns) hz
  rw [← e]
  exact hs
theorem fz_ints {H : Hp} : ∀ ns : List Int, FzAll K H (ns.map V.int) (ns.map eI)
  | [] => .nil
  | n :: ns => .cons (.int n) (fz_ints ns)
theorem c_sortTI (ns : List Int) : CaG C (rSortTI C.K) [RF C.K (eT eI ns)] (grd (ns.length < 64) (anyW fun ys : List Int => ys.Perm ns ∧ ys.Pairwise (· ≤ ·))) (fun r => RN (ls C.K (r.map eI))) := fun P X ⟨hl, hw⟩ B H0 H vs t0 ts hb h Q q => by
  cases h with
  | cons h1 h2 =>
    cases h2
    obtain ⟨p, ws, rfl, hs, hz⟩ := Fz.tup_inv h1
    refine ⟨p, ns, rfl, ints_tup hs hz, hl, fun ys l y1 y2 hl => ?_⟩
    have s : Stp B H (upd H l (.lst (ys.map V.int))) := .new ts hl
    exact q ys _ _ (hw ys ⟨y1, y2⟩) s ⟨[l], ⟨l, _, rfl, rfl, upd_same, fz_ints ys⟩, fun a ha => by rw [List.mem_singleton.mp ha]; exact hb l hl⟩
theorem ev_sortSet {ta : TE} {w : Wp (List Int)} (h : EvG C Γ ta w (fun r => RF C.K (eT eI r))) : EvG C Γ (tSortSet C.K ta) (bnd w fun xs => grd (xs.length < 64) (anyW fun ys : List Int => ys.Pairwise (· < ·) ∧ ∀ k, k ∈ ys ↔ k ∈ xs)) (fun r => RN (ls C.K (r.map eI))) := fun P X hw B σ H fp en ex Q q => by
  refine h _ X hw B σ H fp en ex _ fun xs v H1 ⟨h1, h2⟩ s1 hv => ?_
  obtain ⟨a, vs, rfl, hs, hz⟩ := Fz.tup_inv hv
  refine ⟨a, xs, rfl, ints_tup hs hz, h1, fun ys l y1 y2 hl => ?_⟩
  have s2 : Stp B H1 (upd H1 l (.lst (ys.map V.int))) := .new s1.ts hl
  exact q ys _ _ (h2 ys ⟨y1, y2⟩) (s1.trans s2) ⟨[l], ⟨l, _, rfl, rfl, upd_same, fz_ints ys⟩, fun b hb => by rw [List.mem_singleton.mp hb]; exact s1.back en.tps hl⟩
end
end WL
/-! WL, part 28: a written dict of texts of the def's own. -/
namespace WL
open PySem PySem.Spec PyProof.Rows L2
def tkE (kvs : List (Str × Int)) : List (Key × V) := kvs.map fun z => (.inr z.1, .int z.2)
def tk (K : PySem.W.Frag) (kvs : List (Str × Int)) : Sl where
  own := fun H v fp => ∃ p, v = .ref p ∧ fp = [p] ∧ H p = some (.dK (tkE kvs))
  ro := false
  dom := fun h ha => by
    obtain ⟨p, _, e, hp⟩ := h
    rw [e] at ha
    rw [List.mem_singleton.mp ha]
    exact ⟨_, hp, rfl⟩
  keep := fun h k => by
    obtain ⟨p, e1, e2, hp⟩ := h
    exact ⟨p, e1, e2, k p _ hp (.inl (by rw [e2]; exact List.mem_singleton.mpr rfl))⟩
section
variable {C : Cn} {Γ : List Ety} {K : PySem.W.Frag} {α β γ F : Type}
theorem tk_pairs {σ : List (Option V)} {H : Hp} {Q : List (V × V) → Hp → Prop} : ∀ (kvs : List (Str × Int)) (Q : List (V × V) → Hp → Prop), Q ((tkE kvs).map fun kv => (kV kv.1, kv.2)) H → tPairs (kvs.map fun z => (tC (.str z.1), tC (.int z.2))) σ H Q
  | [], Q, h => h
  | z :: kvs, Q, h => tk_pairs (Q := Q) kvs (fun ps => Q ((.str z.1, .int z.2) :: ps)) h
theorem ev_dispT (kvs : List (Str × Int)) (hm : mergeK [] (tkE kvs) = tkE kvs) (hl : kvs.length ≤ 15) : EvG C Γ (tDisp (kvs.map fun z => (tC (.str z.1), tC (.int z.2)))) (ret kvs) (fun r => RN (tk C.K r)) := fun P X hw B σ H fp en ex Q q => by
  intro p hp
  refine tk_pairs (Q := fun _ _ => True) kvs _ ⟨upd_same, tkE kvs, rfl, by unfold tkE; rw [List.length_map]; exact hl, ?_⟩
  rw [hm]
  have s1 : Stp B H (upd H p (.dK [])) := .new en.tps hp
  have e : upd (upd H p (.dK [])) p (.dK (tkE kvs)) = upd H p (.dK (tkE kvs)) := by
    funext a
    by_cases h : a = p
    · subst h
      rw [upd_same, upd_same]
    · rw [upd_ne h, upd_ne h, upd_ne h]
  rw [e]
  exact q kvs _ _ hw (.new en.tps hp) ⟨[p], ⟨p, rfl, rfl, upd_same⟩, fun a ha => by rw [List.mem_singleton.mp ha]; exact hp⟩
theorem tk_val (k : Str) : ∀ kvs : List (Str × Int), valV (tkE kvs) (.inr k) = (kvs.lookup k).map V.int
  | [] => rfl
  | z :: kvs => by
    have ih := tk_val k kvs
    unfold tkE at ih ⊢
    rw [List.map_cons, List.lookup_cons]
    unfold valV at ih ⊢
    by_cases h : k = z.1
    · subst h
      simp
    · have h2 : ¬ (Sum.inr z.1 : Key) = .inr k := fun e => h (Sum.inr.inj e).symm
      simp only [beq_eq_false_iff_ne.mpr h]
      simp [List.find?, h2, beq_eq_false_iff_ne.mpr (Ne.symm h)]
      simpa using ih
theorem ev_tkget {i : Nat} {ty : TE} {w : Wp Str} (kvs : List (Str × Int)) (h : Has Γ i (tk C.K kvs)) (hy : EvG C Γ ty w (fun r => RF C.K (eS r))) : EvG C Γ (tDGet (tVar i) ty) (bnd w fun k => opt (kvs.lookup k)) (fun r => RF C.K (eI r)) := fun P X hw B σ H fp en ex Q q => by
  obtain ⟨v, fq, hv, ⟨p, rfl, e2, hp⟩, hf⟩ := en.hold h
  refine ⟨_, hv, hy _ X hw B σ H fp en ex _ fun k y H1 h1 s1 hk => ?_⟩
  have ek := Fz.str_inv (x := k) hk
  subst ek
  obtain ⟨v', fq', hv', ⟨p', rfl, e2', hp'⟩, hf'⟩ := (en.step s1).hold h
  rw [hv] at hv'
  cases hv'
  obtain ⟨d, hd, hP⟩ := h1
  refine ⟨p, .int d, rfl, ?_, q d _ H1 hP s1 (.int d)⟩
  have := DGet.k (k := .inr k) hp'
  rw [tk_val, hd] at this
  exact this
end
end WL
/-! WL, part 29: what is never reached; == of lists of lists. -/
namespace WL
open PySem PySem.Spec PyProof.Rows L2
/-- a statement that is never reached -/
def tNever : TS := fun _ _ _ => False
theorem ps_unreached {X : Cx} {s : Stmt} : PS X s tNever := ⟨fun _ _ _ _ _ _ h => h.elim⟩
section
variable {C : Cn} {Γ : List Ety} {K : PySem.W.Frag} {α β γ F : Type}
theorem sb_unreached {res : F → Oc} {N Bk Ct : Cont F} : SimB C res N Bk Ct tNever Γ (cut : Wp F) := fun P X hm => hm.elim
theorem la_dp {H : Hp} : ∀ {rs : List Addr} {dss : List (List PyData)}, LA K H rs dss → DpAll K H (rs.map V.ref) (dss.map PyData.list)
  | _, _, .nil => .nil
  | _, _, .cons h z t => .cons (.lst (.inl (.inl h)) z.dp) (la_dp t)
theorem ls2_dp {H : Hp} {v : V} {fp : List Addr} {dss : List (List PyData)} (h : (ls2 K dss).own H v fp) : Dp K H v (.list (dss.map .list)) := by
  obtain ⟨p, rs, rfl, _, _, hp, hl⟩ := h
  exact .lst (.inl (.inl hp)) (la_dp hl)
theorem ev_ne2 {i j : Nat} {e : β → PyData} (xs ys : List (List β)) (hx : Has Γ i (ls2 C.K (e2L e xs))) (hy : Has Γ j (ls2 C.K (e2L e ys))) : EvG C Γ (tOp (rNeD C.K) (tVar i) (tVar j)) (eqLN ((e2L e xs).map .list) ((e2L e ys).map .list)) (fun r => RF C.K (eB r)) := fun P X hw B σ H fp en ex Q q => by
  obtain ⟨v, fq, hv, ho, _⟩ := en.hold hx
  obtain ⟨v', fq', hv', ho', _⟩ := en.hold hy
  exact ⟨v, hv, v', hv', _, _, ls2_dp ho, ls2_dp ho', hw.1.1, hw.1.2, q _ _ H hw.2 (.refl en.tps) (.bl _)⟩
end
end WL
/-! WL, part 30: dicts of one's own whose keys are data (nested tuples of ints and texts). -/
namespace WL
open PySem PySem.Spec PyProof.Rows L2
/-! ### data as keys -/
mutual
def nkey : PyData → NestedKey
  | .none => .none
  | .bool b => .num (if b = true then 1 else 0)
  | .int i => .num i
  | .str x => .text x
  | .tuple ds => .tup (nkeys ds)
  | .list _ => .none
  | .dict _ => .none
def nkeys : List PyData → List NestedKey
  | [] => []
  | d :: ds => nkey d :: nkeys ds
end
section
variable {X : Cx} {pins : List (Addr × Obj)} {σ : L2.St} {H : Hp} {s : Shared}
mutual
theorem nested_of (I : Inv X pins σ H s) : ∀ {v : V} {d : PyData} {u : Value}, Fz X.K H v d → RelV v u → NestedIs s.heap (nkey d) u
  | _, _, _, .non, r => by cases r; exact .none
  | _, _, _, .bl b, r => by cases r; exact .bool rfl
  | _, _, _, .int i, r => by
    obtain ⟨t, rfl⟩ := r
    exact .int i t
  | _, _, _, .str x, r => by
    obtain ⟨t, rfl⟩ := r
    exact .text x t
  | _, _, _, .tup h1 h2, r => by
    cases r
    obtain ⟨its, rv, ⟨o, e1, e2, n, e3⟩, _⟩ := I.tuple h1
    exact .tup e1 e2 e3 (nested_all I h2 rv)
theorem nested_all (I : Inv X pins σ H s) : ∀ {vs : List V} {ds : List PyData} {us : List Value}, FzAll X.K H vs ds → Vals vs us → NestedAll s.heap (nkeys ds) us
  | _, _, _, .nil, r => by cases r; exact .nil
  | _, _, _, .cons h t, r => by
    cases r with
    | cons r1 r2 => exact .cons (nested_of I h r1) (nested_all I t r2)
end
end
/-! ### the dict -/
abbrev NEnt := NestedKey × Addr × Value
def KRaw (w : World) (d : Addr) (xs : List NEnt) (h : Heap) : Prop :=
  xs.length ≤ sizeLine ∧ (d == sysModules) = false ∧ (xs.map (·.1)).Nodup ∧ ∃ o es ep, h.get? d = some o ∧ o.ExactDict ∧ o.data = .dict es ep ∧ es.toList = xs.map fun x => (⟨x.1.hash w, .ref x.2.1, x.2.2⟩ : DictEntry)
def kdO (w : World) (d : Addr) (xs : List NEnt) : HO := .ext (KRaw w d xs)
theorem kdO_ok {P : Program} {w : World} {H : Hp} {h : Heap} {d : Addr} {xs : List NEnt} (x : KRaw w d xs h) : ObjOk P w H h d (kdO w d xs) := by
  refine ⟨x, ?_, fun h1 h2 y k => ?_⟩
  · obtain ⟨_, _, _, o, _, _, e, _⟩ := x
    exact ⟨o, e⟩
  · obtain ⟨a, b, c, o, es, ep, e, r⟩ := y
    exact ⟨a, b, c, o, es, ep, k o e, r⟩
inductive NkAll (K : PySem.W.Frag) (H : Hp) : List NEnt → List (PyData × PyData) → Prop
  | nil : NkAll K H [] []
  | cons {a : Addr} {u : Value} {v : V} {k d : PyData} {xs : List NEnt} {kvs : List (PyData × PyData)} : Fz K H (.ref a) k → (nkey k).depth ≤ 8 → RelV v u → Fz K H v d → NkAll K H xs kvs → NkAll K H ((nkey k, a, u) :: xs) ((k, d) :: kvs)
section
variable {K : PySem.W.Frag} {H H' : Hp} {xs : List NEnt} {kvs : List (PyData × PyData)}
theorem NkAll.stay (st : Stay H H') : ∀ {xs : List NEnt} {kvs : List (PyData × PyData)}, NkAll K H xs kvs → NkAll K H' xs kvs
  | _, _, .nil => .nil
  | _, _, .cons h1 h2 h3 h4 t => .cons (h1.stay st) h2 h3 (h4.stay st) (t.stay st)
theorem NkAll.length : ∀ {xs : List NEnt} {kvs : List (PyData × PyData)}, NkAll K H xs kvs → xs.length = kvs.length
  | _, _, .nil => rfl
  | _, _, .cons _ _ _ _ t => congrArg Nat.succ t.length
def valN (kvs : List (PyData × PyData)) (k : PyData) : Option PyData := (kvs.find? fun p => decide (nkey p.1 = nkey k)).map (·.2)
def putN (kvs : List (PyData × PyData)) (k v : PyData) : List (PyData × PyData) := if (kvs.any fun p => decide (nkey p.1 = nkey k)) = true then kvs.map (fun p => if nkey p.1 = nkey k then (p.1, v) else p) else kvs ++ [(k, v)]
theorem NkAll.get (k : PyData) : ∀ {xs : List NEnt} {kvs : List (PyData × PyData)}, NkAll K H xs kvs → ((atKey xs (nkey k)).isSome = (valN kvs k).isSome ∧ ∀ d, valN kvs k = some d → ∃ a u v, atKey xs (nkey k) = some (a, u) ∧ RelV v u ∧ Fz K H v d)
  | _, _, .nil => ⟨rfl, fun d e => by cases e⟩
  | _, _, @NkAll.cons _ _ a u v k' d xs kvs h1 h2 h3 h4 t => by
    obtain ⟨g1, g2⟩ := t.get k
    by_cases e : nkey k' = nkey k
    · have e1 : atKey ((nkey k', a, u) :: xs) (nkey k) = some (a, u) := by simp [atKey, List.find?_cons, e]
      have e2 : valN ((k', d) :: kvs) k = some d := by simp [valN, List.find?_cons, e]
      rw [e1, e2]
      exact ⟨rfl, fun d' q => by cases q; exact ⟨a, u, v, rfl, h3, h4⟩⟩
    · have e1 : atKey ((nkey k', a, u) :: xs) (nkey k) = atKey xs (nkey k) := by simp [atKey, List.find?_cons, e]
      have e2 : valN ((k', d) :: kvs) k = valN kvs k := by simp [valN, List.find?_cons, e]
      rw [e1, e2]
      exact ⟨g1, g2⟩
theorem NkAll.any (k : PyData) : ∀ {xs : List NEnt} {kvs : List (PyData × PyData)}, NkAll K H xs kvs → (atKey xs (nkey k)).isSome = kvs.any fun p => decide (nkey p.1 = nkey k)
  | _, _, .nil => rfl
  | _, _, @NkAll.cons _ _ a u v k' d xs kvs h1 h2 h3 h4 t => by
    by_cases e : nkey k' = nkey k
    · simp [atKey, List.find?_cons, e]
    · have e1 : atKey ((nkey k', a, u) :: xs) (nkey k) = atKey xs (nkey k) := by simp [atKey, List.find?_cons, e]
      rw [e1, t.any k, List.any_cons]
      simp [e]
theorem NkAll.over {k d : PyData} {u : Value} {v : V} (hv : RelV v u) (hd : Fz K H v d) : ∀ {xs : List NEnt} {kvs : List (PyData × PyData)}, NkAll K H xs kvs → NkAll K H (xs.map (putAt (nkey k) u)) (kvs.map fun p => if nkey p.1 = nkey k then (p.1, d) else p)
  | _, _, .nil => .nil
  | _, _, @NkAll.cons _ _ a u' v' k' d' xs kvs h1 h2 h3 h4 t => by
    rw [List.map_cons, List.map_cons]
    unfold putAt
    by_cases e : nkey k' = nkey k
    · rw [if_pos e, if_pos e]
      exact .cons h1 h2 hv hd (t.over hv hd)
    · rw [if_neg e, if_neg e]
      exact .cons h1 h2 h3 h4 (t.over hv hd)
theorem NkAll.snoc {k d : PyData} {a : Addr} {u : Value} {v : V} (hk : Fz K H (.ref a) k) (h8 : (nkey k).depth ≤ 8) (hv : RelV v u) (hd : Fz K H v d) : ∀ {xs : List NEnt} {kvs : List (PyData × PyData)}, NkAll K H xs kvs → NkAll K H (xs ++ [(nkey k, a, u)]) (kvs ++ [(k, d)])
  | _, _, .nil => .cons hk h8 hv hd .nil
  | _, _, .cons h1 h2 h3 h4 t => .cons h1 h2 h3 h4 (t.snoc hk h8 hv hd)
theorem NkAll.put {k d : PyData} {a : Addr} {u : Value} {v : V} (t : NkAll K H xs kvs) (hk : Fz K H (.ref a) k) (h8 : (nkey k).depth ≤ 8) (hv : RelV v u) (hd : Fz K H v d) : NkAll K H (storedH xs (nkey k) a u) (putN kvs k d) := by
  unfold storedH putN
  rw [t.any k]
  split
  · exact t.over hv hd
  · exact t.snoc hk h8 hv hd
end
section
variable {X : Cx} {pins : List (Addr × Obj)} {σ : L2.St} {H : Hp} {s : Shared} {A : Around} {E : Value → Shared → Prop} {xs : List NEnt} {kvs : List (PyData × PyData)} {a b : Addr}
theorem kd_of (I : Inv X pins σ H s) (e : H a = some (kdO X.w a xs)) : KRaw X.w a xs s.heap := by
  have := I.hok a _ e
  exact this.1
theorem kd_at (I : Inv X pins σ H s) (e : H a = some (kdO X.w a xs)) (n : NkAll X.K H xs kvs) : s.heap.DictOfH (nestedKind X.prog X.w) a xs := by
  obtain ⟨_, _, hn, o, es, ep, h1, h2, h3, h4⟩ := kd_of I e
  refine ⟨o, es, ep, h1, h2, h3, h4, fun x hx => ?_, hn⟩
  have all : ∀ {xs : List NEnt} {kvs : List (PyData × PyData)}, NkAll X.K H xs kvs → ∀ x ∈ xs, NestedIs s.heap x.1 (.ref x.2.1) ∧ x.1.depth ≤ 8 := by
    intro xs kvs n
    induction n with
    | nil => intro x hx; cases hx
    | cons h1 h2 h3 h4 t ih =>
      intro x hx
      rcases List.mem_cons.mp hx with rfl | hx
      · exact ⟨nested_of I h1 rfl, h2⟩
      · exact ih x hx
  exact all n x hx
theorem nk_room (hu : A.units + 64 < cLine) : (nestedKind X.prog X.w).room A.in1 := by
  show A.in1.units + 8 < cLine
  have : A.in1.units ≤ A.units + 1 := by first | exact Nat.le_refl _ | simp
  omega
theorem kd_write {h' : Heap} {t' : Nat} {ys : List NEnt} (I : Inv X pins σ H s) (e : H a = some (kdO X.w a xs)) (dd : h'.DictOfH (nestedKind X.prog X.w) a ys) (hs : Heap.SameBut a s.heap h') (hl : ys.length ≤ sizeLine) :
    Inv X pins σ (upd H a (kdO X.w a ys)) { s with heap := h', toks := t' } := by
  obtain ⟨_, hd, _⟩ := kd_of I e
  obtain ⟨o, es, ep, h1, h2, h3, h4, _, h6⟩ := dd
  exact d_write I (by rw [e]; exact True.intro) hs ⟨o, h1⟩ (kdO_ok ⟨hl, hd, h6, o, es, ep, h1, h2, h3, h4⟩)
end
/-- y in d, y not in d -/
def tNIn (K : PySem.W.Frag) (w : World) (neg : Bool) (ty td : TE) : TE := fun σ H Q => ty σ H fun y H1 => td σ H1 fun x H2 => ∃ (a b : Addr) (xs : List NEnt) (kvs : List (PyData × PyData)) (k : PyData), x = .ref a ∧ y = .ref b ∧ H2 a = some (kdO w a xs) ∧ NkAll K H2 xs kvs ∧
  Fz K H2 (.ref b) k ∧ (nkey k).depth ≤ 8 ∧ Q (.bl (neg != (valN kvs k).isSome)) H2
/-- d[y] = v -/
def sNPut (K : PySem.W.Frag) (w : World) (td ty tv : TE) : TS := fun D σ H => tv σ H fun v H1 => td σ H1 fun x H2 => ty σ H2 fun y H3 => ∃ (a b : Addr) (xs : List NEnt) (kvs : List (PyData × PyData)) (k : PyData), x = .ref a ∧ y = .ref b ∧ H3 a = some (kdO w a xs) ∧ NkAll K H3 xs kvs ∧
  Fz K H3 (.ref b) k ∧ (nkey k).depth ≤ 8 ∧ xs.length < sizeLine ∧ ∀ u, RelV v u → D.nx σ (upd H3 a (kdO w a (storedH xs (nkey k) b u)))
/-- {y: v} -/
def tNDisp (K : PySem.W.Frag) (w : World) (tk tv : TE) : TE := fun σ H Q => ∀ p, H p = none → tk σ (upd H p (kdO w p [])) fun y H1 => tv σ H1 fun v H2 => H2 p = some (kdO w p []) ∧ ∃ (b : Addr) (k : PyData), y = .ref b ∧ Fz K H2 (.ref b) k ∧ (nkey k).depth ≤ 8 ∧
  ∀ u, RelV v u → Q (.ref p) (upd H2 p (kdO w p [(nkey k, b, u)]))
/-- {} -/
def tNNew (w : World) : TE := fun _ H Q => ∀ p, H p = none → Q (.ref p) (upd H p (kdO w p []))
/-- d[y] -/
def tNGet (K : PySem.W.Frag) (w : World) (td ty : TE) : TE := fun σ H Q => td σ H fun x H1 => ty σ H1 fun y H2 => ∃ (a b : Addr) (xs : List NEnt) (kvs : List (PyData × PyData)) (k d : PyData), x = .ref a ∧ y = .ref b ∧ H2 a = some (kdO w a xs) ∧ NkAll K H2 xs kvs ∧
  Fz K H2 (.ref b) k ∧ (nkey k).depth ≤ 8 ∧ valN kvs k = some d ∧ ∀ v, Fz K H2 v d → Q v H2
def rLenN (K : PySem.W.Frag) (w : World) : List V → Hp → VK → Prop := fun vs H Q => ∃ (a : Addr) (xs : List NEnt) (kvs : List (PyData × PyData)), vs = [V.ref a] ∧ H a = some (kdO w a xs) ∧ NkAll K H xs kvs ∧ Q (.int kvs.length) H
theorem disp_pairsH {prog : Program} {w : World} {K : Type} [DecidableEq K] {knd : HeapKind prog w K} {A : Around} {E : Value → Shared → Prop} {s : Shared} {env : PySem.Env} {keys : List (Option Expr)} {values : List Expr} {pos : Pos} {pairs : List (Sem Value × Sem Value)} {Q : Value → Shared → Prop} (hu : knd.room A)
    (hshape : (evalEachOpt keys env).zip ((evalEach values env).map fun v => do let x ← v; standAt pos; pure x) = pairs.map fun p => (some p.1, p.2)) (h0 : pairs ≠ []) (hlen : pairs.length ≤ 15)
    (h : wpAny (model prog w) A (evalPairs pairs) (fun vs s₁ => ∃ ps, CarriesH knd s₁.heap vs ps ∧ s₁.heap.DictOfH knd s.heap.objs.size [] ∧
      ∀ h' tk, h'.DictOfH knd s.heap.objs.size (storedAllH [] ps) → Heap.SameBut s.heap.objs.size s₁.heap h' → Q (.ref s.heap.objs.size) { s₁ with heap := h', toks := tk }) E
      { s with heap := s.heap.push { cls := .type "dict", data := .dict #[] } }) :
    wpAny (model prog w) A (eval (.Dict keys values pos) env) Q E s := by
  rw [arm_eval_Dict, hshape, dictDisplay_pairs pairs h0 (by omega)]
  exact wpAny_bind (wpAny_standAt (wpAny_bind (wpAny_subDictH (knd := knd) (Q := fun d s' => wpAny (model prog w) A (pure (Value.ref d)) Q E s') hu hlen
    (wpAny_mono h (fun vs s₁ h₁ => by obtain ⟨ps, hc, hm, hq⟩ := h₁; exact ⟨ps, hc, hm, fun h' tk a b => wpAny_pure (hq h' tk a b)⟩) fun _ _ e => e))))
section
variable {X : Cx} {K : PySem.W.Frag} {w : World} {o i e value : Expr} {pos pos' : Pos} {td ty tv : TE}
theorem pc_nin (hK : X.K = K) (hw : X.w = w) (hu : X.A.units + 64 < cLine) (hi : PE X i ty) (ho : PE X o td) : PC X .In i o (tNIn K w false ty td) := by
  subst hK hw
  refine ⟨fun pins s σ H Q I h => ?_⟩
  refine thn (hi.run pins s σ H _ I h) fun iv s1 ⟨y, H1, I1, ry, q1⟩ => thn (ho.run pins s1 σ H1 _ I1 q1) fun u s2 ⟨x, H2, I2, rx, a, b, xs, kvs, k, ex, ey, hH, hn, hk, h8, q2⟩ => ?_
  subst ex ey
  obtain rfl : u = Value.ref a := rx
  obtain rfl : iv = Value.ref b := ry
  refine wpAny_in_heap (nk_room hu) ⟨nested_of I2 hk rfl, h8⟩ (kd_of I2 hH).2.1 (kd_at I2 hH hn) ?_
  rw [(hn.get k).1]
  refine ⟨_, H2, I2.tok _, ?_, q2⟩
  cases (valN kvs k).isSome <;> rfl
theorem pc_nnotin (hK : X.K = K) (hw : X.w = w) (hu : X.A.units + 64 < cLine) (hi : PE X i ty) (ho : PE X o td) : PC X .NotIn i o (tNIn K w true ty td) := by
  subst hK hw
  refine ⟨fun pins s σ H Q I h => ?_⟩
  refine thn (hi.run pins s σ H _ I h) fun iv s1 ⟨y, H1, I1, ry, q1⟩ => thn (ho.run pins s1 σ H1 _ I1 q1) fun u s2 ⟨x, H2, I2, rx, a, b, xs, kvs, k, ex, ey, hH, hn, hk, h8, q2⟩ => ?_
  subst ex ey
  obtain rfl : u = Value.ref a := rx
  obtain rfl : iv = Value.ref b := ry
  refine wpAny_notIn_heap (nk_room hu) ⟨nested_of I2 hk rfl, h8⟩ (kd_of I2 hH).2.1 (kd_at I2 hH hn) ?_
  rw [(hn.get k).1]
  refine ⟨_, H2, I2.tok _, ?_, q2⟩
  cases (valN kvs k).isSome <;> rfl
theorem ps_nput (hK : X.K = K) (hw : X.w = w) (hu : X.A.units + 64 < cLine) (ho : PE X o td) (hi : PE X i ty) (hv : PE X value tv) (hs : swapsWith value (some (.Subscript o i pos')) pos.line X.env = pure false) :
    PS X (.Assign [.Subscript o i pos'] value pos) (sNPut K w td ty tv) := by
  subst hK hw
  refine ⟨fun pins s σ H D I h => ?_⟩
  refine wpAny_Assign_Subscript (thn (hv.run pins s σ H _ I h) fun r s1 ⟨v, H1, I1, rv, q1⟩ => thn (ho.run pins s1 σ H1 _ I1 q1) fun u s2 ⟨x, H2, I2, rx, q2⟩ => thn (hi.run pins s2 σ H2 _ I2 q2) fun iv s3 ⟨y, H3, I3, ry, a, b, xs, kvs, k, ex, ey, hH, hn, hk, h8, hl, q3⟩ => ?_) hs
  subst ex ey
  obtain rfl : u = Value.ref a := rx
  obtain rfl : iv = Value.ref b := ry
  refine wpAny_setItem_heap (hsz := Nat.le_of_lt hl) (nk_room hu) ⟨nested_of I3 hk rfl, h8⟩ (kd_at I3 hH hn) fun h' dd hs => ⟨σ, _, kd_write I3 hH dd hs ?_, q3 r rv⟩
  have := storedH_length xs (nkey k) b r
  omega
theorem pe_nget (hK : X.K = K) (hw : X.w = w) (hu : X.A.units + 64 < cLine) (ho : PE X o td) (hi : PE X i ty) (hs : NoSl i) : PE X (.Subscript o i pos) (tNGet K w td ty) := by
  subst hK hw
  refine ⟨fun pins s σ H Q I h => ?_⟩
  refine subD_of PySem.F.slot_dict_getitem.lookup hs (thn (ho.run pins s σ H _ I h) fun u s1 ⟨x, H1, I1, rx, q1⟩ => thn (hi.run pins s1 σ H1 _ I1 q1) fun iv s2 ⟨y, H2, I2, ry, a, b, xs, kvs, k, d, ex, ey, hH, hn, hk, h8, hv, q2⟩ => ?_)
  subst ex ey
  obtain rfl : u = Value.ref a := rx
  obtain rfl : iv = Value.ref b := ry
  have dd := kd_at I2 hH hn
  obtain ⟨a', u', v', g1, g2, g3⟩ := (hn.get k).2 d hv
  refine ⟨dd.typeIs, wpAny_getItem_heap (nk_room hu) ⟨nested_of I2 hk rfl, h8⟩ dd g1 ?_⟩
  exact ⟨v', H2, I2.tok _, g2, q2 v' g3⟩
theorem pe_nnew (hw : X.w = w) : PE X (.Dict [] [] pos) (tNNew w) := by
  subst hw
  exact ⟨fun pins s σ H Q I h =>
    wpAny_Dict_empty ⟨.ref s.heap.objs.size, _, I.laid (a := s.heap.objs.size) (o := kdO X.w s.heap.objs.size []) (t' := s.toks) (fun _ _ q => Heap.get?_push_of_some _ q) (Nat.le_refl _)
      (kdO_ok ⟨Nat.zero_le _, beq_eq_false_iff_ne.mpr (Ne.symm (Nat.ne_of_lt I.big)), List.nodup_nil, _, #[], 0, Heap.get?_push_size _ rfl, ⟨rfl, rfl, rfl⟩, rfl, rfl⟩), rfl, h _ (I.hok.fresh (Nat.le_refl _))⟩⟩
theorem pe_ndisp (hK : X.K = K) (hw : X.w = w) (hu : X.A.units + 64 < cLine) (hk : PE X i ty) (hv : PE X value tv) : PE X (.Dict [some i] [value] pos) (tNDisp K w ty tv) := by
  subst hK hw
  refine ⟨fun pins s σ H Q I q => ?_⟩
  have hn := I.hok.fresh (Nat.le_refl s.heap.objs.size)
  have I1 := I.laid (a := s.heap.objs.size) (o := kdO X.w s.heap.objs.size []) (h' := s.heap.push { cls := .type "dict", data := .dict #[] }) (t' := s.toks) (fun _ _ q => Heap.get?_push_of_some _ q) (Nat.le_refl _)
    (kdO_ok ⟨Nat.zero_le _, beq_eq_false_iff_ne.mpr (Ne.symm (Nat.ne_of_lt I.big)), List.nodup_nil, _, #[], 0, Heap.get?_push_size _ rfl, ⟨rfl, rfl, rfl⟩, rfl, rfl⟩)
  have hr : (nestedKind X.prog X.w).room X.A := by
    show X.A.units + 8 < cLine
    omega
  refine disp_pairsH (knd := nestedKind X.prog X.w) (pairs := pairTrees [some i] [value] X.env pos) hr (zip_pairTrees [some i] [value] X.env pos rfl rfl) (by intro z; cases z) (by show (1 : Nat) ≤ 15; decide) ?_
  refine pairTrees_cons_walk (thn (hk.run pins _ σ _ _ I1 (q _ hn)) fun u s1 ⟨y, H1, I2, ry, q1⟩ => thn (hv.run pins s1 σ H1 _ I2 q1) fun r s2 ⟨v, H2, I3, rv, hH, b, k, ey, hk, h8, q2⟩ => pairTrees_nil_walk ?_)
  subst ey
  obtain rfl : u = Value.ref b := ry
  exact ⟨[(nkey k, b, r)], ⟨rfl, rfl, ⟨nested_of I3 hk rfl, h8⟩, trivial⟩, kd_at (kvs := []) I3 hH .nil, fun h' tk dd hs => ⟨.ref s.heap.objs.size, _, kd_write I3 hH dd hs (by show (1 : Nat) ≤ _; rw [sizeLine_eq]; decide), rfl, q2 r rv⟩⟩
theorem cr_lenN (hK : X.K = K) (hw : X.w = w) : CallR X (.builtin "len") (rLenN K w) := by
  subst hK hw
  intro pins s σ H vs us Q I r h
  obtain ⟨a, xs, kvs, rfl, hH, hn, q⟩ := h
  obtain ⟨u, rfl, ru⟩ := vals1 r
  cases ru
  have hl := (kd_of I hH).1
  refine call_len_dictH (kd_of I hH).2.1 (kd_at I hH hn) (by rw [sizeLine_eq] at hl; omega) ?_
  rw [hn.length]
  exact ⟨.int kvs.length, H, I.tok _, ⟨_, rfl⟩, q⟩
end
/-! ### as a thing of a name -/
/-- a dict of its own; e: the keys, e': the values -/
def nd (K : PySem.W.Frag) (w : World) (kvs : List (PyData × PyData)) : Sl where
  own := fun H v fp => ∃ p xs, v = .ref p ∧ fp = [p] ∧ H p = some (kdO w p xs) ∧ NkAll K H xs kvs
  ro := false
  dom := fun h ha => by
    obtain ⟨p, xs, _, e, hp, _⟩ := h
    rw [e] at ha
    rw [List.mem_singleton.mp ha]
    exact ⟨_, hp, rfl⟩
  keep := fun h k => by
    obtain ⟨p, xs, e1, e2, hp, hz⟩ := h
    exact ⟨p, xs, e1, e2, k p _ hp (.inl (by rw [e2]; exact List.mem_singleton.mpr rfl)), hz.stay fun a o e z => k a o e (.inr z)⟩
section
variable {α β F : Type} {C : Cn} {Γ : List Ety} {w : World}
def eN (e : α → PyData) (e' : β → PyData) (p : α × β) : PyData × PyData := (e p.1, e' p.2)
def valA (e : α → PyData) (kvs : List (α × β)) (k : α) : Option β := (kvs.find? fun p => decide (nkey (e p.1) = nkey (e k))).map (·.2)
def putA (e : α → PyData) (kvs : List (α × β)) (k : α) (v : β) : List (α × β) := if (kvs.any fun p => decide (nkey (e p.1) = nkey (e k))) = true then kvs.map (fun p => if nkey (e p.1) = nkey (e k) then (p.1, v) else p) else kvs ++ [(k, v)]
theorem valN_map (e : α → PyData) (e' : β → PyData) (k : α) : ∀ kvs : List (α × β), valN (kvs.map (eN e e')) (e k) = (valA e kvs k).map e'
  | [] => rfl
  | p :: r => by
    have ih := valN_map e e' k r
    unfold valN valA at ih ⊢
    rw [List.map_cons, List.find?_cons, List.find?_cons]
    by_cases h : nkey (e p.1) = nkey (e k)
    · have : decide (nkey (eN e e' p).1 = nkey (e k)) = true := decide_eq_true h
      rw [this, decide_eq_true h]
      rfl
    · have : decide (nkey (eN e e' p).1 = nkey (e k)) = false := decide_eq_false h
      rw [this, decide_eq_false h]
      exact ih
theorem putN_map (e : α → PyData) (e' : β → PyData) (k : α) (v : β) (kvs : List (α × β)) : putN (kvs.map (eN e e')) (e k) (e' v) = (putA e kvs k v).map (eN e e') := by
  unfold putN putA
  have : ((kvs.map (eN e e')).any fun p => decide (nkey p.1 = nkey (e k))) = kvs.any fun p => decide (nkey (e p.1) = nkey (e k)) := by
    rw [List.any_map]
    rfl
  rw [this]
  split
  · rw [List.map_map, List.map_map]
    refine List.map_congr_left fun p _ => ?_
    show (if nkey (e p.1) = nkey (e k) then _ else _) = eN e e' (if nkey (e p.1) = nkey (e k) then _ else _)
    split <;> rfl
  · rw [List.map_append]
    rfl
def K8 (e : α → PyData) (k : α) : Prop := (nkey (e k)).depth ≤ 8
theorem En.ndh {B : Bs} {σ : List (Option V)} {H : Hp} {fp : Nat → List Addr} {kvs : List (PyData × PyData)} {i : Nat} (en : En B Γ σ H fp) (h : Has Γ i (nd C.K w kvs)) : ∃ p xs, σ[i]? = some (some (.ref p)) ∧ B.off p ∧ H p = some (kdO w p xs) ∧ NkAll C.K H xs kvs := by
  obtain ⟨v, fq, hv, ⟨p, a, rfl, e2, hp, hz⟩, hf⟩ := en.hold h
  exact ⟨p, a, hv, hf p (by rw [e2]; exact List.mem_singleton.mpr rfl), hp, hz⟩
theorem En.ndv {B : Bs} {σ : List (Option V)} {H : Hp} {fp : Nat → List Addr} {kvs : List (PyData × PyData)} {i : Nat} (en : En B Γ σ H fp) (h : Γ[i]? = some (.sl (nd C.K w kvs))) : ∃ p xs, σ[i]? = some (some (.ref p)) ∧ fp i = [p] ∧ H p = some (kdO w p xs) ∧ NkAll C.K H xs kvs := by
  obtain ⟨v, hv, p, a, rfl, e2, hp, hz⟩ := en.sl i _ h
  exact ⟨p, a, hv, e2, hp, hz⟩
/-- {} -/
theorem ev_nnew {e : α → PyData} {e' : β → PyData} : EvG C Γ (tNNew w) (ret ([] : List (α × β))) (fun r => RN (nd C.K w (r.map (eN e e')))) := fun P X hw B σ H fp en ex Q q => fun p hp =>
  q [] _ _ hw (.new en.tps hp) ⟨[p], ⟨p, [], rfl, rfl, upd_same, .nil⟩, fun a ha => by rw [List.mem_singleton.mp ha]; exact hp⟩
/-- {k: v} -/
theorem ev_ndisp {tk tv : TE} {e : α → PyData} {e' : β → PyData} {wk : Wp α} {wv : Wp β} (ht : ∀ k : α, ∃ ds, e k = .tuple ds) (hk : EvG C Γ tk wk (fun r => RF C.K (e r))) (hv : EvG C Γ tv wv (fun r => RF C.K (e' r))) :
    EvG C Γ (tNDisp C.K w tk tv) (bnd wk fun k => bnd wv fun v => grd (K8 e k) (ret [(k, v)])) (fun r => RN (nd C.K w (r.map (eN e e')))) := fun P X hw B σ H fp en ex Q q => fun p hp => by
  have s0 : Stp B H (upd H p (kdO w p [])) := .new en.tps hp
  refine hk _ X hw B σ _ fp (en.step s0) ex _ fun k y H1 h1 s1 r1 => ?_
  refine hv _ X h1 B σ H1 fp ((en.step s0).step s1) ex _ fun v z H2 h2 s2 r2 => ?_
  have offp : B.off p := en.tps.new hp
  have hp1 : H1 p = some (kdO w p []) := s1.kp p _ upd_same offp
  have hp2 : H2 p = some (kdO w p []) := s2.kp p _ hp1 offp
  obtain ⟨ds, hd⟩ := ht k
  have r1' : Fz C.K H2 y (e k) := Fz.stay (s2.stay s1.ts) r1
  obtain ⟨b, ys, rfl, _, _⟩ := Fz.tup_inv (hd ▸ r1' : Fz C.K H2 y (.tuple ds))
  refine ⟨hp2, b, e k, rfl, r1', h2.1, fun u hu => ?_⟩
  have st : Stay H2 (upd H2 p (kdO w p [(nkey (e k), b, u)])) := fun a o ea z => by
    have : a ≠ p := by
      rintro rfl
      rw [hp2] at ea; cases ea; cases z
    rw [upd_ne this]
    exact ea
  have s3 : Stp B H (upd H2 p (kdO w p [(nkey (e k), b, u)])) := by
    refine ⟨fun a o ea na => ?_, fun t ht => ?_⟩
    · have : a ≠ p := by
        rintro rfl
        rw [hp] at ea; cases ea
      rw [upd_ne this]
      exact s2.kp a o (s1.kp a o (by rw [upd_ne this]; exact ea) na) na
    · refine t.1.keep (s2.ts t ht) fun a o ea z => ?_
      have : a ≠ p := by
        rintro rfl
        rcases z with z | z
        · exact offp t ht z
        · rw [hp2] at ea; cases ea; cases z
      rw [upd_ne this]
      exact ea
  exact q [(k, v)] _ _ h2.2 s3 ⟨[p], ⟨p, _, rfl, rfl, upd_same, .cons (r1'.stay st) h2.1 hu (Fz.stay st r2) .nil⟩, fun a ha => by rw [List.mem_singleton.mp ha]; exact hp⟩
theorem ev_nin {i : Nat} {ty : TE} {neg : Bool} {e : α → PyData} {e' : β → PyData} {wk : Wp α} (kvs : List (α × β)) (ht : ∀ k : α, ∃ ds, e k = .tuple ds) (h : Has Γ i (nd C.K w (kvs.map (eN e e')))) (hy : EvG C Γ ty wk (fun r => RF C.K (e r))) :
    EvG C Γ (tNIn C.K w neg ty (tVar i)) (bnd wk fun k => grd (K8 e k) (ret (neg != (valA e kvs k).isSome))) (fun r => RF C.K (eB r)) := fun P X hw B σ H fp en ex Q q =>
  hy _ X hw B σ H fp en ex _ fun k y H1 h1 s1 hk => by
    obtain ⟨p, xs, hv, hf, hp, hz⟩ := En.ndh (C := C) (en.step s1) h
    obtain ⟨ds, hd⟩ := ht k
    obtain ⟨b, ys, rfl, _, _⟩ := Fz.tup_inv (hd ▸ hk : Fz C.K H1 y (.tuple ds))
    refine ⟨_, hv, p, b, xs, _, e k, rfl, rfl, hp, hz, hk, h1.1, ?_⟩
    rw [valN_map, Option.isSome_map]
    exact q _ _ H1 h1.2 s1 (.bl _)
theorem ev_nget {i : Nat} {ty : TE} {e : α → PyData} {e' : β → PyData} {wk : Wp α} (kvs : List (α × β)) (ht : ∀ k : α, ∃ ds, e k = .tuple ds) (h : Has Γ i (nd C.K w (kvs.map (eN e e')))) (hy : EvG C Γ ty wk (fun r => RF C.K (e r))) :
    EvG C Γ (tNGet C.K w (tVar i) ty) (bnd wk fun k => grd (K8 e k) (opt (valA e kvs k))) (fun r => RF C.K (e' r)) := fun P X hw B σ H fp en ex Q q => by
  obtain ⟨p0, xs0, hv0, _⟩ := En.ndh (C := C) en h
  refine ⟨_, hv0, hy _ X hw B σ H fp en ex _ fun k y H1 h1 s1 hk => ?_⟩
  obtain ⟨p, xs, hv, hf, hp, hz⟩ := En.ndh (C := C) (en.step s1) h
  rw [hv0] at hv
  cases hv
  obtain ⟨ds, hd⟩ := ht k
  obtain ⟨b, ys, rfl, _, _⟩ := Fz.tup_inv (hd ▸ hk : Fz C.K H1 y (.tuple ds))
  obtain ⟨h8, x, hx, hP⟩ := h1
  exact ⟨p0, b, xs, _, e k, e' x, rfl, rfl, hp, hz, hk, h8, by rw [valN_map, hx]; rfl, fun v fv => q x v H1 hP s1 fv⟩
theorem ev_nlen {i : Nat} {e : α → PyData} {e' : β → PyData} (kvs : List (α × β)) (h : Has Γ i (nd C.K w (kvs.map (eN e e')))) : EvG C Γ (tCB (rLenN C.K w) (tCons (tVar i) tNil)) (ret (kvs.length : Int)) (fun r => RF C.K (eI r)) := fun P X hw B σ H fp en ex Q q => by
  obtain ⟨p, xs, hv, hf, hp, hz⟩ := En.ndh (C := C) en h
  refine ⟨_, hv, p, xs, _, rfl, hp, hz, ?_⟩
  rw [List.length_map]
  exact q _ _ H hw (.refl en.tps) (.int _)
def putNW (e : α → PyData) (kvs : List (α × β)) (wv : Wp β) (wk : Wp α) (k : List (α × β) → Wp F) : Wp F := bnd wv fun x => bnd wk fun j => grd (K8 e j ∧ kvs.length < 16777216) (k (putA e kvs j x))
theorem sb_nput {res : F → Oc} {N Bk Ct : Cont F} {i : Nat} {te ti : TE} {e : α → PyData} {e' : β → PyData} {kvs : List (α × β)} {wv : Wp β} {wk : Wp α} {k : List (α × β) → Wp F} (ht : ∀ k : α, ∃ ds, e k = .tuple ds) (h : Γ[i]? = some (.sl (nd C.K w (kvs.map (eN e e'))))) (he : EvG C Γ te wv (fun r => RF C.K (e' r))) (hi : EvG C Γ ti wk (fun r => RF C.K (e r)))
    (hk : ∀ ys, Lands N (Γ.set i (.sl (nd C.K w (ys.map (eN e e'))))) (k ys)) : SimB C res N Bk Ct (sNPut C.K w (tVar i) ti te) Γ (putNW e kvs wv wk k) := fun P X hm B D ex f n b c σ H fp en => by
  refine he _ X hm B σ H fp en ex _ fun x v H1 h1 s1 hx => ?_
  have en1 := en.step s1
  obtain ⟨p, xs, hv, hf, hp, hz⟩ := En.ndv (C := C) en1 h
  refine ⟨_, hv, hi _ X h1 B σ H1 fp en1 ex _ fun j y H2 h2 s2 hy => ?_⟩
  have en2 := en1.step s2
  obtain ⟨p', xs', hv', hf', hp', hz'⟩ := En.ndv (C := C) en2 h
  rw [hv] at hv'
  cases hv'
  obtain ⟨ds, hd⟩ := ht j
  obtain ⟨b', ys, rfl, _, _⟩ := Fz.tup_inv (hd ▸ hy : Fz C.K H2 y (.tuple ds))
  have hx2 : Fz C.K H2 v (e' x) := hx.stay (s2.stay s1.ts)
  refine ⟨p, b', xs', _, e j, rfl, rfl, hp', hz', hy, h2.1.1, ?_, fun u hu => n _ _ (hk _ P X B σ _ fp h2.2 (en2.mut (p := p) h rfl hv (by rw [hf']; exact List.mem_singleton.mpr rfl) (fun q hq => by rw [hf'] at hq; exact List.mem_singleton.mp hq) rfl ?_))⟩
  · rw [hz'.length, List.length_map]
    exact lc_list_room _ h2.1.2
  have hs : Stay H2 (upd H2 p (kdO w p (storedH xs' (nkey (e j)) b' u))) := fun b o eb st => by
    rw [upd_ne (fun z => by rw [z, hp'] at eb; cases eb; cases st)]
    exact eb
  refine ⟨p, _, rfl, hf', upd_same, ?_⟩
  rw [← putN_map]
  exact (hz'.stay hs).put (hy.stay hs) h2.1.1 hu (hx2.stay hs)
end
end WL
/-! WL, part 31: sum(rows, []) of a list of lists. -/
namespace WL
open PySem PySem.Spec PyProof.Rows L2
theorem sub_list_str : isSubtype (.type "list") (.type "str") = pure false := by rw [isSubtype_type]; kernel_rfl
theorem sub_list_bytes : isSubtype (.type "list") (.type "bytes") = pure false := by rw [isSubtype_type]; kernel_rfl
theorem sub_list_bytearray : isSubtype (.type "list") (.type "bytearray") = pure false := by rw [isSubtype_type]; kernel_rfl
theorem args_sum2 (a b : Value) : argsOk "sum" ⟨[a, b], []⟩ := by unfold argsOk; kernel_rfl
abbrev lObj (vs : List Value) (n : Nat := 0) : Obj := { cls := .type "list", data := .seq vs.toArray n }
section
variable {prog : Program} {w : World} {A : Around} {R : Result → Shared → Prop} {I : Addr} {fp wr : List Addr} {P : Nat → Value → Prop} {St : Nat → Heap → Prop}
theorem sum_lists_loop {ra : List Addr} {rows : List (List Value)} (W : Walks prog w A.in1 I fp wr ra.length P St) (hval : ∀ (i : Nat) v, P i v → ∃ r, ra[i]? = some r ∧ v = .ref r) (S : Addr) (hSf : S ∉ fp) (hr : ra.length = rows.length) (hfp : ∀ r ∈ ra, r ∉ fp ∧ r ≠ S) (hst0 : ∀ i h, St i h → ∀ b ∈ fp, b < h.objs.size) :
    ∀ (k i : Nat) (s : Shared) (l : Addr) (acc : List Value) (m c : Nat), ra.length - i = k → i ≤ ra.length → St i s.heap → s.heap.get? S = some { cls := .type "list", dict := none, data := .seq #[.ref l] c, slots := #[] } → s.heap.get? l = some (lObj acc m) → l ∉ fp → l ≠ S →
      (∀ (j : Nat) r row, ra[j]? = some r → rows[j]? = some row → ∃ n, s.heap.get? r = some (lObj row n)) → acc.length + ((rows.drop i).flatten).length ≤ sizeLine →
    (∀ h' tk l' m', h'.get? l' = some (lObj (acc ++ (rows.drop i).flatten) m') → (l' = l ∨ S < l') → (∀ b o, b ∉ wr → b ≠ S → s.heap.get? b = some o → h'.get? b = some o) → R (.ok (.ret (.ref l'))) { s with heap := h', toks := tk }) →
    codeAny (model prog w) A (.builtin "sum.loop" ⟨[.ref I, .ref S, rawInt 2, rawInt 0], []⟩) R s := by
  have hSw : S ∉ wr := fun h => hSf (W.sub _ h)
  intro k
  induction k with
  | zero =>
    intro i s l acc m c hk hi hst hS hl hlf hlS hrows hlen hR
    have hin : i = ra.length := by omega
    subst hin
    refine codeAny_builtin F.entry_sum_loop ?_
    rw [Around.under_plainId F.plain_sum_loop _]
    show wpAny _ A.in1 (seqItems? (.ref S) >>= _) _ _ s
    refine wpAny_bind (wpAny_seqItems hS rfl ?_)
    show wpAny _ A.in1 (tryCatch (pyNext (.ref I)) _ >>= _) _ _ s
    refine wpAny_bind (wpAny_tryCatch (W.done s _ _ hst fun h' tk hk' => ?_))
    refine wpAny_pure (hR h' tk l m ?_ (.inl rfl) fun b o hbw _ e => hk' b o hbw e)
    rw [hr, List.drop_length, List.flatten_nil, List.append_nil]
    exact hk' l _ (fun h => hlf (W.sub _ h)) hl
  | succ k ih =>
    intro i s l acc m c hk hi hst hS hl hlf hlS hrows hlen hR
    have hlt : i < ra.length := by omega
    have hlt2 : i < rows.length := by omega
    have hdrop : rows.drop i = rows[i] :: rows.drop (i + 1) := List.drop_eq_getElem_cons hlt2
    rw [hdrop, List.flatten_cons, List.length_append] at hlen
    refine codeAny_builtin F.entry_sum_loop ?_
    rw [Around.under_plainId F.plain_sum_loop _]
    show wpAny _ A.in1 (seqItems? (.ref S) >>= _) _ _ s
    refine wpAny_bind (wpAny_seqItems hS rfl ?_)
    show wpAny _ A.in1 (tryCatch (pyNext (.ref I)) _ >>= _) _ _ s
    refine wpAny_bind (wpAny_tryCatch (W.item i s _ _ hlt hst fun v h' tk hP hst' hk' => ?_))
    obtain ⟨r, hri, rfl⟩ := hval i v hP
    obtain ⟨hrf, hrS⟩ := hfp r (List.mem_of_getElem? hri)
    obtain ⟨nr, hro⟩ := hrows i r rows[i] hri (List.getElem?_eq_getElem hlt2)
    have hS' := hk' S _ hSw hS
    have hl' := hk' l _ (fun h => hlf (W.sub _ h)) hl
    have hr' := hk' r _ (fun h => hrf (W.sub _ h)) hro
    have hSz : S < h'.objs.size := Heap.lt_size hS'
    show wpAny _ A.in1 ((holding [Value.ref r] (binaryOp .Add (.ref l) (.ref r))).attempt >>= _) _ _ _
    refine wpAny_bind (wpAny_attempt (wpAny_holding (PySem.P.add_list hl' hr' ?_ (by rw [List.size_toArray, List.size_toArray]; omega))))
    show wpAny _ A.in1 (updateSeq S (fun _ => #[.ref h'.objs.size]) >>= _) _ _ _
    have hpush : ∀ b o, h'.get? b = some o → (h'.push { cls := .type "list", data := .seq (acc.toArray ++ rows[i].toArray) }).get? b = some o := fun b o e => Heap.get?_push_of_some _ e
    have hS1 := hpush S _ hS'
    refine wpAny_bind (wpAny_updateSeq hS1 rfl ?_)
    have hS₂ := Heap.get?_update_self (Obj.mapSeq fun _ => #[Value.ref h'.objs.size]) hS1 rfl
    refine wpAny_bind (wpAny_letGo ?_)
    refine wpAny_bind (wpAny_updateSeq hS₂ rfl (wpAny_pure ⟨plainId_quiet F.plain_sum_loop _, ?_⟩))
    have hk2 : ∀ b o, b ≠ S → h'.get? b = some o → (((h'.push { cls := .type "list", data := .seq (acc.toArray ++ rows[i].toArray) }).update S (Obj.mapSeq fun _ => #[Value.ref h'.objs.size])).update S (Obj.mapSeq fun _ => #[Value.ref h'.objs.size])).get? b = some o := fun b o hb e =>
      (Heap.get?_update_other _ _ (Ne.symm hb)).trans ((Heap.get?_update_other _ _ (Ne.symm hb)).trans (hpush b o e))
    have hnew : (((h'.push { cls := .type "list", data := .seq (acc.toArray ++ rows[i].toArray) }).update S (Obj.mapSeq fun _ => #[Value.ref h'.objs.size])).update S (Obj.mapSeq fun _ => #[Value.ref h'.objs.size])).get? h'.objs.size = some (lObj (acc ++ rows[i]) 0) := by
      refine (Heap.get?_update_other _ _ (Nat.ne_of_lt hSz)).trans ((Heap.get?_update_other _ _ (Nat.ne_of_lt hSz)).trans ?_)
      rw [Heap.get?_push_size _ rfl]
      simp [lObj]
    refine ih (i + 1) _ h'.objs.size (acc ++ rows[i]) 0 _ (by omega) hlt (W.frame _ _ _ hst' fun b hb o e => hk2 b o (fun h => hSf (h ▸ hb)) e) (Heap.get?_update_self _ hS₂ rfl) hnew (fun h => Nat.lt_irrefl _ (hst0 _ _ hst' _ h)) (fun h => Nat.lt_irrefl _ (h ▸ hSz)) (fun j r' row e1 e2 => ?_) (by rw [List.length_append]; omega) fun h'' tk'' l' m' g1 g2 g3 => ?_
    · obtain ⟨nr', hro'⟩ := hrows j r' row e1 e2
      obtain ⟨hrf', hrS'⟩ := hfp r' (List.mem_of_getElem? e1)
      exact ⟨nr', hk2 _ _ hrS' (hk' _ _ (fun h => hrf' (W.sub _ h)) hro')⟩
    · refine hR h'' tk'' l' m' (by rw [hdrop, List.flatten_cons, ← List.append_assoc]; exact g1) (.inr ?_) fun b o hbw hbS e => g3 b o hbw hbS (hk2 b o hbS (hk' b o hbw e))
      rcases g2 with rfl | g2
      · exact hSz
      · exact g2
end
section
variable {prog : Program} {w : World} {A : Around} {E : Value → Shared → Prop} {s : Shared}
theorem sum_lists {a b : Addr} {ra : List Addr} {rows : List (List Value)} {na nb : Nat} {Q : Value → Shared → Prop} (hh : A.handled = none) (ha : s.heap.get? a = some (lObj (ra.map Value.ref) na)) (hb : s.heap.get? b = some (lObj [] nb)) (hr : ra.length = rows.length) (hra : ∀ r ∈ ra, r ≠ a)
    (hrows : ∀ (j : Nat) r row, ra[j]? = some r → rows[j]? = some row → ∃ n, s.heap.get? r = some (lObj row n)) (hba : b ≠ a) (hlen : rows.flatten.length ≤ sizeLine)
    (h : ∀ h' tk l' m', h'.get? l' = some (lObj rows.flatten m') → (l' = b ∨ s.heap.objs.size ≤ l') → (∀ b o, s.heap.get? b = some o → h'.get? b = some o) → Q (.ref l') { s with heap := h', toks := tk }) :
    wpAny (model prog w) A (call (.builtin "sum") [.ref a, .ref b]) Q E s := by
  refine call_function_tree F.kind_sum F.plain_sum F.entry_sum (args_sum2 _ _) ?_
  unfold Builtin.«sum»
  simp only [List.length_cons, List.length_nil]
  rw [if_neg (by decide)]
  refine wpAny_bind (wpAny_of_eq (show Builtin.Builtins.bindParams "sum" ["start"] 0 ⟨[.ref b], []⟩ = pure [some (.ref b)] from rfl) ?_)
  have hal : s.heap.IsList a (ra.map Value.ref).toArray := ⟨_, ha, rfl, na, rfl⟩
  refine wpAny_bind (wpAny_pyIter_list hal ?_)
  have hbT : ({ s with heap := s.heap.push { cls := .type "list_iterator", data := .fields #[.ref a, .int 0 0] } } : Shared).TypeIs (.ref b) "list" := ⟨_, Heap.get?_push_of_some _ hb, rfl⟩
  refine wpAny_bind (wpAny_pure ?_)
  simp only [List.forIn_cons, List.forIn_nil]
  refine wpAny_bind (wpAny_bind (wpAny_bind (wpAny_isInstance (T := "list") (b := false) hbT sub_list_str ?_)))
  simp only [Bool.false_eq_true, if_false]
  refine wpAny_pure (wpAny_bind (wpAny_bind (wpAny_isInstance (T := "list") (b := false) hbT sub_list_bytes ?_)))
  simp only [Bool.false_eq_true, if_false]
  refine wpAny_pure (wpAny_bind (wpAny_bind (wpAny_isInstance (T := "list") (b := false) hbT sub_list_bytearray ?_)))
  simp only [Bool.false_eq_true, if_false]
  refine wpAny_pure (wpAny_pure ?_)
  refine wpAny_bind (wpAny_newObj_type ?_)
  have hlt : ∀ x o, s.heap.get? x = some o → x < s.heap.objs.size := fun x o e => Heap.lt_size e
  refine wpAny_pure ⟨plainId_quiet F.plain_sum_loop _, ?_⟩
  have hne : a ≠ s.heap.objs.size := Nat.ne_of_lt (hlt a _ ha)
  have W := Walks.list (prog := prog) (w := w) (A := A.in1) hh s.heap.objs.size a hne (ra.map Value.ref).toArray
  have hn : (ra.map Value.ref).toArray.size = ra.length := by simp
  rw [hn] at W
  have hI : (s.heap.push { cls := .type "list_iterator", data := .fields #[.ref a, .int 0 0] }).get? s.heap.objs.size = some { cls := .type "list_iterator", data := .fields #[.ref a, .int 0 0] } := Heap.get?_push_size _ rfl
  generalize hH1 : s.heap.push { cls := .type "list_iterator", data := .fields #[.ref a, .int 0 0] } = H1 at *
  have k1 : ∀ x o, s.heap.get? x = some o → H1.get? x = some o := fun x o e => by rw [← hH1]; exact Heap.get?_push_of_some _ e
  have hz1 : s.heap.objs.size < H1.objs.size := Heap.lt_size hI
  have k2 : ∀ x o, H1.get? x = some o → (H1.push { cls := .type "list", data := .seq #[.ref b] }).get? x = some o := fun x o e => Heap.get?_push_of_some _ e
  have hSa : ∀ x o, s.heap.get? x = some o → x ≠ H1.objs.size := fun x o e => Nat.ne_of_lt (Nat.lt_trans (hlt x o e) hz1)
  refine sum_lists_loop (ra := ra) (rows := rows) W (fun i v hv => ?_) H1.objs.size (fun h => ?_) hr (fun r hrm => ?_) (fun i h' st x hx => ?_) ra.length 0 _ b [] nb 0 rfl (Nat.zero_le _) ⟨?_, ?_⟩ ?_ ?_ ?_ ?_ (fun j r row e1 e2 => ?_) (by simpa using hlen) fun h' tk l' m' g1 g2 g3 => ?_
  · rw [List.getElem?_toArray, List.getElem?_map] at hv
    cases e : ra[i]? with
    | none => rw [e] at hv; cases hv
    | some r =>
      rw [e] at hv
      cases hv
      exact ⟨r, rfl, rfl⟩
  · rcases List.mem_cons.mp h with e | h
    · exact Nat.lt_irrefl _ (e ▸ hz1)
    · exact hSa a _ ha (List.mem_singleton.mp h).symm
  · obtain ⟨j, hj, rfl⟩ := List.getElem_of_mem hrm
    obtain ⟨n, e⟩ := hrows j _ _ (List.getElem?_eq_getElem hj) (List.getElem?_eq_getElem (hr ▸ hj))
    refine ⟨fun h => ?_, hSa _ _ e⟩
    rcases List.mem_cons.mp h with z | h
    · exact absurd (hlt _ _ e) (by rw [z]; exact Nat.lt_irrefl _)
    · exact hra _ hrm (List.mem_singleton.mp h)
  · rcases List.mem_cons.mp hx with rfl | hx
    · obtain ⟨o, e, _⟩ := st.1
      exact Heap.lt_size e
    · rw [List.mem_singleton.mp hx]
      obtain ⟨o, e, _⟩ := st.2
      exact Heap.lt_size e
  · exact ⟨_, k2 _ _ hI, rfl, rfl⟩
  · exact ⟨_, k2 _ _ (k1 _ _ ha), rfl, na, rfl⟩
  · exact Heap.get?_push_size _ rfl
  · exact k2 _ _ (k1 _ _ hb)
  · intro h
    rcases List.mem_cons.mp h with z | h
    · exact absurd (hlt _ _ hb) (by rw [z]; exact Nat.lt_irrefl _)
    · exact hba (List.mem_singleton.mp h)
  · exact hSa b _ hb
  · obtain ⟨n, e⟩ := hrows j r row e1 e2
    exact ⟨n, k2 _ _ (k1 _ _ e)⟩
  · refine h h' tk l' m' (by simpa using g1) (g2.imp id fun z => Nat.le_of_lt (Nat.lt_trans hz1 z)) fun x o e => g3 x o (fun hx => ?_) (hSa x o e) (k2 _ _ (k1 _ _ e))
    exact absurd (hlt x o e) (by rw [List.mem_singleton.mp hx]; exact Nat.lt_irrefl _)
end
/-! ### the reading -/
/-- what stands at rows of lists -/
def rSumLL : List V → Hp → VK → Prop := fun vs H Q => ∃ (a b : Addr) (ra : List Addr) (rows : List (List V)), vs = [V.ref a, V.ref b] ∧ H a = some (.lst (ra.map V.ref)) ∧ H b = some (.lst []) ∧ ra.length = rows.length ∧ (∀ r ∈ ra, r ≠ a) ∧
  (∀ (j : Nat) r row, ra[j]? = some r → rows[j]? = some row → H r = some (.lst row)) ∧ b ≠ a ∧ rows.flatten.length ≤ sizeLine ∧ ∀ l H', (H' = upd H l (.lst rows.flatten)) → (l = b ∨ H l = none) → Q (.ref l) H'
theorem refs_of : ∀ {ra : List Addr} {us : List Value}, Vals (ra.map V.ref) us → us = ra.map Value.ref
  | [], _, h => by cases h; rfl
  | _ :: _, _, h => by
    cases h with
    | cons h1 h2 =>
      rw [refs_of h2, show _ = Value.ref _ from h1]
      rfl
theorem rows_of {X : Cx} {pins : List (Addr × Obj)} {σ : L2.St} {H : Hp} {s : Shared} (I : Inv X pins σ H s) : ∀ {ra : List Addr} {rows : List (List V)}, ra.length = rows.length → (∀ (j : Nat) r row, ra[j]? = some r → rows[j]? = some row → H r = some (.lst row)) →
    ∃ its : List (List Value), ra.length = its.length ∧ Vals rows.flatten its.flatten ∧ ∀ (j : Nat) r row, ra[j]? = some r → its[j]? = some row → ∃ n, s.heap.get? r = some (lObj row n)
  | [], [], _, _ => ⟨[], rfl, .nil, fun j r row e => by cases e⟩
  | [], _ :: _, h, _ => by cases h
  | _ :: _, [], h, _ => by cases h
  | r :: ra, row :: rows, hl, h => by
    obtain ⟨its, h1, h2, h3⟩ := rows_of I (ra := ra) (rows := rows) (by simpa using hl) fun j r row e1 e2 => h (j + 1) r row (by simpa using e1) (by simpa using e2)
    obtain ⟨_, us, n, rv, _, e⟩ := I.lstM (h 0 r row rfl rfl)
    refine ⟨us :: its, by simp [h1], ?_, fun j r' row' e1 e2 => ?_⟩
    · rw [List.flatten_cons, List.flatten_cons]
      exact rv.append h2
    · cases j with
      | zero => cases e1; cases e2; exact ⟨n, e⟩
      | succ j => exact h3 j r' row' (by simpa using e1) (by simpa using e2)
theorem cr_sumLL {X : Cx} (hc : X.calm = true) : CallR X (.builtin "sum") rSumLL := by
  intro pins s σ H vs us Q I r h
  obtain ⟨a, b, ra, rows, rfl, ha, hb, hr, hra, hrows, hba, hz, q⟩ := h
  obtain ⟨u1, u2, rfl, r1, r2⟩ := vals2 r
  cases r1
  cases r2
  obtain ⟨_, ia, na, va, _, ea⟩ := I.lstM ha
  obtain ⟨_, ib, nb, vb, _, eb⟩ := I.lstM hb
  have e1 := refs_of va
  subst e1
  cases vb
  obtain ⟨its, h1, h2, h3⟩ := rows_of I hr hrows
  refine sum_lists (I.ok.hd hc) ea eb h1 hra h3 hba (by rw [← h2.length]; exact hz) fun h' tk l' m' g1 g2 g3 => ?_
  rcases g2 with rfl | g2
  · refine ⟨.ref l', upd H l' (.lst rows.flatten), ?_, rfl, q l' _ rfl (.inl rfl)⟩
    have I1 : Inv X pins σ H { s with heap := h', toks := tk } := I.kept (t' := tk) g3
    exact I1.write (x := l') (e := l') (h' := h') (t' := tk) (by rw [hb]; exact True.intro) (.inl rfl) (fun c u _ e => e) ⟨_, g1⟩ ⟨hz, _, m', h2, g1⟩
  · refine ⟨.ref l', upd H l' (.lst rows.flatten), I.laid (o := .lst rows.flatten) (t' := tk) g3 g2 ⟨hz, _, m', h2, g1⟩, rfl, q l' _ rfl (.inr (I.hok.fresh g2))⟩
theorem LA.rows {K : PySem.W.Frag} {H : Hp} : ∀ {rs : List Addr} {dss : List (List PyData)}, LA K H rs dss → ∃ rows : List (List V), rs.length = rows.length ∧ FzAll K H rows.flatten dss.flatten ∧ (∀ (j : Nat) r row, rs[j]? = some r → rows[j]? = some row → H r = some (.lst row)) ∧ rows.flatten.length = dss.flatten.length
  | _, _, .nil => ⟨[], rfl, .nil, fun j r row e => (by cases e), rfl⟩
  | _, _, .cons (vs := vs) h z t => by
    obtain ⟨rows, h1, h2, h3, h4⟩ := LA.rows t
    refine ⟨vs :: rows, by simp [h1], ?_, fun j r' row' e1 e2 => ?_, ?_⟩
    · rw [List.flatten_cons, List.flatten_cons]
      exact z.append h2
    · cases j with
      | zero => cases e1; cases e2; exact h
      | succ j => exact h3 j r' row' (by simpa using e1) (by simpa using e2)
    · rw [List.flatten_cons, List.flatten_cons, List.length_append, List.length_append, z.length, h4]
/-- sum(rows, []) -/
theorem ev_sumLL {α : Type} {C : Cn} {Γ : List Ety} {te : TE} {e : α → PyData} {w : Wp (List (List α))} (h : EvG C Γ te w (fun r => RN (ls2 C.K (e2L e r)))) :
    EvG C Γ (tCB rSumLL (tCons te (tCons (tLst tNil) tNil))) (bnd w fun r => grd (r.flatten.length ≤ 16777216) (ret r.flatten)) (fun r => RN (ls C.K (r.map e))) := fun P X hw B σ H fp en ex Q q => by
  refine h _ X hw B σ H fp en ex _ fun r v H1 hp s1 hr => ?_
  obtain ⟨fp', ⟨p, rs, rfl, rfl, nd, hpp, hl⟩, hf⟩ := hr
  refine ⟨by show (0 : Nat) ≤ _; exact Nat.zero_le _, fun b hb => ?_⟩
  have keep : ∀ a o, H1 a = some o → upd H1 b (.lst []) a = some o := upd_keeps hb
  obtain ⟨rows, h1, h2, h3, h4⟩ := LA.rows hl
  have hfl : (e2L e r).flatten = r.flatten.map e := by
    unfold e2L
    rw [List.map_flatten]
  rw [hfl, List.length_map] at h4
  rw [hfl] at h2
  obtain ⟨npr, ndr⟩ := List.nodup_cons.mp nd
  refine ⟨p, b, rs, rows, rfl, keep _ _ hpp, upd_same, h1, fun x hx e => npr (e ▸ hx), fun j x row e1 e2 => keep _ _ (h3 j x row e1 e2), ?_, by rw [h4]; exact Nat.le_trans hp.1 (by decide), fun l H' eH hl2 => ?_⟩
  · exact fun e => by rw [← e, hb] at hpp; cases hpp
  subst eH
  have hl1 : H1 l = none := by
    rcases hl2 with rfl | z
    · exact hb
    · by_cases e : l = b
      · rw [e]; exact hb
      · rw [upd_ne e] at z
        exact z
  have kp : ∀ a o, H1 a = some o → upd (upd H1 b (.lst [])) l (.lst rows.flatten) a = some o := fun a o e => by
    rw [upd_ne (ne_of_none e hl1)]
    exact keep a o e
  exact q r.flatten (.ref l) _ hp.2 (s1.trans (.same s1.ts kp)) ⟨[l], ⟨l, _, rfl, rfl, upd_same, h2.stay fun a o e _ => kp a o e⟩, fun a ha => by rw [List.mem_singleton.mp ha]; exact s1.back en.tps hl1⟩
/-- d.get(k) -/
theorem ev_dget1 {α : Type} {C : Cn} {Γ : List Ety} {i : Nat} {ty : TE} {e : α → PyData} {wk : Wp Int} (kvs : List (Int × α)) (h : Has Γ i (dk C.K (kvs.map (eP e)))) (hy : EvG C Γ ty wk (fun r => RF C.K (eI r))) :
    EvG C Γ (tDGet1 (tVar i) ty) (bnd wk fun k => ret (valI kvs k)) (fun r => RF C.K (eO e r)) := fun P X hw B σ H fp en ex Q q => by
  obtain ⟨p, a, hv, hf, hp, hz⟩ := En.dkh (C := C) en h
  refine ⟨_, hv, p, rfl, .inl ⟨a, .inl hp⟩, hy _ X hw B σ H fp en ex _ fun k y H1 h1 s1 hk => ?_⟩
  have ek := Fz.int_inv (n := k) hk
  subst ek
  obtain ⟨p', a', hv', hf', hp', hz'⟩ := En.dkh (C := C) (en.step s1) h
  rw [hv] at hv'
  cases hv'
  refine ⟨_, DGet.k (k := .inl k) hp', q _ _ H1 h1 s1 ?_⟩
  have g := hz'.get k
  rw [valI_map, Option.isSome_map] at g
  cases q1 : valI kvs k with
  | none =>
    rw [q1] at g
    have : valV a' (.inl k) = none := by
      have := g.1
      cases q2 : valV a' (.inl k) with
      | none => rfl
      | some v => rw [q2] at this; cases this
    rw [this]
    exact .non
  | some d =>
    obtain ⟨v, g1, g2⟩ := g.2 (e d) (by rw [q1]; rfl)
    rw [g1]
    exact g2
end WL
/-! WL, part 32: xs.pop(); a list or None. -/
namespace WL
open PySem PySem.Spec PyProof.Rows L2
section
variable {C : Cn} {Γ : List Ety} {K : PySem.W.Frag} {α β γ F : Type}
/-- x = xs.pop() -/
def popLW (xs : List α) (k : α → List α → Wp F) : Wp F := fun P X => ∃ x, xs[xs.length - 1]? = some x ∧ k x xs.dropLast P X
theorem fz_dropLast {H : Hp} {vs : List V} {ds : List PyData} (h : FzAll K H vs ds) : FzAll K H vs.dropLast ds.dropLast := by
  rw [List.dropLast_eq_take, List.dropLast_eq_take, h.length]
  exact h.take _
theorem sb_popLSet {res : F → Oc} {N Bk Ct : Cont F} {i j : Nat} {e : α → PyData} {xs : List α} {k : α → List α → Wp F} (h : Γ[i]? = some (.sl (ls C.K (xs.map e)))) (hj : j < Γ.length) (hij : j ≠ i)
    (hk : ∀ x ys, Lands N ((Γ.set i (.sl (ls C.K (ys.map e)))).set j (.sl (fz C.K (e x)))) (k x ys)) : SimB C res N Bk Ct (tAsg (tBM0 C.K "list" rPop (tVar i)) (gName j)) Γ (popLW xs k) := fun P X hm B D ex f n b c σ H fp en => by
  obtain ⟨p, vs, hv, hf, hp, hz⟩ := en.lst h
  obtain ⟨x, hx, hP⟩ := hm
  have hl := hz.length
  rw [List.length_map] at hl
  obtain ⟨y, hy, hyz⟩ := hz.get (i := xs.length - 1) (d := e x) (by rw [List.getElem?_map, hx]; rfl)
  have st : Stay H (upd H p (.lst vs.dropLast)) := fun q o eq z => by
    have : q ≠ p := by
      rintro rfl
      rw [hp] at eq; cases eq; cases z
    rw [upd_ne this]
    exact eq
  refine ⟨_, hv, .inl ⟨rfl, vs, .inl (.inl hp)⟩, p, vs, y, rfl, rfl, hp, by rw [hl]; exact hy, ?_⟩
  have en1 := en.relist (vs' := vs.dropLast) (ds' := xs.dropLast.map e) h hv hf hp (by rw [List.map_dropLast]; exact fz_dropLast hz)
  exact n _ _ (hk x xs.dropLast P X B _ _ _ hP (en1.putF (by rw [List.length_set]; exact hj) (hyz.stay st)))
/-- a list or None -/
def ols (K : PySem.W.Frag) : Option (List PyData) → Sl
  | none => fz K .none
  | some ds => ls K ds
def oL (e : α → PyData) (o : Option (List α)) : Option (List PyData) := o.map (List.map e)
theorem ols_ro (o : Option (List PyData)) : (ols K o).ro = false := by cases o <;> rfl
theorem sb_retNo {res : F → Oc} {N Bk Ct : Cont F} {g : F} (hr : res g = .nw (ols C.K none)) : SimB C res N Bk Ct tRetN Γ (ret g) := fun P X hm B D ex f n b c σ H fp en => f g .non H hm en.fr en.tps (by rw [hr]; exact ⟨[], ⟨rfl, .non⟩, (fun a z => absurd z (by simp)), fun a z => absurd z (by simp)⟩)
theorem sb_retNoV {res : F → Oc} {N Bk Ct : Cont F} {g : F} (hr : res g = .nw (ols C.K none)) : SimB C res N Bk Ct (tRet (tC .non)) Γ (ret g) := fun P X hm B D ex f n b c σ H fp en => f g .non H hm en.fr en.tps (by rw [hr]; exact ⟨[], ⟨rfl, .non⟩, (fun a z => absurd z (by simp)), fun a z => absurd z (by simp)⟩)
theorem ev_olNot {i : Nat} {e : α → PyData} (o : Option (List α)) (h : Has Γ i (ols C.K (oL e o))) : EvG C Γ (tOp rNotN (tVar i) (tC .non)) (ret o.isSome) (fun r => RF C.K (eB r)) := fun P X hw B σ H fp en ex Q q => by
  obtain ⟨v, fq, hv, ho, _⟩ := en.hold h
  refine ⟨v, hv, rfl, q _ _ H hw (.refl en.tps) ?_⟩
  cases o with
  | none =>
    have e1 : v = .non := Fz.non_inv ho.2
    subst e1
    exact .bl false
  | some xs =>
    obtain ⟨p, vs, rfl, _⟩ := ho
    exact .bl true
theorem ev_olIs {i : Nat} {e : α → PyData} (o : Option (List α)) (h : Has Γ i (ols C.K (oL e o))) : EvG C Γ (tOp rIsN (tVar i) (tC .non)) (ret o.isNone) (fun r => RF C.K (eB r)) := fun P X hw B σ H fp en ex Q q => by
  obtain ⟨v, fq, hv, ho, _⟩ := en.hold h
  refine ⟨v, hv, rfl, q _ _ H hw (.refl en.tps) ?_⟩
  cases o with
  | none =>
    have e1 : v = .non := Fz.non_inv ho.2
    subst e1
    exact .bl true
  | some xs =>
    obtain ⟨p, vs, rfl, _⟩ := ho
    exact .bl false
/-- the list, where it is one -/
theorem ev_olR {i : Nat} {e : α → PyData} (o : Option (List α)) (h : Has Γ i (ols C.K (oL e o))) : EvG C Γ (tVar i) (opt o) (fun r => RL C.K (r.map e)) := fun P X hw B σ H fp en ex Q q => by
  obtain ⟨xs, rfl, hP⟩ := hw
  obtain ⟨v, fq, hv, ⟨p, vs, rfl, hf, hp, hz⟩, hoff⟩ := en.hold h
  exact ⟨_, hv, q xs _ H hP (.refl en.tps) ⟨p, vs, rfl, .inl ⟨.inl hp, hoff p (by rw [hf]; exact List.mem_singleton.mpr rfl)⟩, hz⟩⟩
end
end WL
/-! WL, part 33: tuples of a thing and a list; names for rows of a list of lists; any(t), t of tuples. -/
namespace WL
open PySem PySem.Spec PyProof.Rows L2
section
variable {C : Cn} {Γ : List Ety} {K : PySem.W.Frag} {α β γ F : Type}
/-! ### (a thing, a list) -/
def tl (K : PySem.W.Frag) (d : PyData) (ds : List PyData) : Sl where
  own := fun H v fp => ∃ a x p vs, v = .ref a ∧ fp = [p] ∧ SqT K H a [x, .ref p] ∧ Fz K H x d ∧ H p = some (.lst vs) ∧ FzAll K H vs ds
  ro := false
  dom := fun h ha => by
    obtain ⟨_, _, p, vs, _, e, _, _, hp, _⟩ := h
    rw [e] at ha
    rw [List.mem_singleton.mp ha]
    exact ⟨_, hp, rfl⟩
  keep := fun {H H'} {v} {fp} h k => by
    obtain ⟨a, x, p, vs, e1, e2, hs, hx, hp, hz⟩ := h
    have st : Stay H H' := fun a o e z => k a o e (.inr z)
    exact ⟨a, x, p, vs, e1, e2, sqT_stay st hs, hx.stay st, k p _ hp (.inl (by rw [e2]; exact List.mem_singleton.mpr rfl)), hz.stay st⟩
theorem tl_dp {H : Hp} {v : V} {fp : List Addr} {d : PyData} {ds : List PyData} (h : (tl K d ds).own H v fp) : Dp K H v (.tuple [d, .list ds]) := by
  obtain ⟨a, x, p, vs, rfl, _, hs, hx, hp, hz⟩ := h
  exact .tup hs (.cons hx.dp (.cons (.lst (.inl (.inl hp)) hz.dp) .nil))
theorem sb_retTL {res : F → Oc} {N Bk Ct : Cont F} {j : Nat} {te : TE} {w : Wp α} {e : α → PyData} {e' : β → PyData} {xs : List β} {g : α → F} (h : EvG C Γ te w (fun r => RF C.K (e r))) (hj : Γ[j]? = some (.sl (ls C.K (xs.map e')))) (hr : ∀ r, res (g r) = .nw (tl C.K (e r) (xs.map e'))) :
    SimB C res N Bk Ct (tRet (tTup (tCons te (tCons (tVar j) tNil)))) Γ (bnd w fun r => ret (g r)) := fun P X hm B D ex f n b c σ H fp en => h _ X hm B σ H fp en ex _ fun r v H1 hp s hv => by
  have en1 := en.step s
  obtain ⟨p, vs, hvj, hfj, hpj, hzj⟩ := En.lst (C := C) en1 hj
  refine ⟨_, hvj, by show (2 : Nat) ≤ _; decide, fun q hq => ?_⟩
  have s2 : Stp B H1 (upd H1 q (.tup [v, .ref p])) := .new en1.tps hq
  have en2 := en1.step s2
  refine f (g r) (.ref q) _ hp en2.fr s2.ts ?_
  rw [hr]
  have hpf : p ∈ fp j := by rw [hfj]; exact List.mem_singleton.mpr rfl
  refine ⟨[p], ⟨q, v, p, vs, rfl, rfl, .inl (.inl upd_same), hv.stay (s2.stay en1.tps), upd_keeps hq _ _ hpj, hzj.stay (s2.stay en1.tps)⟩, fun a ha => ?_, fun a ha => ?_⟩
  · rw [List.mem_singleton.mp ha]
    exact en.new j p _ hj rfl hpf
  · rw [List.mem_singleton.mp ha]
    exact en.nt j p hpf
/-- a, b = a new (thing, list) -/
theorem sb_unTL {res : F → Oc} {N Bk Ct : Cont F} {i j : Nat} {te : TE} {w : Wp (α × List β)} {e : α → PyData} {e' : β → PyData} {k : α × List β → Wp F} (h : EvG C Γ te w (fun r => RN (tl C.K (e r.1) (r.2.map e')))) (hi : i < Γ.length) (hj : j < Γ.length) (hij : i ≠ j)
    (hk : ∀ x, Lands N ((Γ.set j (.sl (ls C.K (x.2.map e')))).set i (.sl (fz C.K (e x.1)))) (k x)) :
    SimB C res N Bk Ct (tAsg te (gTup C.K 2 (gCons (gName i) (gCons (gName j) gNil)))) Γ (bnd w k) := fun P X hm B D ex f n b c σ H fp en => h _ X hm B σ H fp en ex _ fun r v H1 hp s hv => by
  obtain ⟨fq, ⟨a, x, p, vs, rfl, rfl, hs, hx, hpl, hz⟩, hf⟩ := hv
  refine ⟨a, _, rfl, hs, rfl, x, [.ref p], rfl, .ref p, [], rfl, rfl, ?_⟩
  have en1 := en.step s
  have en2 := (en1.putN (i := j) (S := ls C.K (r.2.map e')) (q := [p]) hj ⟨p, vs, rfl, rfl, hpl, hz⟩ en hf).putF (i := i) (by rw [List.length_set]; exact hi) hx
  rw [List.set_comm _ _ (Ne.symm hij) (l := σ)] at en2
  exact n _ _ (hk r P X B _ _ _ hp en2)
theorem ev_tl0 {i : Nat} {e : α → PyData} {e' : β → PyData} (x : α × List β) (h : Has Γ i (tl C.K (e x.1) (x.2.map e'))) : EvG C Γ (tOp (rIxT C.K) (tVar i) (tC (.int 0))) (ret x.1) (fun r => RF C.K (e r)) := fun P X hw B σ H fp en ex Q q => by
  obtain ⟨v, fq, hv, ⟨a, y, p, vs, rfl, _, hs, hy, _⟩, _⟩ := en.hold h
  exact ⟨_, hv, a, _, 0, y, rfl, rfl, hs, rfl, q x.1 y H hw (.refl en.tps) hy⟩
theorem ev_tlIsaL {i : Nat} {e : α → PyData} {e' : β → PyData} (x : α × List β) (h : Has Γ i (tl C.K (e x.1) (x.2.map e'))) : EvG C Γ (tCB (rIsa C.K "list" PyData.isList) (tCons (tOp (rIxT C.K) (tVar i) (tC (.int 1))) (tCons (tC (.ty "list")) tNil))) (ret true) (fun r => RF C.K (eB r)) := fun P X hw B σ H fp en ex Q q => by
  obtain ⟨v, fq, hv, ⟨a, y, p, vs, rfl, _, hs, hy, hp, hz⟩, _⟩ := en.hold h
  exact ⟨_, hv, a, _, 1, .ref p, rfl, rfl, hs, rfl, .ref p, _, rfl, .lst (.inl (.inl hp)) hz.dp, q true _ H hw (.refl en.tps) (.bl _)⟩
theorem ev_tlIsaT {i : Nat} {e : α → PyData} {e' : β → PyData} (x : α × List β) (h : Has Γ i (tl C.K (e x.1) (x.2.map e'))) : EvG C Γ (tCB (rIsa C.K "tuple" PyData.isTuple) (tCons (tVar i) (tCons (tC (.ty "tuple")) tNil))) (ret true) (fun r => RF C.K (eB r)) := fun P X hw B σ H fp en ex Q q => by
  obtain ⟨v, fq, hv, ho, _⟩ := en.hold h
  exact ⟨_, hv, v, _, rfl, tl_dp ho, q true _ H hw (.refl en.tps) (.bl _)⟩
def eTL (e : α → PyData) (e' : β → PyData) (x : α × List β) : PyData := .tuple [e x.1, .list (x.2.map e')]
def neTL (e : α → PyData) (e' : β → PyData) (x y : α × List β) : Wp Bool := grd (SeqAt.shaped (eTL e e' x) = true ∧ SeqAt.shaped (eTL e e' y) = true) (ret (!PyData.eqv (eTL e e' x) (eTL e e' y)))
theorem ev_neTL {i j : Nat} {e : α → PyData} {e' : β → PyData} (x y : α × List β) (hx : Has Γ i (tl C.K (e x.1) (x.2.map e'))) (hy : Has Γ j (tl C.K (e y.1) (y.2.map e'))) :
    EvG C Γ (tOp (rNeD C.K) (tVar i) (tVar j)) (neTL e e' x y) (fun r => RF C.K (eB r)) := fun P X hw B σ H fp en ex Q q => by
  obtain ⟨v, fq, hv, ho, _⟩ := en.hold hx
  obtain ⟨v', fq', hv', ho', _⟩ := en.hold hy
  exact ⟨v, hv, v', hv', _, _, tl_dp ho, tl_dp ho', hw.1.1, hw.1.2, q _ _ H hw.2 (.refl en.tps) (.bl _)⟩
/-! ### any(t) -/
def rAnyD (K : PySem.W.Frag) : List V → Hp → VK → Prop := fun vs H Q => ∃ (x : V) (ds : List PyData), vs = [x] ∧ Dp K H x (.tuple ds) ∧ PyData.plainAll ds = true ∧ (∀ d ∈ ds, d.fits63) ∧ Q (.bl (ds.any PyData.truthy)) H
theorem cr_anyD {X : Cx} (hK : X.K = K) (hc : X.calm = true) : CallR X (.builtin "any") (rAnyD K) := by
  subst hK
  intro pins s σ H xs us Q I r h
  obtain ⟨x, ds, rfl, hd, hp, hf, q⟩ := h
  cases hd with
  | tup hs hz =>
    obtain ⟨its, rv, hl, _⟩ := I.tuple hs
    rw [Vals.ref1 r]
    obtain ⟨as, hr⟩ := Dp.readsAll I ds _ its hz rv
    exact PySem.W.any_tuple_data (I.ok.hd hc) hl (by simpa using hr) hp hf fun h' tk hk => ⟨.bl _, H, I.kept fun b o eo => hk b o eo, rfl, q⟩
def anyTT (e : α → PyData) (xss : List (List α)) : Wp Bool := grd (PyData.plainAll (xss.map (eT e)) = true ∧ ∀ d ∈ xss.map (eT e), d.fits63) (ret (xss.any fun r => !r.isEmpty))
theorem truthy_eT (e : α → PyData) (xs : List α) : (eT e xs).truthy = !xs.isEmpty := by cases xs <;> rfl
theorem c_anyTT {e : α → PyData} (xss : List (List α)) : CaG C (rAnyD C.K) [RF C.K (eT (eT e) xss)] (anyTT e xss) (fun r => RF C.K (eB r)) := fun P X hw B H0 H vs t0 ts hb h Q q => by
  cases h with
  | cons h1 h2 =>
    cases h2
    refine ⟨_, _, rfl, h1.dp, hw.1.1, hw.1.2, ?_⟩
    rw [List.any_map, show (PyData.truthy ∘ eT e) = fun r : List α => !r.isEmpty from funext fun r => truthy_eT e r]
    exact q _ _ H hw.2 (.refl ts) (.bl _)
/-! ### names for rows -/
/-- a list of lists, its rows' places known -/
def lp2 (K : PySem.W.Frag) (rs : List Addr) (dss : List (List PyData)) : Sl where
  own := fun H v fp => ∃ p, v = .ref p ∧ fp = p :: rs ∧ (p :: rs).Nodup ∧ H p = some (.lst (rs.map V.ref)) ∧ LA K H rs dss
  ro := false
  dom := fun h ha => by
    obtain ⟨p, e1, e2, nd, hp, hl⟩ := h
    exact (ls2 K dss).dom (v := .ref p) (fp := p :: rs) ⟨p, rs, rfl, rfl, nd, hp, hl⟩ (e2 ▸ ha)
  keep := fun {H H'} {v} {fp} h k => by
    obtain ⟨p, e1, e2, nd, hp, hl⟩ := h
    subst e1 e2
    obtain ⟨p', rs', e1, e2, nd', hp', hl'⟩ := (ls2 K dss).keep (v := .ref p) (fp := p :: rs) ⟨p, rs, rfl, rfl, nd, hp, hl⟩ k
    cases e1
    cases e2
    exact ⟨p, rfl, rfl, nd', hp', hl'⟩
/-- the name of a row -/
def alr (rs : List Addr) (j : Nat) : Sl where
  own := fun _ v fp => fp = [] ∧ ∃ r, v = .ref r ∧ rs[j]? = some r
  ro := false
  dom := fun h ha => by rw [h.1] at ha; cases ha
  keep := fun h _ => h
theorem put_self (fp : Nat → List Addr) (i : Nat) : WL.put fp i (fp i) = fp := by
  funext j
  by_cases e : j = i
  · subst e; exact put_same _ _
  · exact put_ne e
/-- a slot's thing said otherwise -/
theorem En.chg {B : Bs} {σ : List (Option V)} {H : Hp} {fp : Nat → List Addr} (en : En B Γ σ H fp) {i : Nat} {S S' : Sl} (hS : Γ[i]? = some (.sl S)) (ro : S.ro = false) (h : ∀ v, S.own H v (fp i) → S'.own H v (fp i)) : En B (Γ.set i (.sl S')) σ H fp := by
  obtain ⟨v, hv, ho⟩ := en.sl i S hS
  have hi : i < Γ.length := (List.getElem?_eq_some_iff.mp hS).1
  have := en.put (i := i) (S := S') (v := v) (q := fp i) hi (h v ho) (fun a ha j hj => en.dis j i a hj ha) (fun a ha => en.nt i a ha) (fun _ a ha => en.new i a S hS ro ha) fun r hr => (en.rr r hr).2.2 i
  rw [set_id σ i (some v) hv, put_self] at this
  exact this
theorem lp2_ls2 {rs : List Addr} {dss : List (List PyData)} {H : Hp} {v : V} {fp : List Addr} (h : (lp2 K rs dss).own H v fp) : (ls2 K dss).own H v fp := by
  obtain ⟨p, e1, e2, nd, hp, hl⟩ := h
  exact ⟨p, rs, e1, e2, nd, hp, hl⟩
theorem En.unpin {B : Bs} {σ : List (Option V)} {H : Hp} {fp : Nat → List Addr} (en : En B Γ σ H fp) {i : Nat} {rs : List Addr} {dss : List (List PyData)} (hS : Γ[i]? = some (.sl (lp2 K rs dss))) : En B (Γ.set i (.sl (ls2 K dss))) σ H fp := en.chg hS rfl fun v h => lp2_ls2 h
theorem En.pin {B : Bs} {σ : List (Option V)} {H : Hp} {fp : Nat → List Addr} (en : En B Γ σ H fp) {i : Nat} {p : Addr} {rs : List Addr} {dss : List (List PyData)} (hS : Γ[i]? = some (.sl (ls2 K dss))) (hf : fp i = p :: rs) : En B (Γ.set i (.sl (lp2 K rs dss))) σ H fp := en.chg hS rfl fun v h => by
  obtain ⟨p', rs', e1, e2, nd, hp, hl⟩ := h
  rw [hf] at e2
  cases e2
  exact ⟨p, e1, hf, nd, hp, hl⟩
theorem ev_unpin {t : TE} {w : Wp α} {R : α → Rk} {i : Nat} {rs : List Addr} {dss : List (List PyData)} (hS : Γ[i]? = some (.sl (lp2 C.K rs dss))) (h : EvG C (Γ.set i (.sl (ls2 C.K dss))) t w R) : EvG C Γ t w R := fun P X hw B σ H fp en ex Q q => h P X hw B σ H fp (en.unpin hS) ex Q q
theorem la_unpin {N : Cont F} {m : Wp F} {i : Nat} {rs : List Addr} {dss : List (List PyData)} (hS : Γ[i]? = some (.sl (lp2 K rs dss))) (h : Lands N (Γ.set i (.sl (ls2 K dss))) m) : Lands N Γ m := fun P X B σ H fp hm en => h P X B σ H fp hm (en.unpin hS)
/-- where a row stands -/
theorem En.rowP {B : Bs} {σ : List (Option V)} {H : Hp} {fp : Nat → List Addr} {i : Nat} {rs : List Addr} {e : β → PyData} {xss : List (List β)} (en : En B Γ σ H fp) (h : Γ[i]? = some (.sl (lp2 C.K rs (e2L e xss)))) :
    ∃ p, σ[i]? = some (some (.ref p)) ∧ fp i = p :: rs ∧ (p :: rs).Nodup ∧ H p = some (.lst (rs.map V.ref)) ∧ LA C.K H rs (e2L e xss) ∧ rs.length = xss.length := by
  obtain ⟨v, hv, p, rfl, e2, nd, hp, hl⟩ := en.sl i _ h
  have hlen := hl.length
  unfold e2L at hlen
  rw [List.length_map] at hlen
  exact ⟨p, hv, e2, nd, hp, hl, hlen⟩
/-- row = xs[u] -/
def openW (xss : List (List β)) (wi : Wp Int) (k : Nat → Wp F) : Wp F := bnd wi fun ix => bnd (opt (ixN xss.length ix)) fun j => k j
theorem sb_open {res : F → Oc} {N Bk Ct : Cont F} {i j : Nat} {ti : TE} {e : β → PyData} {xss : List (List β)} {wi : Wp Int} {k : Nat → Wp F} (h : Γ[i]? = some (.sl (ls2 C.K (e2L e xss)))) (hij : j ≠ i) (hj : j < Γ.length) (hi : EvG C Γ ti wi (fun r => RF C.K (eI r)))
    (hk : ∀ rs a, Lands N ((Γ.set i (.sl (lp2 C.K rs (e2L e xss)))).set j (.sl (alr rs a))) (k a)) : SimB C res N Bk Ct (tAsg (tOp (rIxL C.K) (tVar i) ti) (gName j)) Γ (openW xss wi k) := fun P X hm B D ex f n b c σ H fp en => by
  obtain ⟨p, rs, hv, hf, nd, hp, hl, hlen⟩ := En.row2 (C := C) en h
  refine ⟨_, hv, hi _ X hm B σ H fp en ex _ fun ix y H1 h1 s1 hix => ?_⟩
  have ei := Fz.int_inv (n := ix) hix
  subst ei
  obtain ⟨a, ha, h1⟩ := h1
  have en1 := en.step s1
  obtain ⟨p', rs', hv', hf', nd', hp', hl', hlen'⟩ := En.row2 (C := C) en1 h
  rw [hv] at hv'
  cases hv'
  have hal : a < rs'.length := by rw [hlen']; exact (ixN_seq ha).2.1
  refine ⟨p, rs'.map V.ref, ix, .ref rs'[a], rfl, rfl, .inl (.inl hp'), by
    unfold atI
    rw [List.length_map, hlen', ha]
    show (rs'.map V.ref)[a]? = _
    rw [List.getElem?_map, List.getElem?_eq_getElem hal]
    rfl, n _ _ (hk rs' a P X B _ H1 _ h1 ((en1.pin h hf').put (i := j) (q := []) (by rw [List.length_set]; exact hj) ⟨rfl, _, rfl, List.getElem?_eq_getElem hal⟩ (fun a ha => absurd ha (by simp)) (fun a ha => absurd ha (by simp)) (fun _ a ha => absurd ha (by simp)) fun r hr => by simp))⟩
/-- .. where another row has a name already -/
theorem sb_openP {res : F → Oc} {N Bk Ct : Cont F} {i j : Nat} {rs : List Addr} {ti : TE} {e : β → PyData} {xss : List (List β)} {wi : Wp Int} {k : Nat → Wp F} (h : Γ[i]? = some (.sl (lp2 C.K rs (e2L e xss)))) (hij : j ≠ i) (hj : j < Γ.length) (hi : EvG C Γ ti wi (fun r => RF C.K (eI r)))
    (hk : ∀ a, Lands N (Γ.set j (.sl (alr rs a))) (k a)) : SimB C res N Bk Ct (tAsg (tOp (rIxL C.K) (tVar i) ti) (gName j)) Γ (openW xss wi k) := fun P X hm B D ex f n b c σ H fp en => by
  obtain ⟨p, hv, hf, nd, hp, hl, hlen⟩ := En.rowP (C := C) en h
  refine ⟨_, hv, hi _ X hm B σ H fp en ex _ fun ix y H1 h1 s1 hix => ?_⟩
  have ei := Fz.int_inv (n := ix) hix
  subst ei
  obtain ⟨a, ha, h1⟩ := h1
  have en1 := en.step s1
  obtain ⟨p', hv', hf', nd', hp', hl', hlen'⟩ := En.rowP (C := C) en1 h
  rw [hv] at hv'
  cases hv'
  have hal : a < rs.length := by rw [hlen']; exact (ixN_seq ha).2.1
  refine ⟨p, rs.map V.ref, ix, .ref rs[a], rfl, rfl, .inl (.inl hp'), by
    unfold atI
    rw [List.length_map, hlen', ha]
    show (rs.map V.ref)[a]? = _
    rw [List.getElem?_map, List.getElem?_eq_getElem hal]
    rfl, n _ _ (hk a P X B _ H1 _ h1 (en1.put (i := j) (q := []) hj ⟨rfl, _, rfl, List.getElem?_eq_getElem hal⟩ (fun a ha => absurd ha (by simp)) (fun a ha => absurd ha (by simp)) (fun _ a ha => absurd ha (by simp)) fun r hr => by simp))⟩
/-- a row by its name -/
theorem ev_al {i k j : Nat} {rs : List Addr} {e : β → PyData} {xss : List (List β)} (h : Γ[i]? = some (.sl (lp2 C.K rs (e2L e xss)))) (hk : Γ[k]? = some (.sl (alr rs j))) : EvG C Γ (tVar k) (opt xss[j]?) (fun r => RL C.K (r.map e)) := fun P X hw B σ H fp en ex Q q => by
  obtain ⟨row, hrow, hP⟩ := hw
  obtain ⟨p, hv, hf, nd, hp, hl, hlen⟩ := En.rowP (C := C) en h
  obtain ⟨v, hvk, _, r, rfl, hr⟩ := en.sl k _ hk
  obtain ⟨r', vs, g1, g2, g3⟩ := hl.row hrow
  rw [hr] at g1
  cases g1
  exact ⟨_, hvk, q row _ H hP (.refl en.tps) ⟨r, vs, rfl, .inl ⟨.inl g2, en.nt i r (by rw [hf]; exact List.mem_cons_of_mem _ (List.mem_of_getElem? hr))⟩, g3⟩⟩
/-- row.pop(z), by name -/
def alPopW (xss : List (List β)) (j : Nat) (wz : Wp Int) (k : β → List (List β) → Wp F) : Wp F := bnd (opt xss[j]?) fun row => bnd wz fun z => grd (-(2 ^ 63) ≤ z ∧ z < 2 ^ 63) (bnd (opt (ixN row.length z)) fun a => bnd (opt row[a]?) fun x => k x (xss.set j (row.eraseIdx a)))
theorem alPop_core {i kk j : Nat} {rs : List Addr} {tz : TE} {e : β → PyData} {xss : List (List β)} {wz : Wp Int} {k : β → List (List β) → Wp F} (h : Γ[i]? = some (.sl (lp2 C.K rs (e2L e xss)))) (hkk : Γ[kk]? = some (.sl (alr rs j))) (hz : EvG C Γ tz wz (fun r => RF C.K (eI r)))
    {P : F → Prop} {X : Xn → Prop} (hm : alPopW xss j wz k P X) {B : Bs} {σ : List (Option V)} {H : Hp} {fp : Nat → List Addr} (en : En B Γ σ H fp) (ex : Exok C B X) {Q : VK}
    (q : ∀ x y ys H', k x ys P X → En B (Γ.set i (.sl (lp2 C.K rs (e2L e ys)))) σ H' fp → Fz C.K H' y (e x) → Q y H') : tBM C.K "list" rPopAt (tVar kk) (tCons tz tNil) σ H Q := by
  obtain ⟨row, hrow, hm⟩ := hm
  obtain ⟨p, hv, hf, nd, hp, hl, hlen⟩ := En.rowP (C := C) en h
  obtain ⟨v, hvk, _, r, rfl, hr⟩ := en.sl kk _ hkk
  obtain ⟨r', vs, g1, g2, g3⟩ := hl.row hrow
  rw [hr] at g1
  cases g1
  refine ⟨_, hvk, .inl ⟨rfl, vs, .inl (.inl g2)⟩, hz _ X hm B σ H fp en ex _ fun z v H2 h2 s2 hx => ?_⟩
  have ez := Fz.int_inv (n := z) hx
  subst ez
  obtain ⟨hg, a, ha, x, hx2, h2⟩ := h2
  have en2 := (en.step s2).unpin h
  have h' : (Γ.set i (.sl (ls2 C.K (e2L e xss))))[i]? = some (.sl (ls2 C.K (e2L e xss))) := List.getElem?_set_self (List.getElem?_eq_some_iff.mp h).1
  obtain ⟨p2, rs2, hv2, hf2, nd2, hp2, hl2, hlen2⟩ := En.row2 (C := C) en2 h'
  rw [hv] at hv2
  cases hv2
  rw [hf] at hf2
  cases hf2
  obtain ⟨r2, vs2, k1, k2, k3⟩ := hl2.row hrow
  rw [hr] at k1
  cases k1
  have hll := k3.length
  rw [List.length_map] at hll
  obtain ⟨y, hy, hyz⟩ := k3.get (i := a) (d := e x) (by rw [List.getElem?_map, hx2]; rfl)
  have st : Stay H2 (upd H2 r (.lst (vs2.eraseIdx a))) := fun q o eq z => by
    rw [upd_ne (fun w => by rw [w, k2] at eq; cases eq; cases z)]
    exact eq
  have en3 := en2.rerow h' hv hf nd2 hp2 hl2 hr k2 (row' := row.eraseIdx a) (vs' := vs2.eraseIdx a) (by rw [map_erase]; exact fz_erase _ _ _ k3)
  rw [List.set_set] at en3
  have en4 := en3.pin (K := C.K) (List.getElem?_set_self (List.getElem?_eq_some_iff.mp h).1) hf
  rw [List.set_set] at en4
  exact ⟨r, vs2, z, a, y, rfl, rfl, k2, hg.1, hg.2, by rw [hll]; exact (ixN_seq ha).1, hy, q x y _ _ h2 en4 (hyz.stay st)⟩
theorem sb_alPopDrop {res : F → Oc} {N Bk Ct : Cont F} {i kk j : Nat} {rs : List Addr} {tz : TE} {e : β → PyData} {xss : List (List β)} {wz : Wp Int} {k : β → List (List β) → Wp F} (h : Γ[i]? = some (.sl (lp2 C.K rs (e2L e xss)))) (hkk : Γ[kk]? = some (.sl (alr rs j))) (hz : EvG C Γ tz wz (fun r => RF C.K (eI r)))
    (hk : ∀ x ys, Lands N (Γ.set i (.sl (lp2 C.K rs (e2L e ys)))) (k x ys)) : SimB C res N Bk Ct (tDrop (tBM C.K "list" rPopAt (tVar kk) (tCons tz tNil))) Γ (alPopW xss j wz k) := fun P X hm B D ex f n b c σ H fp en =>
  alPop_core h hkk hz hm en ex fun x y ys H' hP en' _ => n _ _ (hk x ys P X B σ H' fp hP en')
/-- there.append(row.pop(z)), by names -/
def alMvW (xss : List (List β)) (j2 j : Nat) (wz : Wp Int) (k : List (List β) → Wp F) : Wp F := bnd (opt xss[j2]?) fun _ => alPopW xss j wz fun x ys => bnd (opt ys[j2]?) fun row => grd (row.length < 16777216) (k (ys.set j2 (row ++ [x])))
theorem sb_alMv {res : F → Oc} {N Bk Ct : Cont F} {i k2 kk j2 j : Nat} {rs : List Addr} {tz : TE} {e : β → PyData} {xss : List (List β)} {wz : Wp Int} {k : List (List β) → Wp F} (h : Γ[i]? = some (.sl (lp2 C.K rs (e2L e xss)))) (hk2 : Γ[k2]? = some (.sl (alr rs j2))) (hkk : Γ[kk]? = some (.sl (alr rs j))) (hz : EvG C Γ tz wz (fun r => RF C.K (eI r)))
    (hk : ∀ ys, Lands N (Γ.set i (.sl (lp2 C.K rs (e2L e ys)))) (k ys)) : SimB C res N Bk Ct (tDrop (tBM C.K "list" rAppend (tVar k2) (tCons (tBM C.K "list" rPopAt (tVar kk) (tCons tz tNil)) tNil))) Γ (alMvW xss j2 j wz k) := fun P X hm B D ex f n b c σ H fp en => by
  obtain ⟨row0, hrow0, hm⟩ := hm
  obtain ⟨p, hv, hf, nd, hp, hl, hlen⟩ := En.rowP (C := C) en h
  obtain ⟨v, hvk, _, r, rfl, hr⟩ := en.sl k2 _ hk2
  obtain ⟨r', vs, g1, g2, g3⟩ := hl.row hrow0
  rw [hr] at g1
  cases g1
  refine ⟨_, hvk, .inl ⟨rfl, vs, .inl (.inl g2)⟩, alPop_core h hkk hz hm en ex fun x y ys H2 h2 en2 hy => ?_⟩
  obtain ⟨row2, hrow2, h2⟩ := h2
  have en2' := en2.unpin (K := C.K) (List.getElem?_set_self (List.getElem?_eq_some_iff.mp h).1)
  rw [List.set_set] at en2'
  have hS2 : (Γ.set i (.sl (ls2 C.K (e2L e ys))))[i]? = some (.sl (ls2 C.K (e2L e ys))) := List.getElem?_set_self (List.getElem?_eq_some_iff.mp h).1
  obtain ⟨p2, rs2, hv2, hf2, nd2, hp2, hl2, hlen2⟩ := En.row2 (C := C) en2' hS2
  rw [hv] at hv2
  cases hv2
  rw [hf] at hf2
  cases hf2
  obtain ⟨r2, vs2, k1, k2, k3⟩ := hl2.row hrow2
  rw [hr] at k1
  cases k1
  have hll := k3.length
  rw [List.length_map] at hll
  have en3 := en2'.rerow hS2 hv hf nd2 hp2 hl2 hr k2 (row' := row2 ++ [x]) (vs' := vs2 ++ [y]) (by rw [List.map_append]; exact k3.append (.one hy))
  rw [List.set_set] at en3
  have en4 := en3.pin (K := C.K) (List.getElem?_set_self (List.getElem?_eq_some_iff.mp h).1) hf
  rw [List.set_set] at en4
  exact ⟨r, vs2, y, rfl, rfl, k2, by rw [hll]; exact lc_list_room _ h2.1, n _ _ (hk _ P X B σ _ fp h2.2 en4)⟩
end
end WL
/-! WL, part 34: comprehensions with three for. -/
namespace WL
open PySem PySem.Spec PyProof.Rows L2
theorem turn3_0 (elt t0 i0 t1 i1 t2 i2 : Expr) (ifs0 ifs1 ifs2 : List Expr) (scope : Scope) (pos : Pos) (it acc : Value) (env : Env) :
    compTurn (.ListComp elt [⟨t0, i0, ifs0, 0⟩, ⟨t1, i1, ifs1, 0⟩, ⟨t2, i2, ifs2, 0⟩] scope pos) 0 it acc env = (do
      standAt i0.pos
      match ← pyNext it with
      | none => pure (.done .next)
      | some v =>
        letOwnedTupleGo t0 it v
        assign t0 env v
        let mut ok := true
        for c in ifs0 do
          if ok then ok ← isTrue c env (eval c env)
        if ok then
          let x ← eval i1 env
          standAt i1.pos
          let x ← foldedSetIterable i1 env x
          let _ ← runOwn (.compStart (.ListComp elt [⟨t0, i0, ifs0, 0⟩, ⟨t1, i1, ifs1, 0⟩, ⟨t2, i2, ifs2, 0⟩] scope pos) 1 (← holding [x] (pyIter x)) acc env) env
        again (.compLoop (.ListComp elt [⟨t0, i0, ifs0, 0⟩, ⟨t1, i1, ifs1, 0⟩, ⟨t2, i2, ifs2, 0⟩] scope pos) 0 it acc env)) := by rfl
theorem turn3_1 (elt t0 i0 t1 i1 t2 i2 : Expr) (ifs0 ifs1 ifs2 : List Expr) (scope : Scope) (pos : Pos) (it acc : Value) (env : Env) :
    compTurn (.ListComp elt [⟨t0, i0, ifs0, 0⟩, ⟨t1, i1, ifs1, 0⟩, ⟨t2, i2, ifs2, 0⟩] scope pos) 1 it acc env = (do
      standAt i1.pos
      match ← pyNext it with
      | none => pure (.done .next)
      | some v =>
        letOwnedTupleGo t1 it v
        assign t1 env v
        let mut ok := true
        for c in ifs1 do
          if ok then ok ← isTrue c env (eval c env)
        if ok then
          let x ← eval i2 env
          standAt i2.pos
          let x ← foldedSetIterable i2 env x
          let _ ← runOwn (.compStart (.ListComp elt [⟨t0, i0, ifs0, 0⟩, ⟨t1, i1, ifs1, 0⟩, ⟨t2, i2, ifs2, 0⟩] scope pos) 2 (← holding [x] (pyIter x)) acc env) env
        again (.compLoop (.ListComp elt [⟨t0, i0, ifs0, 0⟩, ⟨t1, i1, ifs1, 0⟩, ⟨t2, i2, ifs2, 0⟩] scope pos) 1 it acc env)) := by rfl
theorem turn3_2 (elt t0 i0 t1 i1 t2 i2 : Expr) (ifs0 ifs1 ifs2 : List Expr) (scope : Scope) (pos : Pos) (it acc : Value) (env : Env) :
    compTurn (.ListComp elt [⟨t0, i0, ifs0, 0⟩, ⟨t1, i1, ifs1, 0⟩, ⟨t2, i2, ifs2, 0⟩] scope pos) 2 it acc env = (do
      standAt i2.pos
      match ← pyNext it with
      | none => pure (.done .next)
      | some v =>
        letOwnedTupleGo t2 it v
        assign t2 env v
        let mut ok := true
        for c in ifs2 do
          if ok then ok ← isTrue c env (eval c env)
        if ok then
          (do let _ ← call (.builtin "list.append") [acc, ← eval elt env])
        again (.compLoop (.ListComp elt [⟨t0, i0, ifs0, 0⟩, ⟨t1, i1, ifs1, 0⟩, ⟨t2, i2, ifs2, 0⟩] scope pos) 2 it acc env)) := by rfl

/-- what stands behind the tests of a clause: the accumulator, what is to hold then, the exception's wish -/
abbrev Rest := Value → (Shared → Prop) → (Value → Shared → Prop) → Shared → Prop
def restEl (prog : Program) (w : World) (A : Around) (env : Env) (elt : Expr) : Rest := fun acc F E s => wpAny (model prog w) A (eval elt env) (fun x s₄ => wpAny (model prog w) A (call (.builtin "list.append") [acc, x]) (fun _ s₅ => F s₅) E s₄) E s
def restFor (prog : Program) (w : World) (A : Around) (env : Env) (comp : Expr) (k : Nat) (i1 : Expr) : Rest := fun acc F E s => wpAny (model prog w) A (eval i1 env) (fun x s₄ => wpAny (model prog w) A (pyIter x) (fun it1 s₅ =>
  codeAny (model prog w) A (.compStart comp k it1 acc env) (fun r s' => match r with
    | .ok _ => F s'
    | .error _ => False) s₅) E s₄) E s
def HLoop (prog : Program) (w : World) (A : Around) (env : Env) (comp : Expr) (k : Nat) (tg : Expr) (ifs : List Expr) (rest : Rest) : Prop := ∀ (it acc : Value) (R : Result → Shared → Prop) (I : Nat → Shared → Prop)
    (turn : ∀ n s, I n s → wpAny (model prog w) A (pyNext it) (fun r s₁ => match r with
      | none => R (.ok .next) s₁
      | some v => wpAny (model prog w) A (letOwnedTupleGo tg it v) (fun _ s₁' => wpAny (model prog w) A (assign tg env v) (fun _ s₂ =>
          wpAny (model prog w) A (forIn ifs true fun c r => if r = true then do let ok ← isTrue c env (eval c env); pure (ForInStep.yield ok) else pure (ForInStep.yield r)) (fun ok s₃ =>
            if ok = true then rest acc (fun s' => ∃ m, m < n ∧ I m s') (notedBy (model prog w) A env fun e s' => R (.error e) s') s₃
            else ∃ m, m < n ∧ I m s₃) (notedBy (model prog w) A env fun e s' => R (.error e) s') s₂) (notedBy (model prog w) A env fun e s' => R (.error e) s') s₁') (notedBy (model prog w) A env fun e s' => R (.error e) s') s₁) (notedBy (model prog w) A env fun e s' => R (.error e) s') s)
    (n : Nat) (s : Shared) (h : I n s), codeAny (model prog w) A (.compLoop comp k it acc env) R s
def HStart (prog : Program) (w : World) (A : Around) (env : Env) (comp : Expr) (k : Nat) : Prop := ∀ (it acc : Value) (R : Result → Shared → Prop) (s : Shared) (h0 : codeAny (model prog w) A (.compLoop comp k it acc env) R s)
    (h : wpAny (model prog w) A (pyIter it) (fun it' s' => codeAny (model prog w) A (.compLoop comp k it' acc env) R s') (notedBy (model prog w) A env fun x s' => R (.error x) s') s), codeAny (model prog w) A (.compStart comp k it acc env) R s
section
variable {prog : Program} {w : World} {A : Around} {elt t0 i0 t1 i1 t2 i2 : Expr} {ifs0 ifs1 ifs2 : List Expr} {scope : Scope} {pos : Pos} {env : Env}
theorem loop3_0 (hs : ∀ x, foldedSetIterable i1 env x = pure x) : HLoop prog w A env (.ListComp elt [⟨t0, i0, ifs0, 0⟩, ⟨t1, i1, ifs1, 0⟩, ⟨t2, i2, ifs2, 0⟩] scope pos) 0 t0 ifs0 (restFor prog w A env (.ListComp elt [⟨t0, i0, ifs0, 0⟩, ⟨t1, i1, ifs1, 0⟩, ⟨t2, i2, ifs2, 0⟩] scope pos) 1 i1) := fun it acc R I turn n s h => by
  refine codeAny_loop rfl I (fun n s hI => ?_) n h
  show wpAny _ A ((compTurn (.ListComp elt [⟨t0, i0, ifs0, 0⟩, ⟨t1, i1, ifs1, 0⟩, ⟨t2, i2, ifs2, 0⟩] scope pos) 0 it acc env).onRaise (fun x => do noteFrame x env; theTreesLotGoes x)) _ _ s
  refine wpAny_noted ?_
  rw [turn3_0]
  refine wpAny_bind (wpAny_standAt (wpAny_bind (wpAny_mono (turn n s hI) (fun r s₁ h₁ => ?_) fun _ _ h' => h')))
  cases r with
  | none => exact wpAny_pure h₁
  | some v =>
    refine wpAny_bind (wpAny_mono h₁ (fun _ s₁' h₁' => ?_) fun _ _ h' => h')
    refine wpAny_bind (wpAny_mono h₁' (fun _ s₂ h₂ => wpAny_bind (wpAny_mono h₂ (fun ok s₃ h₃ => ?_) fun _ _ h' => h')) fun _ _ h' => h')
    cases ok with
    | false => exact wpAny_pure ⟨rfl, h₃⟩
    | true =>
      refine wpAny_bind (wpAny_mono h₃ (fun x s₄ h₄ => ?_) fun _ _ h' => h')
      refine wpAny_bind (wpAny_standAt (wpAny_bind (wpAny_of_eq (hs x) (wpAny_bind (wpAny_holding (wpAny_mono h₄ (fun it1 s₅ h₅ => ?_) fun _ _ h' => h'))))))
      refine wpAny_bind (wpAny_runOwn ?_)
      rw [Around.mark_none]
      refine codeAny_mono h₅ fun r s' hr => ?_
      cases r with
      | ok f =>
        first
          | exact wpAny_pure ⟨rfl, hr⟩
          | exact wpAny_bind (wpAny_pure (wpAny_pure ⟨rfl, hr⟩))
      | error e => exact hr.elim
theorem loop3_1 (hs : ∀ x, foldedSetIterable i2 env x = pure x) : HLoop prog w A env (.ListComp elt [⟨t0, i0, ifs0, 0⟩, ⟨t1, i1, ifs1, 0⟩, ⟨t2, i2, ifs2, 0⟩] scope pos) 1 t1 ifs1 (restFor prog w A env (.ListComp elt [⟨t0, i0, ifs0, 0⟩, ⟨t1, i1, ifs1, 0⟩, ⟨t2, i2, ifs2, 0⟩] scope pos) 2 i2) := fun it acc R I turn n s h => by
  refine codeAny_loop rfl I (fun n s hI => ?_) n h
  show wpAny _ A ((compTurn (.ListComp elt [⟨t0, i0, ifs0, 0⟩, ⟨t1, i1, ifs1, 0⟩, ⟨t2, i2, ifs2, 0⟩] scope pos) 1 it acc env).onRaise (fun x => do noteFrame x env; theTreesLotGoes x)) _ _ s
  refine wpAny_noted ?_
  rw [turn3_1]
  refine wpAny_bind (wpAny_standAt (wpAny_bind (wpAny_mono (turn n s hI) (fun r s₁ h₁ => ?_) fun _ _ h' => h')))
  cases r with
  | none => exact wpAny_pure h₁
  | some v =>
    refine wpAny_bind (wpAny_mono h₁ (fun _ s₁' h₁' => ?_) fun _ _ h' => h')
    refine wpAny_bind (wpAny_mono h₁' (fun _ s₂ h₂ => wpAny_bind (wpAny_mono h₂ (fun ok s₃ h₃ => ?_) fun _ _ h' => h')) fun _ _ h' => h')
    cases ok with
    | false => exact wpAny_pure ⟨rfl, h₃⟩
    | true =>
      refine wpAny_bind (wpAny_mono h₃ (fun x s₄ h₄ => ?_) fun _ _ h' => h')
      refine wpAny_bind (wpAny_standAt (wpAny_bind (wpAny_of_eq (hs x) (wpAny_bind (wpAny_holding (wpAny_mono h₄ (fun it1 s₅ h₅ => ?_) fun _ _ h' => h'))))))
      refine wpAny_bind (wpAny_runOwn ?_)
      rw [Around.mark_none]
      refine codeAny_mono h₅ fun r s' hr => ?_
      cases r with
      | ok f =>
        first
          | exact wpAny_pure ⟨rfl, hr⟩
          | exact wpAny_bind (wpAny_pure (wpAny_pure ⟨rfl, hr⟩))
      | error e => exact hr.elim
theorem loop3_2 : HLoop prog w A env (.ListComp elt [⟨t0, i0, ifs0, 0⟩, ⟨t1, i1, ifs1, 0⟩, ⟨t2, i2, ifs2, 0⟩] scope pos) 2 t2 ifs2 (restEl prog w A env elt) := fun it acc R I turn n s h => by
  refine codeAny_loop rfl I (fun n s hI => ?_) n h
  show wpAny _ A ((compTurn (.ListComp elt [⟨t0, i0, ifs0, 0⟩, ⟨t1, i1, ifs1, 0⟩, ⟨t2, i2, ifs2, 0⟩] scope pos) 2 it acc env).onRaise (fun x => do noteFrame x env; theTreesLotGoes x)) _ _ s
  refine wpAny_noted ?_
  rw [turn3_2]
  refine wpAny_bind (wpAny_standAt (wpAny_bind (wpAny_mono (turn n s hI) (fun r s₁ h₁ => ?_) fun _ _ h' => h')))
  cases r with
  | none => exact wpAny_pure h₁
  | some v =>
    refine wpAny_bind (wpAny_mono h₁ (fun _ s₁' h₁' => ?_) fun _ _ h' => h')
    refine wpAny_bind (wpAny_mono h₁' (fun _ s₂ h₂ => wpAny_bind (wpAny_mono h₂ (fun ok s₃ h₃ => ?_) fun _ _ h' => h')) fun _ _ h' => h')
    cases ok with
    | false => exact wpAny_pure ⟨rfl, h₃⟩
    | true =>
      exact wpAny_bind (wpAny_bind (wpAny_mono h₃ (fun x s₄ h₄ => wpAny_bind (wpAny_mono h₄ (fun _ s₅ h₅ => wpAny_pure (wpAny_pure ⟨rfl, h₅⟩)) fun _ _ h' => h')) fun _ _ h' => h'))
theorem start3_1 : HStart prog w A env (.ListComp elt [⟨t0, i0, ifs0, 0⟩, ⟨t1, i1, ifs1, 0⟩, ⟨t2, i2, ifs2, 0⟩] scope pos) 1 := fun it acc R s h0 h => by
  refine codeAny_of_tree ?_
  show wpAny _ _ ((compStart (.ListComp elt [⟨t0, i0, ifs0, 0⟩, ⟨t1, i1, ifs1, 0⟩, ⟨t2, i2, ifs2, 0⟩] scope pos) 1 it acc env).onRaise (fun x => do noteFrame x env; standAt theWindowsPlace)) _ _ s
  refine wpAny_notedAt ?_
  unfold compStart
  show wpAny _ _ (ask >>= _) _ _ s
  refine wpAny_bind (wpAny_askSetting (wpAny_ite ?_))
  split
  · first
      | exact wpAny_bind (wpAny_pure (wpAny_pure (And.intro rfl h0)))
      | exact wpAny_pure (And.intro rfl h0)
  · first
      | exact wpAny_bind (wpAny_rule (wpAny_bind (wpAny_standAt (wpAny_bind (wpAny_mono h (fun it' s' h' => wpAny_pure (And.intro rfl h')) fun _ _ x => x)))))
      | (refine wpAny_bind (wpAny_rule ?_); show wpAny _ _ (standAt i1.pos >>= _) _ _ s; exact wpAny_bind (wpAny_standAt (wpAny_bind (wpAny_mono h (fun it' s' h' => wpAny_pure (And.intro rfl h')) fun _ _ x => x))))
theorem start3_2 : HStart prog w A env (.ListComp elt [⟨t0, i0, ifs0, 0⟩, ⟨t1, i1, ifs1, 0⟩, ⟨t2, i2, ifs2, 0⟩] scope pos) 2 := fun it acc R s h0 h => by
  refine codeAny_of_tree ?_
  show wpAny _ _ ((compStart (.ListComp elt [⟨t0, i0, ifs0, 0⟩, ⟨t1, i1, ifs1, 0⟩, ⟨t2, i2, ifs2, 0⟩] scope pos) 2 it acc env).onRaise (fun x => do noteFrame x env; standAt theWindowsPlace)) _ _ s
  refine wpAny_notedAt ?_
  unfold compStart
  show wpAny _ _ (ask >>= _) _ _ s
  refine wpAny_bind (wpAny_askSetting (wpAny_ite ?_))
  split
  · first
      | exact wpAny_bind (wpAny_pure (wpAny_pure (And.intro rfl h0)))
      | exact wpAny_pure (And.intro rfl h0)
  · first
      | exact wpAny_bind (wpAny_rule (wpAny_bind (wpAny_standAt (wpAny_bind (wpAny_mono h (fun it' s' h' => wpAny_pure (And.intro rfl h')) fun _ _ x => x)))))
      | (refine wpAny_bind (wpAny_rule ?_); show wpAny _ _ (standAt i2.pos >>= _) _ _ s; exact wpAny_bind (wpAny_standAt (wpAny_bind (wpAny_mono h (fun it' s' h' => wpAny_pure (And.intro rfl h')) fun _ _ x => x))))
end
end WL
/-! WL, part 35: comprehensions with three for, read. -/
namespace WL
open PySem PySem.Spec PyProof.Rows L2
/-- slots, heap, the list's place, what is to be reached -/
abbrev TB := L2.St → Hp → Addr → (Hp → Prop) → Prop
def tbE (te : TE) : TB := fun σ H D Nx => te σ H fun y H7 => ∃ acc, H7 D = some (.lst acc) ∧ acc.length < sizeLine ∧ Nx (upd H7 D (.lst (acc ++ [y])))
def tbFor (wi : TI) (g : TG) (tt : TT) (vs : List Nat) (tb : TB) : TB := fun σ H D Nx => wi σ H fun J H1 => ∃ W : Nat → Nat → Hp → Prop, (∃ m, W 0 m H1) ∧ ∀ i m H, W i m H →
  (J.stop i H ∧ Nx H) ∨ (J.go i H ∧ ∃ Nx1 : Hp → Prop, (∀ H', Nx1 H' → ∃ m', m' < m ∧ W (i + 1) m' H') ∧ ∀ x H', J.yld i H x H' → g x (wipe σ vs) H' fun σ2 H2 => wipe σ2 vs = wipe σ vs ∧ tt σ2 H2 fun b H3 =>
    if b = true then tb σ2 H3 D Nx1 else Nx1 H3)
def tLcB (wi : TI) (g : TG) (tt : TT) (vs : List Nat) (tb : TB) : TE := fun σ H Q => wi σ H fun J H1 => ∀ D, H1 D = none → ∃ W : Nat → Nat → Hp → Prop, (∃ m, W 0 m (upd H1 D (.lst []))) ∧ ∀ i m H, W i m H →
  (J.stop i H ∧ Q (.ref D) H) ∨ (J.go i H ∧ ∃ Nx : Hp → Prop, (∀ H', Nx H' → ∃ m', m' < m ∧ W (i + 1) m' H') ∧ ∀ x H', J.yld i H x H' → g x (wipe σ vs) H' fun σ2 H2 => wipe σ2 vs = wipe σ vs ∧ tt σ2 H2 fun b H3 =>
    if b = true then tb σ2 H3 D Nx else Nx H3)
/-- the rest of a comprehension, in its block's context -/
def PB (X : Cx) (own : List Nat) (rest : Rest) (tb : TB) : Prop := ∀ (pins : List (Addr × Obj)) (s : Shared) (σ : L2.St) (H : Hp) (D : Addr) (Nx : Hp → Prop) (F : Shared → Prop) (E : Value → Shared → Prop), Inv X pins σ H s → tb σ H D Nx →
  (∀ σ' H' s', Inv X pins σ' H' s' → σ.length = σ'.length → (∀ (j : Nat) v, j ∉ own → σ[j]? = some (some v) → σ'[j]? = some (some v)) → Nx H' → F s') → rest (.ref D) F E s
section
variable {X : Cx} {own : List Nat} {elt tg iter : Expr} {ifs : List Expr} {te : TE} {wi : TI} {g : TG} {tt : TT} {tb : TB} {rest : Rest} {comp : Expr} {k : Nat} {vs : List Nat}
theorem pb_el (hx : X.xe = fun _ _ => False) (he : PE X elt te) : PB X [] (restEl X.prog X.w X.A X.env elt) (tbE te) := fun pins s σ H D Nx F E I h fin => by
  have hr := he.run pins s σ H _ I h
  rw [hx] at hr
  refine thnF hr fun z s1 ⟨yv, H1, I1, r1, acc, hD, hz, nx⟩ => ?_
  exact app_ok I1 hD hz r1 fun s2 I2 => fin σ _ _ I2 rfl (fun _ _ _ h => h) nx
theorem pb_for (hx : X.xe = fun _ _ => False) (hc : X.calm = true) (hv : ∀ i ∈ own, i ∈ vs) (hi : PI X tg iter wi) (hg : PG X tg g) (ht : PTs X ifs tt) (hb : PB X own rest tb) (hl : HLoop X.prog X.w X.A X.env comp k tg ifs rest) (hs : HStart X.prog X.w X.A X.env comp k) :
    PB X vs (restFor X.prog X.w X.A X.env comp k iter) (tbFor wi g tt vs tb) := fun pins s σ H D Nx F E I h fin => by
  have hr := hi.run pins s σ H _ I h
  rw [hx] at hr
  refine thnF hr fun xv s1 hx1 => thnF hx1 fun itv s2 h2 => ?_
  obtain ⟨it, fp, tn, J, H2, e, I2, T, st2, f2, W, ⟨m0, w0⟩, turn⟩ := h2
  subst e
  have stat : ∀ {H' : Hp}, (∀ b ∈ fp, H' b = none) → ∀ b ∈ fp, FpOk X pins H' b := fun hn b hb => ⟨hn b hb, (f2 b hb).2⟩
  have loop : codeAny (model X.prog X.w) X.A (.compLoop comp k (.ref it) (.ref D) X.env)
      (fun r s' => match r with
        | .ok _ => F s'
        | .error _ => False) s2 := by
    refine hl (.ref it) (.ref D) _ (fun n s' => ∃ i H', Inv X pins (wipe σ vs) H' s' ∧ tn i s'.heap ∧ (∀ b ∈ fp, H' b = none) ∧ W i n H') ?_ m0 _ ⟨0, H2, I2.weak (wipe_length _ _) (fun j v e => (wipe_some e).1), st2, fun b hb => (f2 b hb).1, w0⟩
    rintro n s3 ⟨i, H3, I3, st3, n3, w3⟩
    rcases turn i n H3 w3 with ⟨stop, nx⟩ | ⟨go, Nx1, hNx1, step⟩
    · refine thnF (T.done X rfl rfl rfl hc i _ s3 (wipe σ vs) H3 (fun _ _ => False) I3 (stat n3) st3 stop) fun r s4 ⟨hr, I4⟩ => ?_
      subst hr
      exact fin _ _ _ I4 (wipe_length _ _).symm (fun j v hj e => by rw [wipe_out hj]; exact e) nx
    · refine thnF (T.item X rfl rfl rfl hc i _ s3 (wipe σ vs) H3 (fun _ _ => False) I3 (stat n3) st3 go) fun r s4 ⟨u, hr, h4⟩ => ?_
      subst hr
      refine thnF h4 fun _ s5 ⟨x, H5, I5, r5, y5, st5, n5⟩ => ?_
      have I5' := I5.pinned (stat n5) (T.obj _ _ st5)
      have hgr := hg.run _ s5 (wipe σ vs) H5 x u _ I5' r5 (step x H5 y5)
      rw [hx] at hgr
      refine thnF hgr fun _ s6 ⟨σ6, H6, I6, hw6, q6⟩ => ?_
      have htr := ht.run _ s6 σ6 H6 _ I6 q6
      rw [hx] at htr
      refine thnF htr fun b s7 ⟨H7, I7, q7⟩ => ?_
      have fin1 : ∀ (σ' : L2.St) (H' : Hp) (s' : Shared), Inv X (pins ++ pinsAt fp s5.heap) σ' H' s' → σ6.length = σ'.length → (∀ (j : Nat) v, j ∉ own → σ6[j]? = some (some v) → σ'[j]? = some (some v)) → Nx1 H' → ∃ m, m < n ∧ ∃ i H', Inv X pins (wipe σ vs) H' s' ∧ tn i s'.heap ∧ (∀ b ∈ fp, H' b = none) ∧ W i m H' := fun σ' H' s' I' hln hk nx => by
        obtain ⟨m', hm, w'⟩ := hNx1 H' nx
        have pin' : ∀ b ∈ fp, ∀ o, s5.heap.get? b = some o → s'.heap.get? b = some o ∧ H' b = none := fun b hb o e =>
          let z := I'.pin (b, o) (List.mem_append_right _ (List.mem_append_right _ (mem_pinsAt hb e)))
          ⟨z.1, z.2.1⟩
        refine ⟨m', hm, i + 1, H', I'.unpinned.weak ?_ (fun j v e => ?_), T.keep _ _ _ st5 fun b hb o e => (pin' b hb o e).1, fun b hb => ?_, w'⟩
        · have := congrArg List.length hw6
          rw [wipe_length, wipe_length] at this
          rw [wipe_length]
          omega
        · obtain ⟨_, e2⟩ := wipe_some e
          rw [← hw6] at e
          exact hk j v (fun z => e2 (hv j z)) (wipe_some e).1
        · obtain ⟨o, e, _⟩ := T.obj _ _ st5 b hb
          exact (pin' b hb o e).2
      cases b with
      | false =>
        simp only [Bool.false_eq_true, if_false] at q7 ⊢
        exact fin1 _ _ _ I7 rfl (fun _ _ _ h => h) q7
      | true =>
        simp only [if_true] at q7 ⊢
        exact hb _ s7 σ6 H7 D Nx1 _ _ I7 q7 fin1
  exact hs _ _ _ _ loop (T.self X.A 0 _ _ _ st2 loop)
end
section
variable {X : Cx}
theorem lc3_core {pins : List (Addr × Obj)} {s : Shared} {σ : L2.St} {H : Hp} {Q : VK} {elt tg iter tg1 iter1 tg2 iter2 : Expr} {ifs ifs1 ifs2 : List Expr} {scope : Scope} {own : List (Str × Nat)} {own1 : List Nat} {pos pos' : Pos} {wi : TI} {g : TG} {tt : TT} {tb : TB} {use : Option (Value → Sem Unit)} {Qf : Value → Shared → Prop}
    (hc : X.calm = true) (hN : X.N.Nodup) (I : Inv X pins σ H s) (hi : PI X tg iter wi) (ok : BlkOk X.N X.env.scope scope own) (hv : ∀ i ∈ own1, i ∈ own.map (·.2))
    (hg : ∀ (s : Shared) (H : Hp) (C : Addr) (cl : List (Str × Addr)) (fp : List Addr), PG (X.blk s H scope (compEnvC scope cl C X.env) fp) tg g) (ht : ∀ (s : Shared) (H : Hp) (C : Addr) (cl : List (Str × Addr)) (fp : List Addr), PTs (X.blk s H scope (compEnvC scope cl C X.env) fp) ifs tt)
    (hb : ∀ (s : Shared) (H : Hp) (C : Addr) (cl : List (Str × Addr)) (fp : List Addr), PB (X.blk s H scope (compEnvC scope cl C X.env) fp) own1 (restFor X.prog X.w X.A (compEnvC scope cl C X.env) (.ListComp elt [⟨tg, iter, ifs, 0⟩, ⟨tg1, iter1, ifs1, 0⟩, ⟨tg2, iter2, ifs2, 0⟩] scope pos) 1 iter1) tb) (hs : ∀ x, foldedSetIterable iter X.env x = pure x)
    (hs1 : ∀ env x, foldedSetIterable iter1 env x = pure x)
    (h : tLcB wi g tt (own.map (·.2)) tb σ H Q)
    (hRR : ∀ D C s' m H', Inv X pins σ H' s' → Q (.ref D) H' → s'.heap.Ns C m → FpOk X pins H' C → compPost (model X.prog X.w) X.A X.xe use Qf (.ref D) C (.ok .next) s') :
    wpAny (model X.prog X.w) X.A (comprehension (.ListComp elt [⟨tg, iter, ifs, 0⟩, ⟨tg1, iter1, ifs1, 0⟩, ⟨tg2, iter2, ifs2, 0⟩] scope pos) scope X.env pos' (newList []) false (eval iter X.env) use) Qf X.xe s := by
  have hfree : ∀ y ∈ scope.names, y.2 = .free → ∃ c, X.env.cells.lookup y.1 = some c := fun y hy e => by
    rcases ok.free y hy e with k | k
    · exact I.ok.has _ (.inl k)
    · exact I.ok.has _ (.inr k)
  refine wpAny_comprehension_free (use := use) rfl hs (closure_ok hfree) ok.kind (fun y hy e => by rw [ok.uniq y hy, e])
    (thn (hi.run pins s σ H _ I h) fun xv s1 hx => thn hx fun itv s2 h2 => ?_)
  obtain ⟨it, fp, tn, J, H2, e, I2, T, st2, f2, q⟩ := h2
  subst e
  refine wpAny_newObj_type (newEnv_comp ?_) (by show 0 ≤ sizeLine; decide)
  generalize hD : s2.heap.objs.size = D
  have hDn : H2 D = none := I2.hok.fresh (Nat.le_of_eq hD)
  obtain ⟨W, ⟨m0, w0⟩, turn⟩ := q D hDn
  -- the new list
  generalize hs3 : ({ s2 with heap := s2.heap.push { cls := .type "list", data := .seq ([] : List Value).toArray } } : Shared) = s3
  have I3 : Inv X pins σ (upd H2 D (.lst [])) s3 := by
    rw [← hs3]
    refine I2.laid (t' := s2.toks) (fun b o e => Heap.get?_push_of_some _ e) (Nat.le_of_eq hD) ⟨Nat.zero_le _, [], 0, .nil, ?_⟩
    rw [← hD]
    exact Heap.get?_push_size _ rfl
  have h3 : s3.heap = s2.heap.push { cls := .type "list", data := .seq ([] : List Value).toArray } := by rw [← hs3]
  have sz : ∀ b ∈ fp, b < s2.heap.objs.size := fun b hb => by
    obtain ⟨o, e, _⟩ := T.obj _ _ st2 b hb
    exact Heap.lt_size e
  have f3 : ∀ b ∈ fp, FpOk X pins (upd H2 D (.lst [])) b ∧ b < s3.heap.objs.size := fun b hb => by
    have hlt := sz b hb
    refine ⟨⟨?_, (f2 b hb).2⟩, by rw [h3, Heap.size_push]; exact Nat.lt_succ_of_lt hlt⟩
    rw [upd_ne (by rw [← hD]; exact Nat.ne_of_lt hlt)]
    exact (f2 b hb).1
  have st3 : tn 0 s3.heap := T.keep _ _ _ st2 fun b _ o e => by rw [h3]; exact Heap.get?_push_of_some _ e
  have I4 := block_start I3 ok hN f3
  have pg := hg s3 (upd H2 D (.lst [])) s3.heap.objs.size (cellsFrom (s3.heap.objs.size + 1) scope.names (cloFrom X.env.cells scope.names [])) fp
  have pt := ht s3 (upd H2 D (.lst [])) s3.heap.objs.size (cellsFrom (s3.heap.objs.size + 1) scope.names (cloFrom X.env.cells scope.names [])) fp
  have pb := hb s3 (upd H2 D (.lst [])) s3.heap.objs.size (cellsFrom (s3.heap.objs.size + 1) scope.names (cloFrom X.env.cells scope.names [])) fp
  show codeAny _ _ (.compStart (.ListComp elt [⟨tg, iter, ifs, 0⟩, ⟨tg1, iter1, ifs1, 0⟩, ⟨tg2, iter2, ifs2, 0⟩] scope pos) 0 (.ref it) (.ref D) (compEnvC scope (cellsFrom (s3.heap.objs.size + 1) scope.names (cloFrom X.env.cells scope.names [])) s3.heap.objs.size X.env)) (compPost (model X.prog X.w) X.A X.xe use Qf (.ref D) s3.heap.objs.size) { s3 with heap := pushCells (s3.heap.push { cls := .type "dict", data := .dict #[] }) scope.names }
  have nfp : ∀ b ∈ fp, (upd H2 D (.lst [])) b = none := fun b hb => (f3 b hb).1.1
  generalize hce : compEnvC scope (cellsFrom (s3.heap.objs.size + 1) scope.names (cloFrom X.env.cells scope.names [])) s3.heap.objs.size X.env = ce at I4 pg pt pb ⊢
  have cL : ce.locals = s3.heap.objs.size := by subst hce; rfl
  generalize hH3 : upd H2 D (.lst []) = H3 at I3 I4 pg pt pb w0 nfp f3
  generalize hs4 : ({ s3 with heap := pushCells (s3.heap.push { cls := .type "dict", data := .dict #[] }) scope.names } : Shared) = s4 at I4 ⊢
  have st4 : tn 0 s4.heap := T.keep _ _ _ st3 fun b _ o e => by rw [← hs4]; exact pushCells_keeps _ _ _ _ (Heap.get?_push_of_some _ e)
  have stat : ∀ {σ' : L2.St} {H' : Hp} {s' : Shared}, Inv (X.blk s3 H3 scope ce fp) [] σ' H' s' → (∀ b ∈ fp, H' b = none) → ∀ b ∈ fp, FpOk (X.blk s3 H3 scope ce fp) [] H' b := fun {σ' H' s'} I' hn b hb =>
    ⟨hn b hb, (I'.ok.exf b hb).1, I'.ok.exfs b hb, .inl hb, fun x c e => (I'.ok.exf b hb).2 x c e, fun p hp => absurd (show p ∈ ([] : List (Addr × Obj)) ++ [] from hp) (by simp)⟩
  have loop : codeAny (model X.prog X.w) X.A (.compLoop (.ListComp elt [⟨tg, iter, ifs, 0⟩, ⟨tg1, iter1, ifs1, 0⟩, ⟨tg2, iter2, ifs2, 0⟩] scope pos) 0 (.ref it) (.ref D) ce) (compPost (model X.prog X.w) X.A X.xe use Qf (.ref D) s3.heap.objs.size) s4 := by
    refine loop3_0 (hs1 ce) _ _ _ (fun n s' => ∃ i H', Inv (X.blk s3 H3 scope ce fp) [] (wipe σ (own.map (·.2))) H' s' ∧ tn i s'.heap ∧ (∀ b ∈ fp, H' b = none) ∧ W i n H') ?_ m0 _ ⟨0, H3, I4, st4, nfp, w0⟩
    rintro n s5 ⟨i, H5, I5, st5, n5, w5⟩
    rcases turn i n H5 w5 with ⟨stop, qq⟩ | ⟨go, Nx, hNx, step⟩
    · have td := T.done (X.blk s3 H3 scope ce fp) rfl rfl rfl hc i [] s5 _ H5 (fun _ _ => False) I5 (stat I5 n5) st5 stop
      refine thnF td fun r s6 ⟨hr, I6⟩ => ?_
      subst hr
      -- back in the def's context
      have I7 : Inv X pins σ H5 s6 := I3.call' (ch := fp) I6.os I6.base I6.hok I6.bare fun b hb => ⟨(f3 b hb).1.2.2.2.1, (f3 b hb).1.2.1, (f3 b hb).1.2.2.2.2.1, (f3 b hb).1.2.2.2.2.2⟩
      have nC : H5 s3.heap.objs.size = none := by
        have z : H5 ce.locals = none := I6.free
        rw [cL] at z
        exact z
      obtain ⟨m, hn, _⟩ := I6.loc
      have hn : s6.heap.Ns ce.locals m := hn
      rw [cL] at hn
      exact hRR D s3.heap.objs.size s6 m H5 I7 qq hn (I3.fpOk (Nat.le_refl _) nC)
    · have ti := T.item (X.blk s3 H3 scope ce fp) rfl rfl rfl hc i [] s5 _ H5 (fun _ _ => False) I5 (stat I5 n5) st5 go
      refine thnF ti fun r s6 ⟨u, hr, h6⟩ => ?_
      subst hr
      refine thnF h6 fun _ s7 ⟨x, H7, I7, r7, y7, st7, n7⟩ => ?_
      have I7' := I7.pinned (stat I7 n7) (T.obj _ _ st7)
      refine thnF (pg.run _ s7 _ H7 x u _ I7' r7 (step x H7 y7)) fun _ s8 ⟨σ8, H8, I8, hw8, q8⟩ => ?_
      refine thnF (pt.run _ s8 σ8 H8 _ I8 q8) fun b s9 ⟨H9, I9, q9⟩ => ?_
      -- the turn's end, from any slots that know what the block knew at its start
      have fin : ∀ {σ9 : L2.St} {s' : Shared} {H' : Hp}, Inv (X.blk s3 H3 scope ce fp) ([] ++ pinsAt fp s7.heap) σ9 H' s' → (wipe σ (own.map (·.2))).length = σ9.length → (∀ (j : Nat) v, (wipe σ (own.map (·.2)))[j]? = some (some v) → σ9[j]? = some (some v)) → Nx H' →
          ∃ m, m < n ∧ ∃ i H', Inv (X.blk s3 H3 scope ce fp) [] (wipe σ (own.map (·.2))) H' s' ∧ tn i s'.heap ∧ (∀ b ∈ fp, H' b = none) ∧ W i m H' := fun {σ9 s' H'} I' hl hk nx => by
        obtain ⟨m', hm, w'⟩ := hNx H' nx
        have pin' : ∀ b ∈ fp, ∀ o, s7.heap.get? b = some o → s'.heap.get? b = some o ∧ H' b = none := fun b hb o e =>
          let z := I'.pin (b, o) (List.mem_append_right _ (List.mem_append_right _ (mem_pinsAt hb e)))
          ⟨z.1, z.2.1⟩
        refine ⟨m', hm, i + 1, H', (I'.unpinned (pins := [])).weak hl hk, T.keep _ _ _ st7 fun b hb o e => (pin' b hb o e).1, fun b hb => ?_, w'⟩
        obtain ⟨o, e, _⟩ := T.obj _ _ st7 b hb
        exact (pin' b hb o e).2
      have hl8 : (wipe σ (own.map (·.2))).length = σ8.length := by rw [← hw8, wipe_length]
      have hk8 : ∀ (j : Nat) v, (wipe σ (own.map (·.2)))[j]? = some (some v) → σ8[j]? = some (some v) := fun j v e => by
        rw [← hw8] at e
        exact (wipe_some e).1
      cases b with
      | false =>
        simp only [Bool.false_eq_true, if_false] at q9 ⊢
        exact fin I9 hl8 hk8 q9
      | true =>
        simp only [if_true] at q9 ⊢
        exact pb _ s9 σ8 H9 D Nx _ _ I9 q9 fun σ' H' s' I' hln hk nx => fin I' (hl8.trans hln) (fun j v e => hk j v (fun z => (wipe_some e).2 (hv j z)) (hk8 j v e)) nx
  exact codeAny_compStart_list loop (T.self X.A 0 _ _ _ st4 loop)

/-- as a value -/
theorem pe_lc3 {elt tg iter tg1 iter1 tg2 iter2 : Expr} {ifs ifs1 ifs2 : List Expr} {scope : Scope} {own : List (Str × Nat)} {vs1 vs2 : List Nat} {pos : Pos} {wi wi1 wi2 : TI} {g g1 g2 : TG} {tt tt1 tt2 : TT} {te : TE} (hc : X.calm = true) (hN : X.N.Nodup) (hi : PI X tg iter wi) (ok : BlkOk X.N X.env.scope scope own)
    (hv1 : ∀ i ∈ vs1, i ∈ own.map (·.2)) (hv2 : ∀ i ∈ vs2, i ∈ vs1)
    (hg : ∀ (s : Shared) (H : Hp) (C : Addr) (cl : List (Str × Addr)) (fp : List Addr), PG (X.blk s H scope (compEnvC scope cl C X.env) fp) tg g) (ht : ∀ (s : Shared) (H : Hp) (C : Addr) (cl : List (Str × Addr)) (fp : List Addr), PTs (X.blk s H scope (compEnvC scope cl C X.env) fp) ifs tt)
    (hi1 : ∀ (s : Shared) (H : Hp) (C : Addr) (cl : List (Str × Addr)) (fp : List Addr), PI (X.blk s H scope (compEnvC scope cl C X.env) fp) tg1 iter1 wi1) (hg1 : ∀ (s : Shared) (H : Hp) (C : Addr) (cl : List (Str × Addr)) (fp : List Addr), PG (X.blk s H scope (compEnvC scope cl C X.env) fp) tg1 g1) (ht1 : ∀ (s : Shared) (H : Hp) (C : Addr) (cl : List (Str × Addr)) (fp : List Addr), PTs (X.blk s H scope (compEnvC scope cl C X.env) fp) ifs1 tt1)
    (hi2 : ∀ (s : Shared) (H : Hp) (C : Addr) (cl : List (Str × Addr)) (fp : List Addr), PI (X.blk s H scope (compEnvC scope cl C X.env) fp) tg2 iter2 wi2) (hg2 : ∀ (s : Shared) (H : Hp) (C : Addr) (cl : List (Str × Addr)) (fp : List Addr), PG (X.blk s H scope (compEnvC scope cl C X.env) fp) tg2 g2) (ht2 : ∀ (s : Shared) (H : Hp) (C : Addr) (cl : List (Str × Addr)) (fp : List Addr), PTs (X.blk s H scope (compEnvC scope cl C X.env) fp) ifs2 tt2)
    (he : ∀ (s : Shared) (H : Hp) (C : Addr) (cl : List (Str × Addr)) (fp : List Addr), PE (X.blk s H scope (compEnvC scope cl C X.env) fp) elt te)
    (hs : ∀ x, foldedSetIterable iter X.env x = pure x := by intro _; rfl) (hs1 : ∀ env x, foldedSetIterable iter1 env x = pure x := by intro _ _; rfl) (hs2 : ∀ env x, foldedSetIterable iter2 env x = pure x := by intro _ _; rfl) :
    PE X (.ListComp elt [⟨tg, iter, ifs, 0⟩, ⟨tg1, iter1, ifs1, 0⟩, ⟨tg2, iter2, ifs2, 0⟩] scope pos) (tLcB wi g tt (own.map (·.2)) (tbFor wi1 g1 tt1 vs1 (tbFor wi2 g2 tt2 vs2 (tbE te)))) := by
  refine ⟨fun pins s σ H Q I h => ?_⟩
  rw [eval_ListComp]
  refine lc3_core hc hN I hi ok hv1 hg ht (fun s H C cl fp => pb_for (k := 1) rfl hc hv2 (hi1 s H C cl fp) (hg1 s H C cl fp) (ht1 s H C cl fp) (pb_for (k := 2) rfl hc (fun i h => absurd h (by simp)) (hi2 s H C cl fp) (hg2 s H C cl fp) (ht2 s H C cl fp) (pb_el rfl (he s H C cl fp)) loop3_2 start3_2) (loop3_1 (hs2 _)) start3_1) hs hs1 h fun D C s' m H' I' q hn f => ⟨m, hn, fun h'' sb => ?_⟩
  obtain ⟨f0, f1, f2, f3, f4, f5⟩ := f
  exact ⟨.ref D, H', I'.turned (t' := s'.toks) (fun b o hb e => (sb.2 b hb).trans e) f0 f1 f3 f4 f5, rfl, q⟩
end
end WL
/-! WL, part 36: three for, plainly; ranges by name; written dicts' get; written dicts of any length. -/
namespace WL
open PySem PySem.Spec PyProof.Rows L2
section
variable {C : Cn} {Γ : List Ety} {K : PySem.W.Frag} {α β γ F : Type}
/-! ### comprehensions -/
def accFor (c : α → Wp Bool) (body : α → List β → Wp (List β)) : List α → List β → Wp (List β)
  | [], ys => ret ys
  | x :: xs, ys => bnd (c x) fun b => sel b (bnd (body x ys) fun zs => accFor c body xs zs) (accFor c body xs ys)
def forB (w : Wp (List α)) (c : α → Wp Bool) (body : α → List β → Wp (List β)) : List β → Wp (List β) := fun ys => bnd w fun xs => accFor c body xs ys
def elB (f : Wp β) : List β → Wp (List β) := fun ys => bnd f fun y => grd (ys.length < 16777216) (ret (ys ++ [y]))
/-- a list that grows, in nobody's hand -/
structure Dok (B : Bs) (fp : Nat → List Addr) (D : Addr) : Prop where
  nD : ∀ i, D ∉ fp i
  off : B.off D
  bh : B.H D = none
  rd : ∀ r ∈ B.R, r.1 ≠ D
theorem Dok.sub {B : Bs} {fp fp' : Nat → List Addr} {D : Addr} (d : Dok B fp D) (h : ∀ i, D ∈ fp' i → ∃ j, D ∈ fp j) : Dok B fp' D := ⟨fun i hm => (h i hm).elim fun j hj => d.nD j hj, d.off, d.bh, d.rd⟩
theorem En.kept {B : Bs} {σ : List (Option V)} {H H' : Hp} {fp : Nat → List Addr} (en : En B Γ σ H fp) {D : Addr} {acc acc' : List V} (hD : H D = some (.lst acc)) (hD' : H' D = some (.lst acc')) (kp : ∀ a o, H a = some o → a ≠ D → B.off a → H' a = some o) (ts : TpSt B H') (d : Dok B fp D) : En B Γ σ H' fp :=
  (en.side (o' := .lst acc') hD rfl d.nD d.off d.bh d.rd).step ⟨fun a o e n => by
    by_cases z : a = D
    · subst z
      rw [upd_same] at e
      cases e
      exact hD'
    · rw [upd_ne z] at e
      exact kp a o e z n, ts⟩
def EvB (C : Cn) (Γ : List Ety) (tb : TB) (m : List β → Wp (List β)) (e' : β → PyData) : Prop := ∀ (P : List β → Prop) (ys : List β), m ys P (fun _ => False) → ∀ B σ H fp, En B Γ σ H fp → ∀ (D : Addr) (acc : List V), Dok B fp D → H D = some (.lst acc) → FzAll C.K H acc (ys.map e') →
  ∀ Nx : Hp → Prop, (∀ (H' : Hp) (acc' : List V) (ys' : List β), P ys' → (∀ a o, H a = some o → a ≠ D → B.off a → H' a = some o) → TpSt B H' → H' D = some (.lst acc') → FzAll C.K H' acc' (ys'.map e') → Nx H') → tb σ H D Nx
theorem evb_el {te : TE} {f : Wp β} {e' : β → PyData} (hf : EvG C.nox Γ te f (fun r => RF C.K (e' r))) : EvB C Γ (tbE te) (elB f) e' := fun P ys hm B σ H fp en D acc dk hD hz Nx q => hf _ _ hm B σ H fp en exok_no _ fun y v H1 hp s1 r1 => by
  have hl := hz.length
  rw [List.length_map] at hl
  have hD1 := s1.kp D _ hD dk.off
  have en1 := en.step s1
  have st : Stay H1 (upd H1 D (.lst (acc ++ [v]))) := fun a o ea z => by
    have : a ≠ D := by
      rintro rfl
      rw [hD1] at ea; cases ea; cases z
    rw [upd_ne this]
    exact ea
  refine ⟨acc, hD1, lc_list_room _ (by rw [hl]; exact hp.1), q _ (acc ++ [v]) (ys ++ [y]) hp.2 (fun a o ea na nf => ?_) (en1.side (o' := .lst (acc ++ [v])) hD1 rfl dk.nD dk.off dk.bh dk.rd).tps upd_same ?_⟩
  · rw [upd_ne na]
    exact s1.kp a o ea nf
  · rw [List.map_append]
    exact ((hz.stay (s1.stay en.tps)).stay st).append (.one (Fz.stay st r1))
theorem evb_for {wi : TI} {g : TG} {tt : TT} {vs : List Nat} {tb : TB} {w : Wp (List α)} {e1 : α → PyData} {own : Nat → Bool} {c : α → Wp Bool} {body : α → List β → Wp (List β)} {e' : β → PyData} {Γb : α → List Ety} (hi : ItG C.nox Γ wi w (fun r => r.map e1) own) (hg : ∀ x, TgG C.K (unA Γ vs) g vs (e1 x) (Γb x)) (ht : ∀ x, EvT C.nox (Γb x) tt (c x))
    (hb : ∀ x, EvB C (Γb x) tb (body x) e') : EvB C Γ (tbFor wi g tt vs tb) (forB w c body) e' := fun P ys hm B σ H fp en D acc dk hD hz Nx q => by
  refine hi _ _ hm B σ H fp en exok_no _ fun xs J H1 sup hp s1 ok hsup => ?_
  have nsup : D ∉ sup := fun hm => by
    rcases hsup D hm with h | ⟨i, _, h⟩ | ⟨r, h1, h2⟩
    · rw [hD] at h; cases h
    · exact dk.nD i h
    · exact dk.rd r h1 h2
  have hD1 := s1.kp D _ hD dk.off
  obtain ⟨fpw, enw, subw⟩ := (en.step s1).wiped vs
  have dkw : Dok B fpw D := dk.sub fun i h => ⟨i, subw D i h⟩
  refine ⟨fun i m H2 => m = xs.length - i ∧ i ≤ xs.length ∧ (∀ a o, H1 a = some o → a ≠ D → B.off a → H2 a = some o) ∧ TpSt B H2 ∧ ∃ (acc : List V) (ys : List β), H2 D = some (.lst acc) ∧ FzAll C.K H2 acc (ys.map e') ∧ accFor c body (xs.drop i) ys P (fun _ => False), ⟨xs.length, by omega, Nat.zero_le _, fun a o e _ _ => e, s1.ts, acc, ys, hD1, hz.stay (s1.stay en.tps), hp⟩, ?_⟩
  rintro i m H2 ⟨rfl, hi', kp, ts2, acc2, ys2, hacc, hz2, hlc⟩
  have en2 := enw.kept hD1 hacc kp ts2 dkw
  have kst : ∀ a o, H1 a = some o → (a ∈ sup ∨ still o = true) → H2 a = some o := fun a o ea z => by
    rcases z with z | z
    · exact kp a o ea (fun z' => nsup (z' ▸ z)) (ok.sp a z).1
    · refine kp a o ea (fun z' => ?_) (s1.ts.notstill ea z)
      rw [z', hD1] at ea
      cases ea
      cases z
  by_cases hlt : i < xs.length
  · obtain ⟨go, yld⟩ := ok.go i H2 kst (by rw [List.length_map]; exact hlt)
    refine .inr ⟨go, fun H' => ∃ m', m' < xs.length - i ∧ (m' = xs.length - (i + 1) ∧ i + 1 ≤ xs.length ∧ (∀ a o, H1 a = some o → a ≠ D → B.off a → H' a = some o) ∧ TpSt B H' ∧ ∃ (acc : List V) (ys : List β), H' D = some (.lst acc) ∧ FzAll C.K H' acc (ys.map e') ∧ accFor c body (xs.drop (i + 1)) ys P (fun _ => False)), fun H' h => h, fun x H3 hy => ?_⟩
    obtain ⟨kp3, d, hd, hx⟩ := yld x H3 hy
    have ed : d = e1 xs[i] := by
      rw [List.getElem?_map, List.getElem?_eq_getElem hlt] at hd
      exact (Option.some.inj hd).symm
    subst ed
    have s3 : Stp B H2 H3 := .same ts2 kp3
    have en3 := en2.step s3
    refine (hg xs[i]).run B (wipe σ vs) H3 fpw x en3 hx _ fun σ4 fp4 en4 hw4 sub4 => ?_
    rw [List.drop_eq_getElem_cons hlt] at hlc
    refine ⟨hw4.trans (wipe_idem vs σ), ?_⟩
    refine ht xs[i] _ (fun _ => False) hlc B σ4 H3 fp4 en4 exok_no _ fun b H5 hb5 s5 => ?_
    have s25 := s3.trans s5
    have kp5 : ∀ a o, H1 a = some o → a ≠ D → B.off a → H5 a = some o := fun a o ea nd na => s25.kp a o (kp a o ea nd na) na
    have hD5 := s25.kp D _ hacc dk.off
    have hz5 := hz2.stay (s25.stay ts2)
    cases b with
    | false =>
      refine iteF ?_
      exact ⟨xs.length - (i + 1), by omega, rfl, hlt, kp5, s5.ts, acc2, ys2, hD5, hz5, hb5⟩
    | true =>
      refine iteT ?_
      refine hb xs[i] _ ys2 hb5 B σ4 H5 fp4 (en4.step s5) D acc2 (dkw.sub fun j h => (sub4 D j h).elim fun k hk => ⟨k, hk⟩) hD5 hz5 _ fun H6 acc6 ys6 hp6 kp6 ts6 hD6 hz6 => ?_
      exact ⟨xs.length - (i + 1), by omega, rfl, hlt, fun a o ea nd na => kp6 a o (kp5 a o ea nd na) nd na, ts6, acc6, ys6, hD6, hz6, hp6⟩
  · have ei : i = xs.length := by omega
    subst ei
    rw [List.drop_length] at hlc
    exact .inl ⟨ok.stop _ H2 kst (by rw [List.length_map]; exact Nat.le_refl _), q H2 acc2 ys2 hlc (fun a o ea nd na => kp a o (s1.kp a o ea na) nd na) ts2 hacc hz2⟩
def lcB (c : α → Wp Bool) (body : α → List β → Wp (List β)) (xs : List α) : Wp (List β) := noX (accFor c body xs [])
theorem ev_lcB {wi : TI} {g : TG} {tt : TT} {vs : List Nat} {tb : TB} {w : Wp (List α)} {e1 : α → PyData} {own : Nat → Bool} {c : α → Wp Bool} {body : α → List β → Wp (List β)} {e' : β → PyData} {Γb : α → List Ety} (hi : ItG C Γ wi w (fun r => r.map e1) own) (hg : ∀ x, TgG C.K (unA Γ vs) g vs (e1 x) (Γb x)) (ht : ∀ x, EvT C.nox (Γb x) tt (c x))
    (hb : ∀ x, EvB C (Γb x) tb (body x) e') : EvG C Γ (tLcB wi g tt vs tb) (bnd w fun xs => lcB c body xs) (fun r => RN (ls C.K (r.map e'))) := fun P X hw B σ H fp en ex Q q => by
  refine hi _ X hw B σ H fp en ex _ fun xs J H1 sup hp s1 ok hsup => ?_
  intro D hD
  have hD0 : H D = none := s1.back en.tps hD
  have offD : B.off D := s1.ts.new hD
  have hBD : B.H D = none := by
    cases z : B.H D with
    | none => rfl
    | some o =>
      obtain ⟨o', e', _⟩ := (en.step s1).fr D o z
      rw [hD] at e'; cases e'
  have nD : ∀ i, D ∉ fp i := fun i hm => by
    obtain ⟨S, hS⟩ := en.lt hm
    obtain ⟨v, _, ho⟩ := en.sl i S hS
    obtain ⟨o, eo, _⟩ := S.dom ho hm
    rw [hD0] at eo; cases eo
  have nsup : D ∉ sup := fun hm => by
    obtain ⟨_, o, eo⟩ := ok.sp D hm
    rw [hD] at eo; cases eo
  have hRD : ∀ r ∈ B.R, r.1 ≠ D := fun r hr z => rd_new ((en.step s1).rr r hr).1 (by rw [z]; exact hD)
  obtain ⟨fpw, enw, subw⟩ := (en.step s1).wiped vs
  have dkw : Dok B fpw D := ⟨fun i h => nD i (subw D i h), offD, hBD, hRD⟩
  have s1' : Stp B H1 (upd H1 D (.lst [])) := .new s1.ts hD
  have enw' := enw.step s1'
  refine ⟨fun i m H2 => m = xs.length - i ∧ i ≤ xs.length ∧ (∀ a o, H1 a = some o → B.off a → H2 a = some o) ∧ TpSt B H2 ∧ En B (unA Γ vs) (wipe σ vs) H2 fpw ∧ ∃ (acc : List V) (ys : List β), H2 D = some (.lst acc) ∧ FzAll C.K H2 acc (ys.map e') ∧ accFor c body (xs.drop i) ys P (fun _ => False), ⟨xs.length, by omega, Nat.zero_le _, fun a o ea _ => ?_, s1'.ts, enw', [], [], upd_same, .nil, hp⟩, ?_⟩
  · rw [upd_ne (ne_of_none ea hD)]
    exact ea
  rintro i m H2 ⟨rfl, hi', kp, ts2, en2, acc2, ys2, hacc, hz2, hlc⟩
  have kst : ∀ a o, H1 a = some o → (a ∈ sup ∨ still o = true) → H2 a = some o := fun a o ea z => by
    rcases z with z | z
    · exact kp a o ea (ok.sp a z).1
    · exact kp a o ea (s1.ts.notstill ea z)
  by_cases hlt : i < xs.length
  · obtain ⟨go, yld⟩ := ok.go i H2 kst (by rw [List.length_map]; exact hlt)
    refine .inr ⟨go, fun H' => ∃ m', m' < xs.length - i ∧ (m' = xs.length - (i + 1) ∧ i + 1 ≤ xs.length ∧ (∀ a o, H1 a = some o → B.off a → H' a = some o) ∧ TpSt B H' ∧ En B (unA Γ vs) (wipe σ vs) H' fpw ∧ ∃ (acc : List V) (ys : List β), H' D = some (.lst acc) ∧ FzAll C.K H' acc (ys.map e') ∧ accFor c body (xs.drop (i + 1)) ys P (fun _ => False)), fun H' h => h, fun x H3 hy => ?_⟩
    obtain ⟨kp3, d, hd, hx⟩ := yld x H3 hy
    have ed : d = e1 xs[i] := by
      rw [List.getElem?_map, List.getElem?_eq_getElem hlt] at hd
      exact (Option.some.inj hd).symm
    subst ed
    have s3 : Stp B H2 H3 := .same ts2 kp3
    have en3 := en2.step s3
    refine (hg xs[i]).run B (wipe σ vs) H3 fpw x en3 hx _ fun σ4 fp4 en4 hw4 sub4 => ?_
    rw [List.drop_eq_getElem_cons hlt] at hlc
    refine ⟨hw4.trans (wipe_idem vs σ), ?_⟩
    refine ht xs[i] _ (fun _ => False) hlc B σ4 H3 fp4 en4 exok_no _ fun b H5 hb5 s5 => ?_
    have s25 := s3.trans s5
    have kp5 : ∀ a o, H1 a = some o → B.off a → H5 a = some o := fun a o ea na => s25.kp a o (kp a o ea na) na
    have hD5 := s25.kp D _ hacc offD
    have hz5 := hz2.stay (s25.stay ts2)
    cases b with
    | false =>
      refine iteF ?_
      exact ⟨xs.length - (i + 1), by omega, rfl, hlt, kp5, s5.ts, en2.step s25, acc2, ys2, hD5, hz5, hb5⟩
    | true =>
      refine iteT ?_
      refine hb xs[i] _ ys2 hb5 B σ4 H5 fp4 (en4.step s5) D acc2 (dkw.sub fun j h => (sub4 D j h).elim fun k hk => ⟨k, hk⟩) hD5 hz5 _ fun H6 acc6 ys6 hp6 kp6 ts6 hD6 hz6 => ?_
      exact ⟨xs.length - (i + 1), by omega, rfl, hlt, fun a o ea na => kp6 a o (kp5 a o ea na) (fun z => by rw [z, hD] at ea; cases ea) na, ts6, (en2.step s25).kept hD5 hD6 kp6 ts6 dkw, acc6, ys6, hD6, hz6, hp6⟩
  · have ei : i = xs.length := by omega
    subst ei
    rw [List.drop_length] at hlc
    refine .inl ⟨ok.stop _ H2 kst (by rw [List.length_map]; exact Nat.le_refl _), q ys2 (.ref D) H2 hlc ⟨fun a o ea na => kp a o (s1.kp a o ea na) na, ts2⟩ ⟨[D], ⟨D, acc2, rfl, rfl, hacc, hz2⟩, fun a ha => ?_⟩⟩
    rw [List.mem_singleton.mp ha]
    exact hD0
/-! ### ranges by name -/
def rgS (n : Int) : Sl where
  own := fun H v fp => ∃ p, v = .ref p ∧ fp = [p] ∧ H p = some (.rng 0 n) ∧ Rng n
  ro := false
  dom := fun h ha => by
    obtain ⟨p, _, e, hp, _⟩ := h
    rw [e] at ha
    rw [List.mem_singleton.mp ha]
    exact ⟨_, hp, rfl⟩
  keep := fun {H H'} {v} {fp} h k => by
    obtain ⟨p, e1, e2, hp, hr⟩ := h
    exact ⟨p, e1, e2, k p _ hp (.inl (by rw [e2]; exact List.mem_singleton.mpr rfl)), hr⟩
def rRng1 : List V → Hp → VK → Prop := fun vs H Q => ∃ j, vs = [V.int j] ∧ ∀ p, H p = none → Q (.ref p) (upd H p (.rng 0 j))
theorem cr_rng1 {X : Cx} : CallR X (.type "range") rRng1 := by
  intro pins s σ H vs us Q I r h
  obtain ⟨j, rfl, q⟩ := h
  cases r with
  | cons r1 r2 =>
    cases r2
    obtain ⟨u, rfl⟩ := r1
    refine call_range_1 ⟨.ref s.heap.objs.size, upd H s.heap.objs.size (.rng 0 j), I.laid (t' := s.toks + 1 + 1) (fun b o e => Heap.get?_push_of_some _ e) (Nat.le_refl _) ?_, rfl, q _ (I.hok.fresh (Nat.le_refl _))⟩
    exact ⟨_, _, _, Heap.get?_push_size _ rfl⟩
theorem ev_rng1 {te : TE} {w : Wp Int} (h : EvG C Γ te w (fun r => RF C.K (eI r))) : EvG C Γ (tCB rRng1 (tCons te tNil)) (bnd w fun n => grd (Rng n) (ret n)) (fun n => RN (rgS n)) := fun P X hw B σ H fp en ex Q q =>
  h _ X hw B σ H fp en ex _ fun j v H1 hp s hr => by
    have e1 := Fz.int_inv (n := j) hr
    subst e1
    refine ⟨j, rfl, fun p hn => ?_⟩
    have s2 : Stp B H1 (upd H1 p (.rng 0 j)) := .new s.ts hn
    exact q j _ _ hp.2 (s.trans s2) ⟨[p], ⟨p, rfl, rfl, upd_same, hp.1⟩, fun a ha => by rw [List.mem_singleton.mp ha]; exact s.back en.tps hn⟩
def iRgN (te : TE) : TI := fun σ H R => te σ H fun x H1 => ∃ a n, x = .ref a ∧ H1 a = some (.rng 0 n) ∧ Rng n ∧ R (Itr 0 n.toNat) H1
theorem pi_rgN {X : Cx} {tg l : Expr} {tl : TE} (hl : PE X l tl) : PI X tg l (iRgN tl) := by
  refine ⟨fun pins s σ H R I h => ?_⟩
  refine thn (hl.run pins s σ H _ I h) fun v s1 ⟨x, H1, I1, r1, q1⟩ => ?_
  obtain ⟨a, n, e, hp, hr, q⟩ := q1
  subst e
  cases r1
  obtain ⟨t, u, w', e⟩ := I1.hok a _ hp
  refine wpAny_pyIter_range (show IsRange s1.heap a 0 n 1 t u w' from e) (small_one (by decide) (by decide) hr.1 hr.2) ?_
  refine ⟨s1.heap.objs.size, [s1.heap.objs.size], _, _, H1, rfl, I1.kept (t' := s1.toks) fun b o e => Heap.get?_push_of_some _ e, turn_range _ 0 n.toNat, ?_, fun b hb => ?_, q⟩
  · have e1 : (0 : Int) + ((0 : Nat) : Int) * 1 = 0 := by simp
    have e2 : ((n.toNat : Nat) : Int) - ((0 : Nat) : Int) = Builtin.Range.rangeSize 0 n 1 := by rw [rangeSize_one]; split <;> omega
    show IsRangeIter _ _ ((0 : Int) + ((0 : Nat) : Int) * 1) (((n.toNat : Nat) : Int) - ((0 : Nat) : Int)) 1
    rw [e1, e2]
    exact Heap.get?_push_size _ rfl
  · have e : b = s1.heap.objs.size := by simpa using hb
    subst e
    exact I1.fpOk (Nat.le_refl _) (I1.hok.fresh (Nat.le_refl _))
theorem it_rgN {i : Nat} (n : Int) (h : Has Γ i (rgS n)) : ItG C Γ (iRgN (tVar i)) (ret (span 0 n.toNat)) (fun r => r.map eI) noOwn := fun P X hw B σ H fp en ex R q => by
  obtain ⟨v, fq, hv, ⟨p, rfl, _, hp, hr⟩, _⟩ := en.hold h
  exact ⟨_, hv, p, n, rfl, hp, hr, q _ _ H [] hw (.refl en.tps) itr_ok fun a h => absurd h (by simp)⟩
end
/-! ### written dicts -/
section
variable {X : Cx} {C : Cn} {Γ : List Ety} {K : PySem.W.Frag} {d : Addr} {kvs : List (Str × Int)} {o e f : Expr} {apos cpos : Pos} {ty tx : TE}
def tKGet (kvs : List (Str × Int)) (ty tx : TE) : TE := fun σ H Q => ty σ H fun y H1 => tx σ H1 fun z H2 => ∃ x n, y = .str x ∧ z = .int n ∧ Q (.int ((kvs.lookup x).getD n)) H2
theorem pe_kget2 (hK : X.K = K) (D : KD K X.w d kvs) (ho : PE X o (tC (.ref d))) (he : PE X e ty) (hf : PE X f tx) (m : M2 X o "get" apos e f cpos) : PE X (.Call (.Attribute o "get" apos) [e, f] [] cpos) (tKGet kvs ty tx) := by
  subst hK
  obtain ⟨es, n, D, hz⟩ := D
  refine ⟨fun pins s σ H Q I h => ?_⟩
  refine wpAny_Call_method m.base m.few m.line PySem.F.plainAttrs_dict PySem.F.slot_dict_get PySem.F.type_dict_get (thn (ho.run pins s σ H (fun x H1 => x = .ref d ∧ H1 = H) I ⟨rfl, rfl⟩) fun u s1 ⟨x, H1, I1, rx, ex, eh⟩ => ?_)
  subst ex
  subst eh
  obtain rfl : u = Value.ref d := rx
  refine ⟨kd_type D I1, fun b eb => ⟨_, I1.kIn _ _ (by cases eb; exact D.at_), rfl⟩, ?_⟩
  rw [m.trees]
  refine Calls.callWith_builtin rfl (Calls.evalArgs_plain (Calls.spliced_cons (thn (he.run pins s1 σ H1 _ I1 h) fun iv s2 ⟨y, H2, I2, ry, q2⟩ =>
    Calls.spliced_cons (thn (hf.run pins s2 σ H2 _ I2 q2) fun fv s3 ⟨z, H3, I3, rz, x, i, ey, ez, q3⟩ => Calls.spliced_nil ?_))))
  subst ey
  subst ez
  obtain ⟨t, rfl⟩ := ry
  refine call_meetsIn PySem.F.slot_dict_get (kd_type D I3) PySem.F.entry_dict_get (PySem.F.args_dict_get_3 _ _ _) (meets_dict_get_default (PySem.strKind X.prog X.w) d (PySem.strKind_is X.prog X.w x t) D.low fv) ⟨_, PySem.W.mapOf_K (prog := X.prog) I3.kIn D.at_ D.lit, _, H3, I3.tok _, ?_, q3⟩
  have := hz x
  cases e' : kvs.lookup x with
  | none =>
    rw [e'] at this
    rw [PySem.W.find_K D.at_ this]
    exact rz
  | some j =>
    rw [e'] at this
    obtain ⟨t', ht⟩ := this
    rw [PySem.W.find_K D.at_ ht]
    exact ⟨t', rfl⟩
theorem ev_kget2 {te tz : TE} {w : Wp Str} {wz : Wp Int} (h : EvG C Γ te w (fun r => RF C.K (eS r))) (hz : EvG C Γ tz wz (fun r => RF C.K (eI r))) : EvG C Γ (tKGet kvs te tz) (bnd w fun x => bnd wz fun n => ret ((kvs.lookup x).getD n)) (fun r => RF C.K (eI r)) := fun P Y hw B σ H fp en ex Q q =>
  h _ Y hw B σ H fp en ex _ fun x v H1 hp s hv => hz _ Y hp B σ H1 fp (en.step s) ex _ fun n u H2 hp2 s2 hu => ⟨x, n, Fz.str_inv hv, Fz.int_inv hu, q _ _ H2 hp2 (s.trans s2) (.int _)⟩
/-- any number of entries -/
theorem KD.ofN {w : World} {ents : List (Str × Int × Tok × Tok)} {n : Nat} (hl : K.lookup d = some ⟨.type "dict", none, .dict (ents.map fun x => (⟨PyData.keyHash w.params x.1, .str x.1 x.2.2.1, .int x.2.1 x.2.2.2⟩ : DictEntry)).toArray n, #[]⟩) (hd : (d == sysModules) = false) : KD K w d (ents.map fun x => (x.1, x.2.1)) := by
  refine ⟨_, _, ⟨hl, ?_, hd⟩, fun z => ?_⟩
  · rw [List.toList_toArray]
    clear hl
    induction ents with
    | nil => trivial
    | cons x r ih => exact ⟨⟨x.1, x.2.2.1, rfl, rfl⟩, ih⟩
  · have key : PySem.W.nsIn K d z = some ((ents.find? fun x => x.1 == z).map fun x => Value.int x.2.1 x.2.2.2) := by
      unfold PySem.W.nsIn
      rw [hl]
      simp only [List.toList_toArray]
      rw [List.find?_map]
      have e1 : ((fun x : DictEntry => x.key.isStr z) ∘ fun x : Str × Int × Tok × Tok => (⟨PyData.keyHash w.params x.1, .str x.1 x.2.2.1, .int x.2.1 x.2.2.2⟩ : DictEntry)) = fun x => x.1 == z := rfl
      rw [e1]
      cases q : ents.find? fun x => x.1 == z with
      | some x => rfl
      | none =>
        simp only [Option.map_none]
        rw [if_neg]
        simp [DictEntry.refKey]
    rw [key]
    clear hl key
    induction ents with
    | nil => rfl
    | cons x r ih =>
      rw [List.map_cons, List.lookup_cons, List.find?_cons]
      by_cases q : x.1 = z
      · have q1 : (x.1 == z) = true := by simp [q]
        have q2 : (z == x.1) = true := by simp [q]
        rw [q1, q2]
        exact ⟨_, rfl⟩
      · have q1 : (x.1 == z) = false := by simp [q]
        have q2 : (z == x.1) = false := by simp [Ne.symm q]
        rw [q1, q2]
        exact ih
end
section
variable {X : Cx} {C : Cn} {Γ : List Ety} {α γ F : Type}
/-- a part of a tuple of a fixed form, the bounds written -/
theorem ev_slP {te : TE} {tl th : TO} {w : Wp α} {l u : Option Int} (e : α → PyData) (ds : α → List PyData) (e' : γ → PyData) (g : α → γ) (h : EvG C Γ te w (fun a => RF C.K (e a))) (hl : EvO C Γ tl (ret l)) (hh : EvO C Γ th (ret u)) (hd : ∀ a, e a = .tuple (ds a)) (he : ∀ a, .tuple (cutA (ds a) l u) = e' (g a)) :
    EvG C Γ (tSl (rSlA C.K) te tl th) (bnd w fun a => ret (g a)) (fun r => RF C.K (e' r)) := fun P X hw B σ H fp en ex Q q => by
  refine h _ X hw B σ H fp en ex _ fun x v H1 h1 s1 hv => ?_
  refine hl (fun v => v = l) X rfl B σ H1 fp (en.step s1) ex _ fun l' H2 h2 s2 => ?_
  subst h2
  refine hh (fun v => v = u) X rfl B σ H2 fp ((en.step s1).step s2) ex _ fun u' H3 h3 s3 => ?_
  subst h3
  have s13 := s2.trans s3
  have hv : Fz C.K H1 v (e x) := hv
  rw [hd] at hv
  obtain ⟨a, vs, rfl, hs, hz⟩ := Fz.tup_inv hv
  have hz3 := hz.stay (s13.stay s1.ts)
  have hs3 := sqT_stay (s13.stay s1.ts) hs
  have hc := cut_fz (e := eD) (xs := ds x) (by rw [show (ds x).map eD = ds x from List.map_id _]; exact hz3) l' u'
  rw [show (cutA (ds x) l' u').map eD = cutA (ds x) l' u' from List.map_id _] at hc
  refine ⟨a, vs, rfl, hs3, fun hw0 => ?_, fun hw0 p hp => ?_⟩
  · have : cutV vs l' u' = vs := by
      unfold cutV
      rw [hw0.1, hw0.2, List.drop_zero, Nat.sub_zero, List.take_length]
    rw [this] at hc
    refine q _ _ H3 h1 (s1.trans s13) ?_
    show Fz C.K _ _ (e' (g x))
    rw [← he]
    exact .tup hs3 hc
  · have s4 : Stp B H3 (upd H3 p (.tup (cutV vs l' u'))) := .new s3.ts hp
    refine q _ _ _ h1 ((s1.trans s13).trans s4) ?_
    show Fz C.K _ _ (e' (g x))
    rw [← he]
    exact .tup (.inl (.inl upd_same)) (hc.stay (s4.stay s3.ts))
/-- statements that are never reached -/
theorem pss_cut {ss : List Stmt} : PSs X ss tNever := ⟨fun _ _ _ _ _ _ h => h.elim⟩
end
end WL
/-! WL, part 37: defs that raise a class of one's own; their calls; try: return f(..) except C: .. -/
namespace WL
open PySem PySem.Spec PyProof.Rows L2
/-- the classes' values, written -/
def ctOf (xs : List Addr) : Nat → Value × Str := fun i => (.ref (xs.getD i (xs.headD 0)), "")
theorem ct1 {K : PySem.W.Frag} {a : Addr} {cv : Value} (h : PySem.W.exmOne K (.ref a) cv = some true) : ∀ c, PySem.W.exmOne K (ctOf [a] c).1 cv = some true
  | 0 => h
  | _ + 1 => h
/-- what the top has written of a class of one's own, without __init__ -/
structure XCls (K : PySem.W.Frag) (mg : Str → Option Value) (x : Str) (a : Addr) : Prop where
  g : mg x = some (.ref a)
  x : PySem.W.excIn K a [.type "ValueError", .type "Exception", .type "BaseException", .type "object"] "ValueError.__new__" = true
  k : PySem.W.keepIn K (.ref a) = true
  b : PySem.W.subIn K (.ref a) (.type "BaseException") = some true
  t : PySem.W.typeIn K (.ref a) = some (.type "type")
  e : PySem.W.exmOne K (.ref a) (.ref a) = some true
section
variable {P : Program} {w : World} {K : PySem.W.Frag} {mg : Str → Option Value} {base : Heap} {C : Cn} {Γ : List Ety} {α β γ ι F G : Type}
/-- a def that may raise -/
theorem fn_x {x qual : Str} {st : Stmt} {f : Addr} {fd : FuncData} {N ps : List Str} {k : Nat} {ct : Nat → Value × Str} {ag : ι → List Ag} {fm : ι → Wp F} {res : F → Oc} (Fu : Fun K x qual st f fd) (S : FnScope N ps (defScope st)) (hlen : ∀ x, (ag x).length = ps.length)
    (hb : ∀ (cdv : Value) (A : Around) (outer : List PySem.Env) (s : Shared) (H : Hp) (E : XK), Room k (A.deeper (envOfC qual (defScope st) s.heap.objs.size f cdv)) →
      ∃ t, PSs (cxOf (L2.CX P w) P w K mg base N qual (defScope st) f cdv A outer s H E) (defBody st) t ∧ ∀ x, SimB ⟨K, E, ct⟩ res (endC res) noC noC t ((ag x).map (Ag.ety K) ++ List.replicate (N.length - ps.length) .un) (fm x)) :
    FnOk P w K mg base (L2.CX P w) (k + 1) f fd ps (spX K ct ag fm res) := by
  refine Fu.okX S (fun vs H Q E h => ?_) (fun cdv A outer s H vs Q E hr h => ?_)
  · obtain ⟨x, P, X, T, R, fp, _, en, _⟩ := h
    have := en.len
    rw [List.length_map, List.length_map] at this
    rw [this, hlen]
  · obtain ⟨t, ht, hs⟩ := hb cdv A outer s H E hr
    refine ⟨t, ht, ?_⟩
    obtain ⟨x, P, X, T, R, fp, hf, en, fin, ex⟩ := h
    have hl := en.len
    rw [List.length_map, List.length_map] at hl
    have hs' := hs x
    rw [← hlen x, ← hl] at hs'
    exact run_body (C := ⟨K, E, ct⟩) hs' hf en ex fin
/-- raise -/
theorem sb_raise {res : F → Oc} {N Bk Ct : Cont F} (c : Nat) {v : Value} (hv : v = (C.ct c).1) : SimB C res N Bk Ct (fun _ _ H => C.E v none H) Γ (thr (.plain c)) := fun P X hm B D ex f n b c' σ H fp en => by
  subst hv
  exact ex (.plain c) _ none H hm en.fr en.tps (.plain c)
/-- a call of a def that may raise, where nothing is raised -/
theorem ev_callX0 {ta : TA} {wa : Wp ι} {ag : ι → List Ag} {f : ι → Wp F} {res : F → Oc} {e : F → PyData} {ct : Nat → Value × Str} (ha : EvA C Γ ta wa (fun x => (ag x).map (Ag.rk C.K))) (hr : ∀ o, res o = .fz (e o)) :
    EvG C Γ (tCallS (spX C.K ct ag f res) (WE fun _ _ _ _ => False) ta) (bnd wa fun x => noX (f x)) (fun r => RF C.K (e r)) := fun P X hw B σ H fp en ex Q q => by
  refine ha _ X hw B σ H fp en ex _ fun x vs H1 h1 s1 r1 => ?_
  obtain ⟨R, en'⟩ := args_en s1.ts r1
  refine ⟨x, P, fun _ => False, B.T, R, _, h1, en', fun out v H' hp hf ht ho => ?_, fun xn v d H' hx => hx.elim⟩
  rw [hr] at ho
  exact q out v H' hp (s1.trans (after_call hf ht)) ho
/-- .. in a def that may raise -/
theorem ev_callX {ta : TA} {wa : Wp ι} {ag : ι → List Ag} {f : ι → Wp F} {res : F → Oc} {e : F → PyData} (ha : EvA C Γ ta wa (fun x => (ag x).map (Ag.rk C.K))) (hr : ∀ o, res o = .fz (e o)) :
    EvG C Γ (tCallS (spX C.K C.ct ag f res) (WE fun cls d _ H => C.E cls d H) ta) (bnd wa f) (fun r => RF C.K (e r)) := fun P X hw B σ H fp en ex Q q => by
  refine ha _ X hw B σ H fp en ex _ fun x vs H1 h1 s1 r1 => ?_
  obtain ⟨R, en'⟩ := args_en s1.ts r1
  have en1 := en.step s1
  refine ⟨x, P, X, B.T, R, _, h1, en', fun out v H' hp hf ht ho => ?_, fun xn v d H' hx hf ht hi => ?_⟩
  · rw [hr] at ho
    exact q out v H' hp (s1.trans (after_call hf ht)) ho
  · have s2 : Stp B H1 H' := after_call hf ht
    exact ex xn v d H' hx (en1.step s2).fr s2.ts (by
      cases hi with
      | plain c => exact .plain c
      | num c n d h => exact .num c n d h)
/-- try: return f(..) except C: .. -/
def tryRet (wa : Wp ι) (f : ι → Wp G) (g : G → F) (ms : Wp F) : Wp F := fun P X => wa (fun x => f x (fun r => P (g r)) (fun xn => match xn with
  | .plain _ => ms P X
  | .num _ _ => False)) X
theorem sb_tryRet {res : F → Oc} {N Bk Ct : Cont F} {cv : Value} {us : TS} {ta : TA} {wa : Wp ι} {ct : Nat → Value × Str} {ag : ι → List Ag} {f : ι → Wp G} {rs : G → Oc} {e : G → PyData} {g : G → F} {ms : Wp F} (hcls : ∀ c, PySem.W.exmOne C.K (ct c).1 cv = some true) (ha : EvA C Γ ta wa (fun x => (ag x).map (Ag.rk C.K))) (hr : ∀ o, rs o = .fz (e o)) (hg : ∀ o, res (g o) = .fz (e o)) (hs : SimB C res N Bk Ct us Γ ms) :
    SimB C res N Bk Ct (fun D σ H => tRet (tCallS (spX C.K ct ag f rs) (WE (wOnly C.K cv (fun _ _ _ => us) (fun _ _ _ _ => False) D)) ta) D σ H) Γ (tryRet wa f g ms) := fun P X hm B D ex fin n b c σ H fp en => by
  refine ha _ X hm B σ H fp en ex _ fun x vs H1 h1 s1 r1 => ?_
  obtain ⟨R, en'⟩ := args_en s1.ts r1
  have en1 := en.step s1
  refine ⟨x, _, _, B.T, R, _, h1, en', fun out v H' hp hf ht ho => ?_, fun xn v d H' hx hf ht hi => ?_⟩
  · rw [hr] at ho
    have s2 : Stp B H1 H' := after_call hf ht
    exact fin (g out) v H' hp (en1.step s2).fr s2.ts (by rw [hg]; exact ho)
  · have s2 : Stp B H1 H' := after_call hf ht
    cases hi with
    | plain c' => exact ⟨true, hcls c', fun _ a _ => hs P X hx B D ex fin n b c σ H' fp (en1.step s2), fun z => by cases z⟩
    | num _ _ _ _ => exact hx.elim
/-- a class is what except names -/
theorem exm_self {S : Addr} (h1 : PySem.W.subIn K (.ref S) (.type "BaseException") = some true) (h2 : PySem.W.isClsIn K S = true) (h3 : PySem.W.typeIn K (.ref S) = some (.type "type")) (h4 : PySem.W.subIn K (.ref S) (.ref S) = some true) :
    PySem.W.exmOne K (.ref S) (.ref S) = some true := by
  have e1 : (PySem.W.subIn K (.ref S) (.type "BaseException") == some true) = true := by rw [h1] <;> rfl
  have e2 : ((PySem.W.clsIn K S).isSome && PySem.W.typeIn K (.ref S) == some (.type "type")) = true := by
    have h2' : (PySem.W.clsIn K S).isSome = true := h2
    rw [h2', h3] <;> rfl
  show (if (PySem.W.subIn K (.ref S) (.type "BaseException") == some true) = true then (if ((PySem.W.clsIn K S).isSome && PySem.W.typeIn K (.ref S) == some (.type "type")) = true then PySem.W.subIn K (.ref S) (.ref S) else none) else none) = some true
  rw [if_pos e1, if_pos e2]
  exact h4
end
section
variable {X : Cx} {mg : Str → Option Value} {x : Str} {a : Addr}
/-- raise C('..') -/
theorem ps_raiseC {K : PySem.W.Frag} {m : Str} {j : Nat} {p p2 pos rpos : Pos} {W : WX} (hK : X.K = K) (T : XCls K X.mg x a) (hc : X.calm = true) (tk : Takes X W) (hg : Gl X x) (hdb : (x == ("__debug__" : Str)) = false := by decide) :
    PS X (.Raise (some (.Call (.Name x p) [.Constant (.str m) j p2] [] pos)) none rpos) (fun _ σ H => W (.ref a) none σ H) := by
  subst hK
  exact ps_raise hc tk (pmk_own PySem.F.excBase_ValueError T.x T.g T.k (raises_own T.b T.t) hg hdb)
end
end WL
namespace WL
open PySem PySem.Spec PyProof.Rows L2
section
variable {C : Cn} {Γ : List Ety} {ι F : Type}
theorem ev_callX0S {ta : TA} {wa : Wp ι} {ag : ι → List Ag} {f : ι → Wp F} {res : F → Oc} {ct : Nat → Value × Str} (e : F → PyData) (ha : EvS C Γ ta wa (fun x => (ag x).map (Ag.rk C.K))) (hr : ∀ o, res o = .fz (e o)) :
    EvG C Γ (tCallS (spX C.K ct ag f res) (WE fun _ _ _ _ => False) ta) (bnd wa fun x => noX (f x)) (fun r => RF C.K (e r)) := ev_callX0 ha.ev hr
theorem ev_callXS {ta : TA} {wa : Wp ι} {ag : ι → List Ag} {f : ι → Wp F} {res : F → Oc} (e : F → PyData) (ha : EvS C Γ ta wa (fun x => (ag x).map (Ag.rk C.K))) (hr : ∀ o, res o = .fz (e o)) :
    EvG C Γ (tCallS (spX C.K C.ct ag f res) (WE fun cls d _ H => C.E cls d H) ta) (bnd wa f) (fun r => RF C.K (e r)) := ev_callX ha.ev hr
end
end WL
/-! WL, part 38: divmod; row[i] = e by a row's name. -/
namespace WL
open PySem PySem.Spec PyProof.Rows L2
section
variable {C : Cn} {Γ : List Ety} {K : PySem.W.Frag} {α β γ F : Type}
abbrev rDivmod : List V → Hp → VK → Prop := fun xs H Q => ∃ i j, xs = [.int i, .int j] ∧ CDiv i j ∧ ∀ p, H p = none → Q (.ref p) (upd H p (.tup [.int (i / j), .int (i % j)]))
theorem ev_divmod {ta tb : TE} {wa wb : Wp Int} (ha : EvG C Γ ta wa (fun r => RF C.K (eI r))) (hb : EvG C Γ tb wb (fun r => RF C.K (eI r))) :
    EvG C Γ (tCB rDivmod (tCons ta (tCons tb tNil))) (bnd wa fun i => bnd wb fun j => grd (CDiv i j) (ret (i / j, i % j))) (fun r => RF C.K (e2 eI eI r)) := fun P X hw B σ H fp en ex Q q =>
  ha _ X hw B σ H fp en ex _ fun i v H1 hp s hv => hb _ X hp B σ H1 fp (en.step s) ex _ fun j u H2 hp2 s2 hu => by
    have e1 := Fz.int_inv (n := i) hv
    have e2' := Fz.int_inv (n := j) hu
    subst e1
    subst e2'
    refine ⟨i, j, rfl, hp2.1, fun p hn => ?_⟩
    have s3 : Stp B H2 (upd H2 p (.tup [.int (i / j), .int (i % j)])) := .new s2.ts hn
    exact q _ _ _ hp2.2 ((s.trans s2).trans s3) (.tup (.inl (.inl upd_same)) (.cons (.int _) (.cons (.int _) .nil)))
/-- row[i] = e, the row by its name -/
def alSetW (xss : List (List β)) (j : Nat) (w : Wp β) (wi : Wp Int) (k : List (List β) → Wp F) : Wp F := bnd w fun x => bnd (opt xss[j]?) fun row => bnd wi fun ix => bnd (opt (ixN row.length ix)) fun a => k (xss.set j (row.set a x))
theorem sb_alSet {res : F → Oc} {N Bk Ct : Cont F} {i kk j : Nat} {rs : List Addr} {te ti : TE} {e : β → PyData} {xss : List (List β)} {w : Wp β} {wi : Wp Int} {k : List (List β) → Wp F} (h : Γ[i]? = some (.sl (lp2 C.K rs (e2L e xss)))) (hkk : Γ[kk]? = some (.sl (alr rs j))) (he : EvG C Γ te w (fun r => RF C.K (e r))) (hi : EvG C Γ ti wi (fun r => RF C.K (eI r)))
    (hk : ∀ ys, Lands N (Γ.set i (.sl (lp2 C.K rs (e2L e ys)))) (k ys)) : SimB C res N Bk Ct (tAsg te (gSub (tVar kk) ti rSetL)) Γ (alSetW xss j w wi k) := fun P X hm B D ex f n b c σ H fp en => by
  refine he _ X hm B σ H fp en ex _ fun x v H1 h1 s1 hx => ?_
  obtain ⟨row, hrow, h1⟩ := h1
  have en1 := en.step s1
  obtain ⟨p, hv, hf, nd, hp, hl, hlen⟩ := En.rowP (C := C) en1 h
  obtain ⟨v', hvk, _, r, rfl, hr⟩ := en1.sl kk _ hkk
  refine ⟨_, hvk, hi _ X h1 B σ H1 fp en1 ex _ fun ix u H2 h2 s2 hu => ?_⟩
  obtain ⟨a, ha, h2⟩ := h2
  have en2 := (en1.step s2).unpin h
  have h' : (Γ.set i (.sl (ls2 C.K (e2L e xss))))[i]? = some (.sl (ls2 C.K (e2L e xss))) := List.getElem?_set_self (List.getElem?_eq_some_iff.mp h).1
  obtain ⟨p2, rs2, hv2, hf2, nd2, hp2, hl2, hlen2⟩ := En.row2 (C := C) en2 h'
  rw [hv] at hv2
  cases hv2
  rw [hf] at hf2
  cases hf2
  obtain ⟨r2, vs2, k1, k2, k3⟩ := hl2.row hrow
  rw [hr] at k1
  cases k1
  have hll := k3.length
  rw [List.length_map] at hll
  have en3 := en2.rerow h' hv hf nd2 hp2 hl2 hr k2 (row' := row.set a x) (vs' := vs2.set a v) (by rw [List.map_set]; exact k3.set a (Fz.stay (s2.stay s1.ts) hx))
  rw [List.set_set] at en3
  have en4 := en3.pin (K := C.K) (List.getElem?_set_self (List.getElem?_eq_some_iff.mp h).1) hf
  rw [List.set_set] at en4
  exact ⟨r, vs2, ix, a, rfl, Fz.int_inv hu, k2, by rw [hll]; exact ha, n _ _ (hk _ P X B σ _ fp h2 en4)⟩
end
end WL
/-! WL, part 39: for over a row of a lent list of lists; a row's name let go of, with the list written out. -/
namespace WL
open PySem PySem.Spec PyProof.Rows L2
section
variable {C : Cn} {Γ : List Ety} {K : PySem.W.Frag} {α β γ F : Type}
theorem la_unpinG {N : Cont F} {m : Wp F} {i : Nat} {rs : List Addr} {dss : List (List PyData)} {Γ' : List Ety} (hS : Γ[i]? = some (.sl (lp2 K rs dss))) (hΓ : Γ.set i (.sl (ls2 K dss)) = Γ') (h : Lands N Γ' m) : Lands N Γ m := la_unpin hS (hΓ ▸ h)
theorem it_rowB {i : Nat} {ti : TE} {e : β → PyData} {wi : Wp Int} (xss : List (List β)) (h : Γ[i]? = some (.rb (ls2 C.K (e2L e xss)))) (hi : EvG C Γ ti wi (fun r => RF C.K (eI r))) :
    ItG C Γ (iList C.K (tOp (rIxL C.K) (tVar i) ti)) (bnd wi fun k => opt (atI xss k)) (fun r => r.map e) noOwn := fun P X hw B σ H fp en ex R q => by
  obtain ⟨v, fq, hv, ⟨p, rs, rfl, efp, nd, hp, hl⟩, hq⟩ := en.rb i _ h
  refine ⟨_, hv, hi _ X hw B σ H fp en ex _ fun k y H1 h1 s1 hk => ?_⟩
  have ek := Fz.int_inv (n := k) hk
  subst ek
  obtain ⟨v', fq', hv', ⟨p', rs', rfl, efp', nd', hp', hl'⟩, hq'⟩ := (en.step s1).rb i _ h
  rw [hv] at hv'
  cases hv'
  obtain ⟨xs, hx, hP⟩ := h1
  unfold atI at hx
  cases e1 : ixN xss.length k with
  | none => rw [e1] at hx; cases hx
  | some j =>
    rw [e1] at hx
    have hx : xss[j]? = some xs := hx
    obtain ⟨r, vs, g1, g2, hz⟩ := hl'.at (i := j) (ds := xs.map e) (by unfold e2L; rw [List.getElem?_map, hx]; rfl)
    have hlen' := hl'.length
    unfold e2L at hlen'
    rw [List.length_map] at hlen'
    have hlen := hz.length
    obtain ⟨o, hm⟩ := hq' r (by rw [efp']; exact List.mem_cons_of_mem _ (List.mem_of_getElem? g1))
    have hoff := ((en.step s1).rr _ hm).2.1
    refine ⟨p, rs'.map V.ref, k, .ref r, rfl, rfl, .inl (.inl hp'), ?_, r, rfl, ⟨vs, .inl (.inl g2)⟩, q xs _ H1 [r] hP s1 ⟨fun a h => ?_, fun i H2 st hi => ?_, fun i H2 st hi => ⟨vs, .inl (.inl (st r _ g2 (.inl (by simp)))), le_beta hlen hi⟩⟩ fun a h => ?_⟩
    · unfold atI
      rw [List.length_map, hlen', e1]
      show (rs'.map V.ref)[j]? = _
      rw [List.getElem?_map, g1]
      rfl
    · rw [List.mem_singleton.mp h]
      exact ⟨hoff, _, g2⟩
    · have stay : Stay H1 H2 := fun a o e z => st a o e (.inr z)
      have hs2 : SqL C.K H2 r vs := .inl (.inl (st r _ g2 (.inl (by simp))))
      have hi2 : i < vs.length := lt_beta hlen hi
      refine ⟨⟨vs, vs[i], hs2, List.getElem?_eq_getElem hi2⟩, fun x H3 hy => ?_⟩
      obtain ⟨rfl, hx⟩ := hy
      obtain ⟨d, hd, hf⟩ := (FzAll.stay stay hz).getV (hx vs hs2)
      exact ⟨fun _ _ e => e, d, hd, hf⟩
    · rw [List.mem_singleton.mp h]
      exact .inr (.inr ⟨_, hm, rfl⟩)
end
end WL
/-! WL, part 40: reversed and zip of tuples; tuple(reversed(a list)); new things of defs that may raise; try that gives data. -/
namespace WL
open PySem PySem.Spec PyProof.Rows L2
section
variable {C : Cn} {Γ : List Ety} {K : PySem.W.Frag} {α β γ F G ι : Type}
theorem it_revT {te : TE} {w : Wp (List α)} {e : α → PyData} (h : EvG C Γ te w (fun r => RF C.K (eT e r))) : ItG C Γ (RT.iRevA C.K te) (bnd w fun xs => ret xs.reverse) (fun r => r.map e) noOwn := fun P X hw B σ H fp en ex R q => by
  refine h _ X hw B σ H fp en ex _ fun r v H1 hp s hr => ?_
  obtain ⟨a, vs, rfl, hs, hz⟩ := Fz.tup_inv hr
  have hlen := hz.length
  rw [List.length_map] at hlen
  refine ⟨a, vs, rfl, .inr ⟨hs, q r.reverse _ H1 [] hp s ⟨fun a h => absurd h (by simp), fun i H2 st hi => ?_, fun i H2 st hi => by rw [List.length_map, List.length_reverse] at hi; show vs.length ≤ i; omega⟩ fun a h => absurd h (by simp)⟩⟩
  have stay : Stay H1 H2 := fun a o e z => st a o e (.inr z)
  have hs2 := sqT_stay stay hs
  rw [List.length_map, List.length_reverse] at hi
  have hi2 : vs.length - 1 - i < vs.length := by omega
  refine ⟨⟨by omega, vs, vs[vs.length - 1 - i], hs2, List.getElem?_eq_getElem hi2⟩, fun x H3 hy => ?_⟩
  obtain ⟨rfl, hx⟩ := hy
  obtain ⟨d, hd, hf⟩ := (hz.stay stay).getV (hx vs hs2)
  refine ⟨fun _ _ e => e, d, ?_, hf⟩
  show (r.reverse.map e)[i]? = some d
  rw [List.map_reverse, List.getElem?_reverse (by rw [List.length_map]; exact hi), List.length_map, ← hlen]
  exact hd
theorem it_zipT {ta tb : TE} {wa : Wp (List α)} {wb : Wp (List β)} {e : α → PyData} {e' : β → PyData} (ha : EvG C Γ ta wa (fun r => RF C.K (eT e r))) (hb : EvG C Γ tb wb (fun r => RF C.K (eT e' r))) :
    ItG C Γ (RZ.iZipA C.K (tCons ta (tCons tb tNil))) (bnd wa fun xs => bnd wb fun ys => ret (xs.zip ys)) (fun r => r.map (e2 e e')) noOwn := fun P X hw B σ H fp en ex R q => by
  refine ha _ X hw B σ H fp en ex _ fun r v H0 hp0 s0 hr0 => hb _ X hp0 B σ H0 fp (en.step s0) ex _ fun r' v' H1 hp s1 hr' => ?_
  obtain ⟨a, vs, rfl, hs, hz⟩ := Fz.tup_inv (hr0.stay (s1.stay s0.ts))
  obtain ⟨b, vs', rfl, hs', hz'⟩ := Fz.tup_inv hr'
  have hlen := hz.length
  have hlen' := hz'.length
  rw [List.length_map] at hlen hlen'
  refine ⟨a, b, vs, vs', rfl, .inr ⟨hs, hs', q (r.zip r') _ H1 [] hp (s0.trans s1) ⟨fun a h => absurd h (by simp), fun i H2 st hi => ?_, fun i H2 st hi => ?_⟩ fun a h => absurd h (by simp)⟩⟩
  · have stay : Stay H1 H2 := fun a o e z => st a o e (.inr z)
    have h1 := sqT_stay stay hs
    have h2 := sqT_stay stay hs'
    rw [List.length_map, List.length_zip] at hi
    have hi1 : i < vs.length := by omega
    have hi2 : i < vs'.length := by omega
    refine ⟨⟨vs, vs', vs[i], vs'[i], h1, h2, List.getElem?_eq_getElem hi1, List.getElem?_eq_getElem hi2⟩, fun x H3 hy => ?_⟩
    obtain ⟨T, y, y', rfl, hT, rfl, hx, hx'⟩ := hy
    obtain ⟨d, hd, hf⟩ := (hz.stay stay).getV (hx vs h1)
    obtain ⟨d', hd', hf'⟩ := (hz'.stay stay).getV (hx' vs' h2)
    have keep : ∀ a o, H2 a = some o → upd H2 T (.tup [y, y']) a = some o := fun a o e => by
      rw [upd_ne (ne_of_none e hT)]
      exact e
    rw [List.getElem?_map] at hd hd'
    have g1 : r[i]? = some r[i] := List.getElem?_eq_getElem (by omega)
    have g2 : r'[i]? = some r'[i] := List.getElem?_eq_getElem (by omega)
    rw [g1] at hd
    rw [g2] at hd'
    cases hd
    cases hd'
    refine ⟨keep, e2 e e' (r[i], r'[i]), ?_, ?_⟩
    · have hzz : (r.zip r')[i]? = some (r[i], r'[i]) := List.getElem?_zip_eq_some.mpr ⟨g1, g2⟩
      show ((r.zip r').map (e2 e e'))[i]? = _
      rw [List.getElem?_map, hzz]
      rfl
    · exact .tup (.inl (.inl upd_same)) (.cons (hf.stay fun a o e _ => keep a o e) (.one (hf'.stay fun a o e _ => keep a o e)))
  · rw [List.length_map, List.length_zip] at hi
    have stay : Stay H1 H2 := fun a o e z => st a o e (.inr z)
    exact ⟨vs, vs', sqT_stay stay hs, sqT_stay stay hs', by omega⟩
theorem ev_tupRev {te : TE} {w : Wp (List α)} {e : α → PyData} (h : EvG C Γ te w (fun r => RL C.K (r.map e))) : EvG C Γ (RT.tTupRev C.K te) (bnd w fun xs => ret xs.reverse) (fun r => RF C.K (eT e r)) := fun P X hw B σ H fp en ex Q q => by
  refine h _ X hw B σ H fp en ex _ fun r v H1 hp s hr => ?_
  obtain ⟨p, vs, rfl, hs, hz⟩ := hr
  refine ⟨p, vs, rfl, hs.sq, fun q' hn => ?_⟩
  have s3 : Stp B H1 (upd H1 q' (.tup vs.reverse)) := .new s.ts hn
  refine q r.reverse _ _ hp (s.trans s3) (.tup (.inl (.inl upd_same)) ?_)
  have := (hz.stay (s3.stay s.ts)).reverse
  rwa [← List.map_reverse] at this
end
section
variable {C : Cn} {Γ : List Ety} {ι F G : Type}
theorem ev_callXN {ta : TA} {wa : Wp ι} {ag : ι → List Ag} {f : ι → Wp F} {res : F → Oc} {S : F → Sl} (ha : EvA C Γ ta wa (fun x => (ag x).map (Ag.rk C.K))) (hr : ∀ o, res o = .nw (S o)) :
    EvG C Γ (tCallS (spX C.K C.ct ag f res) (WE fun cls d _ H => C.E cls d H) ta) (bnd wa f) (fun r => RN (S r)) := fun P X hw B σ H fp en ex Q q => by
  refine ha _ X hw B σ H fp en ex _ fun x vs H1 h1 s1 r1 => ?_
  obtain ⟨R, en'⟩ := args_en s1.ts r1
  have en1 := en.step s1
  refine ⟨x, P, X, B.T, R, _, h1, en', fun out v H' hp hf ht ho => ?_, fun xn v d H' hx hf ht hi => ?_⟩
  · rw [hr] at ho
    obtain ⟨fq, h2, h3, _⟩ := ho
    refine q out v H' hp (s1.trans (after_call hf ht)) ⟨fq, h2, fun a ha => ?_⟩
    rcases h3 a ha with z | z
    · exact s1.back en.tps z
    · cases z
  · have s2 : Stp B H1 H' := after_call hf ht
    exact ex xn v d H' hx (en1.step s2).fr s2.ts (by
      cases hi with
      | plain c => exact .plain c
      | num c n d h => exact .num c n d h)
theorem ev_callXNS {ta : TA} {wa : Wp ι} {ag : ι → List Ag} {f : ι → Wp F} {res : F → Oc} (S : F → Sl) (ha : EvS C Γ ta wa (fun x => (ag x).map (Ag.rk C.K))) (hr : ∀ o, res o = .nw (S o)) :
    EvG C Γ (tCallS (spX C.K C.ct ag f res) (WE fun cls d _ H => C.E cls d H) ta) (bnd wa f) (fun r => RN (S r)) := ev_callXN ha.ev hr
end
end WL
/-! WL, part 41: x *= e, x //= e. -/
namespace WL
open PySem PySem.Spec PyProof.Rows L2
section
variable {X : Cx}
theorem ip_mul : PIp X .Mult (rI CMul fun i j => .int (i * j)) := iop_mul
theorem ip_fdiv : PIp X .FloorDiv (rI CDiv fun i j => .int (i / j)) := iop_fdiv
end
section
variable {C : Cn} {Γ : List Ety} {F : Type}
theorem sb_augC {res : F → Oc} {N Bk Ct : Cont F} {i : Nat} {te : TE} {Cc : Int → Int → Prop} {g : Int → Int → Int} {x : Int} {w : Wp Int} {k : Int → Wp F} (h : Γ[i]? = some (.sl (fz C.K (eI x)))) (he : EvG C Γ te w (fun r => RF C.K (eI r))) (hk : ∀ z, Lands N (Γ.set i (.sl (fz C.K (eI z)))) (k z)) :
    SimB C res N Bk Ct (tAug i te (rI Cc fun i j => .int (g i j))) Γ (bnd (bnd w fun y => grd (Cc x y) (ret (g x y))) k) := fun P X hm B D ex f n b c σ H fp en => by
  obtain ⟨v, hv, ho⟩ := en.sl i _ h
  have e1 := Fz.int_inv (n := x) ho.2
  subst e1
  refine ⟨_, hv, he _ X hm B σ H fp en ex _ fun y u H' hp s hy => ?_⟩
  have e2 := Fz.int_inv (n := y) hy
  subst e2
  exact ⟨x, y, rfl, rfl, hp.1, n _ H' (hk _ P X B _ H' _ hp.2 ((en.step s).putF (List.getElem?_eq_some_iff.mp h).1 (.int _)))⟩
theorem sb_augMul {res : F → Oc} {N Bk Ct : Cont F} {i : Nat} {te : TE} {x : Int} {w : Wp Int} {k : Int → Wp F} (h : Γ[i]? = some (.sl (fz C.K (eI x)))) (he : EvG C Γ te w (fun r => RF C.K (eI r))) (hk : ∀ z, Lands N (Γ.set i (.sl (fz C.K (eI z)))) (k z)) :
    SimB C res N Bk Ct (tAug i te (rI CMul fun i j => .int (i * j))) Γ (bnd (bnd w fun y => grd (CMul x y) (ret (x * y))) k) := sb_augC h he hk
theorem sb_augDiv {res : F → Oc} {N Bk Ct : Cont F} {i : Nat} {te : TE} {x : Int} {w : Wp Int} {k : Int → Wp F} (h : Γ[i]? = some (.sl (fz C.K (eI x)))) (he : EvG C Γ te w (fun r => RF C.K (eI r))) (hk : ∀ z, Lands N (Γ.set i (.sl (fz C.K (eI z)))) (k z)) :
    SimB C res N Bk Ct (tAug i te (rI CDiv fun i j => .int (i / j))) Γ (bnd (bnd w fun y => grd (CDiv x y) (ret (x / y))) k) := sb_augC h he hk
end
end WL
/-! WL, part 42: sorted(set(t)) of a tuple of pairs; < of data. -/
namespace L2
open PySem PySem.Spec PyProof.Rows
section
variable {P : Program} {w : World} {A : Around} {E : Value → Shared → Prop} {s : Shared}
set_option maxHeartbeats 3200000 in
theorem call_set_tupT {l : Addr} {items : Array Value} (ks : List (Addr × List Int)) {Q : Value → Shared → Prop} (hh : A.handled = none) (hl : s.heap.IsTuple l items) (hit : items.toList = ks.map fun p => Value.ref p.1)
    (hk : ∀ p ∈ ks, IsT P w s.heap p.2 p.1) (hfew : ks.length < 64) (hu : A.units + 3 < cLine)
    (h : ∀ (h' : Heap) (tk : Nat) L es ep t, SetTR P w h' s.heap.objs.size L es ep t → Got ks ks.length L → (∀ b o, s.heap.get? b = some o → h'.get? b = some o) → Q (.ref s.heap.objs.size) { s with heap := h', toks := tk }) :
    wpAny (model P w) A (call (.type "set") [.ref l]) Q E s := by
  have hisz : items.size = ks.length := by
    have q := congrArg List.length hit
    rw [Array.length_toList, List.length_map] at q
    exact q
  obtain ⟨c, tl, hmro⟩ := F.called_set.mro
  have hmade := F.called_set.made
  have hsub := F.called_set.sub
  refine wpAny_call (codeAny_of_tree ?_)
  show wpAny _ _ (callAny (.type "set") _) _ _ _
  refine wpAny_pure ⟨Code.quiet_builtin _ (by decide +kernel), codeAny_builtin F.entry_type_call ?_⟩
  rw [Around.under_plain (weight_type_call_type "set" [.ref l] []) rfl]
  have h1 := F.called_set.notType
  have h2 := F.called_set.canCreate
  have hct := F.typeCall_set_1 (.ref l)
  repeat (any_goals (first | assumption | wp_step))

  refine codeAny_mono (code_set_led1 (.ref l) (E := E) (Q₁ := fun obj s₁ => obj = .ref s.heap.objs.size ∧ s₁ = { s with heap := s.heap.push { cls := .type "set", dict := none, data := .set #[] 0 (.fresh 0 0 (!w.params.followText "set-order")) } }) ⟨rfl, rfl⟩) fun r s₁ hr => ?_
  cases r with
  | error e => exact hr
  | ok fl =>
    cases fl with
    | ret obj =>
      obtain ⟨rfl, rfl⟩ := hr
      have hS : (s.heap.push { cls := .type "set", dict := none, data := .set #[] 0 (.fresh 0 0 (!w.params.followText "set-order")) }).get? s.heap.objs.size = some { cls := .type "set", dict := none, data := .set #[] 0 (.fresh 0 0 (!w.params.followText "set-order")) } := Heap.get?_push_size _ rfl
      have hT : Shared.TypeIs { s with heap := s.heap.push { cls := .type "set", dict := none, data := .set #[] 0 (.fresh 0 0 (!w.params.followText "set-order")) } } (.ref s.heap.objs.size) "set" := ⟨_, hS, rfl⟩
      have hli := F.called_set.init.lookup
      have hbi := F.called_set.init.bind (.ref s.heap.objs.size)
      repeat (any_goals (first | assumption | wp_step))

      refine codeAny_mono (codeAny_call_builtin (R := wants (fun r s₂ => r = .none ∧ ∃ h' tk L es ep t, s₂ = { s with heap := h', toks := tk } ∧ SetTR P w h' s.heap.objs.size L es ep t ∧ Got ks ks.length L ∧
          (∀ b o, s.heap.get? b = some o → h'.get? b = some o)) E) F.called_set.init.plain F.entry_set_init (check_set_init_1 hT ?_)) fun r₂ s₂ hr₂ => ?_
      · obtain ⟨ol, hol, hcl, nl, hdl⟩ := hl
        obtain ⟨ocls, odict, odata, oslots⟩ := ol
        simp only at hcl hdl
        subst hcl; subst hdl
        have hol' : (s.heap.push { cls := .type "set", dict := none, data := .set #[] 0 (.fresh 0 0 (!w.params.followText "set-order")) }).get? l = some { cls := .type "tuple", dict := odict, data := .seq items nl, slots := oslots } := Heap.get?_push_of_some _ hol
        have hsls := F.sub_tuple_set
        have hslf := F.sub_tuple_frozenset
        have hne : (Value.type "tuple" == Value.type "dict") = false := by decide
        have hl1 : (s.heap.push { cls := .type "set", dict := none, data := .set #[] 0 (.fresh 0 0 (!w.params.followText "set-order")) }).IsTuple l items := ⟨_, hol', rfl, nl, rfl⟩
        unfold Builtin.«set.__init__» noKeywords Builtin.Frozenset.updateFrom
        generalize hPI : pyIter = PI
        wp_walk
        subst hPI

        refine wpAny_pyIter_tuple hl1 ?_
        refine wpAny_bind (wpAny_runValue ?_)
        have hlS : l < s.heap.objs.size := Heap.lt_size hol
        have hh3 : A.in1.in1.in1.handled = none := by simp [hh]
        have hz1 : (s.heap.push { cls := .type "set", dict := none, data := .set #[] 0 (.fresh 0 0 (!w.params.followText "set-order")) }).objs.size = s.heap.objs.size + 1 := Heap.size_push ..
        have hneI : l ≠ (s.heap.push { cls := .type "set", dict := none, data := .set #[] 0 (.fresh 0 0 (!w.params.followText "set-order")) }).objs.size := by
          rw [Heap.size_push]; exact Nat.ne_of_lt (Nat.lt_succ_of_lt hlS)
        have hSf : s.heap.objs.size ∉ [(s.heap.push { cls := .type "set", dict := none, data := .set #[] 0 (.fresh 0 0 (!w.params.followText "set-order")) }).objs.size, l] := by
          rw [Heap.size_push]; simp only [List.mem_cons, List.mem_singleton, List.not_mem_nil, or_false, not_or]
          exact ⟨Nat.ne_of_lt (Nat.lt_succ_self _), Nat.ne_of_gt hlS⟩
        have hval : ∀ (i : Nat) (v : Value), items[i]? = some v → ∃ p, ks[i]? = some p ∧ v = .ref p.1 := fun i v hv => by
          have q : items.toList[i]? = some v := by rw [Array.getElem?_toList]; exact hv
          rw [hit, List.getElem?_map] at q
          cases hq : ks[i]? with
          | none => rw [hq] at q; cases q
          | some p =>
            rw [hq] at q
            exact ⟨p, rfl, (Option.some.inj q).symm⟩
        have none_of : ∀ b, s.heap.objs.size ≤ b → s.heap.get? b = none := fun b hb => by
          cases q : s.heap.get? b with
          | none => rfl
          | some o => exact absurd (Nat.lt_of_lt_of_le (Heap.lt_size q) hb) (Nat.lt_irrefl _)
        refine set_update_tups ((Walks.tuple hh3 _ l hneI items).toS) s.heap.objs.size
          hSf ks hisz hfew hval s.heap hk (none_of _ (Nat.le_refl _)) (fun b hb => none_of b (by
            rw [List.mem_singleton.mp hb, Heap.size_push]
            exact Nat.le_succ _)) hu (items.size - 0) 0 _ (by omega) (Nat.zero_le _)
          ⟨⟨_, Heap.get?_push_size _ rfl, rfl, rfl⟩, (hl1.push _)⟩ (fun b o e => Heap.get?_push_of_some _ (Heap.get?_push_of_some _ e)) ?hS0 ?hR
        case hS0 =>
          have hget : ((s.heap.push { cls := .type "set", dict := none, data := .set #[] 0 (.fresh 0 0 (!w.params.followText "set-order")) }).push { cls := .type "tuple_iterator", data := .fields #[.ref l, .int 0 0] }).get? s.heap.objs.size
              = some { cls := .type "set", dict := none, data := .set #[] 0 (.fresh 0 0 (!w.params.followText "set-order")) } := Heap.get?_push_of_some _ hS
          exact ⟨[], #[], 0, _, setTR_fresh hget, Got.zero ks⟩
        case hR =>
          intro s' L es ep t hm hS' g' hkp
          obtain ⟨h', g2, d', tk', os'⟩ := s'
          have eg : g2 = s.gens := hm.gens
          have ed : d' = s.drawn := hm.drawn
          have eo : os' = s.os := hm.os
          subst eg; subst ed; subst eo
          show wpAny _ _ _ _ _ _
          refine wpAny_pure ?_
          show wpAny _ _ (ret Value.none) _ _ _
          rw [hisz] at g'
          exact wpAny_pure ⟨rfl, h', tk', L, es, ep, t, rfl, hS', g', hkp⟩

      · cases r₂ with
        | error e => exact hr₂
        | ok fl₂ =>
          cases fl₂ with
          | ret r =>
            obtain ⟨rfl, h', tk, L, es, ep, t, rfl, hS', g', hk'⟩ := hr₂
            repeat (any_goals (first | assumption | wp_step))
            exact h _ _ _ _ _ _ hS' g' hk'
          | _ => exact hr₂.elim
    | _ => exact hr.elim
end
end L2
namespace WL
open PySem PySem.Spec PyProof.Rows L2
/-! ### < of data -/
def ltW (d d' : PyData) : Wp Bool := grd (PySem.W.alike d d' = true ∧ d ≠ .none ∧ min d.depth d'.depth ≤ 60) (ret (PySem.W.dataLt d d'))
def rLtD (K : PySem.W.Frag) : R2 := fun x y H Q => ∃ d e, Dp K H x d ∧ Dp K H y e ∧ PySem.W.alike d e = true ∧ d ≠ .none ∧ min d.depth e.depth ≤ 60 ∧ Q (.bl (PySem.W.dataLt d e)) H
section
variable {X : Cx} {K : PySem.W.Frag}
theorem op_ltDK (hK : X.K = K) (hu : X.A.units + 64 < cLine) : OpR X (compareOp .Lt) (rLtD K) := by
  subst hK
  intro pins s σ H x y v u Q I rx ry h
  obtain ⟨d, e, hd, he, ha, hn, hm, q⟩ := h
  obtain ⟨as, r1⟩ := Dp.reads I d x v hd rx
  obtain ⟨bs, r2⟩ := Dp.reads I e y u he ry
  exact PySem.W.lt_data r1 r2 ha hn (by omega) ⟨.bl _, H, I, rfl, q⟩
end
theorem o_ltDW {C : Cn} (d d' : PyData) : OpG C (rLtD C.K) (RF C.K d) (RF C.K d') (ltW d d') (fun r => RF C.K (eB r)) := fun P X hw B H0 H x y _ ts _ hx hy Q q =>
  ⟨d, d', hx.dp, hy.dp, hw.1.1, hw.1.2.1, hw.1.2.2, q _ _ H hw.2 (.refl ts) (.bl _)⟩
/-! ### sorted(set(t)), t a tuple of pairs -/
def tSortSetP (K : PySem.W.Frag) (ta : TE) : TE := fun σ H Q => ta σ H fun x H1 => ∃ (l : Addr) (ks : List (Addr × List Int)) (d : Nat) (B : Int), x = .ref l ∧ SqT K H1 l (ks.map fun p => V.ref p.1) ∧ (∀ p ∈ ks, SqT K H1 p.1 (p.2.map V.int)) ∧ ks.length < 64 ∧ 1 ≤ d ∧ (∀ p ∈ ks, p.2.length = d ∧ TS.Bd B p.2) ∧
  ∀ (L : List (Addr × List Int)) (p : Addr), (∀ q ∈ L, q ∈ ks) → (∀ q ∈ ks, q.2 ∈ L.map (·.2)) → (L.map (·.2)).Nodup → L.Pairwise (fun q r => TS.code B q.2 ≤ TS.code B r.2) → H1 p = none → Q (.ref p) (upd H1 p (.lst (L.map fun q => V.ref q.1)))
section
variable {X : Cx} {K : PySem.W.Frag}
theorem pe_sortSetP {a : Expr} {ta : TE} {p p2 q pos : Pos} (hK : X.K = K) (hu : X.A.units + 64 < cLine) (hg : Gl X "sorted") (hm : X.mg "sorted" = none) (hg2 : Gl X "set") (hm2 : X.mg "set" = none) (ha : PE X a ta) (hc : X.calm = true := by rfl)
    (na : starEach [a] X.env = (false, eval a X.env) :: starEach [] X.env := by rfl) : PE X (.Call (.Name "sorted" p) [.Call (.Name "set" p2) [a] [] q] [] pos) (tSortSetP K ta) := by
  subst hK
  refine ⟨fun pins s σ H Q I h => ?_⟩
  refine Call_ (ld_blt I hg hm PyProof.Rows.boot_sorted ?_)
  refine PyProof.Rows.callWith_builtin1 (PyProof.Rows.args_cons ?_ rfl) rfl rfl
  refine Call_ (ld_blt I hg2 hm2 boot_set ?_)
  refine PyProof.Rows.callWith_type1 (PyProof.Rows.args_cons (thn (ha.run pins s σ H _ I h) fun v s1 ⟨x, H1, I1, r1, q1⟩ => PyProof.Rows.args_nil ?_) na) na rfl
  obtain ⟨l, ks, d, B, rfl, hq, hk, hf, hd, hB, q1⟩ := q1
  cases r1
  obtain ⟨its, rv, pt, hz⟩ := I1.tuple hq
  have hh := I1.ok.hd hc
  refine call_set_tupT (P := X.prog) (w := X.w) ks hh (show s1.heap.IsTuple l its.toArray from pt) (by simpa using refs_of_vals rv) (fun p hp => I1.isT (hk p hp)) hf (by omega) fun h' tk L es ep t R g k => ?_
  refine PyProof.Rows.args_nil ?_
  have I2 : Inv X pins σ H1 { s1 with heap := h', toks := tk } := I1.kept fun b o e => k b o e
  have sub : ∀ p ∈ L, p ∈ ks := fun p hp => List.mem_of_mem_take (g.sub p hp)
  have all : ∀ p ∈ ks, p.2 ∈ L.map (·.2) := fun p hp => g.all p (by rw [List.take_length]; exact hp)
  refine sorted_setT R hh hd (fun p hp => hB p (sub p hp)) fun s' p out c L' k2 g2 o hp hgp hout pm pw => ?_
  have hfew : L'.length < 64 := by rw [pm.length_eq]; exact R.few
  have hlen : (L'.map fun q => V.ref q.1).length ≤ sizeLine := by rw [List.length_map, sizeLine_eq]; omega
  have hn : H1 p = none := I2.hok.fresh hp
  have hv : Vals (L'.map fun q => V.ref q.1) out.toList := by rw [hout]; exact vals_of_refs L'
  have J : Inv X pins σ (upd H1 p (.lst (L'.map fun q => V.ref q.1))) ({ ({ s1 with heap := h', toks := tk } : Shared) with heap := s'.heap, gens := s'.gens, drawn := s'.drawn, toks := s'.toks } : Shared) :=
    I2.call (ch := []) (Un.laid k2 hp hn) (I2.hok.laid k2 hp ⟨hlen, out.toList, c, hv, hgp⟩) (by rw [g2]; exact I2.bare) (fun _ z => nomatch z)
  have e : s' = ({ ({ s1 with heap := h', toks := tk } : Shared) with heap := s'.heap, gens := s'.gens, drawn := s'.drawn, toks := s'.toks } : Shared) := by
    cases s'
    cases s1
    cases o
    rfl
  rw [e]
  exact ⟨.ref p, _, J, rfl, q1 L' p (fun q hq => sub q (pm.mem_iff.mp hq)) (fun q hq => (pm.map (·.2)).mem_iff.mpr (all q hq)) ((pm.map (·.2)).nodup_iff.mpr R.nd) pw hn⟩
end
def pl2 (p : Int × Int) : List Int := [p.1, p.2]
theorem pl2_inj {p q : Int × Int} (h : pl2 p = pl2 q) : p = q := by
  obtain ⟨a, b⟩ := p
  obtain ⟨c, d⟩ := q
  have h : [a, b] = [c, d] := h
  injection h with h1 h2
  injection h2 with h2 _
  rw [h1, h2]
def le2 (p q : Int × Int) : Prop := p.1 < q.1 ∨ (p.1 = q.1 ∧ p.2 < q.2)
def bd2 : List (Int × Int) → Int
  | [] => 1
  | p :: ps => p.1.natAbs + p.2.natAbs + 1 + bd2 ps
theorem bd2_pos : ∀ xs : List (Int × Int), 1 ≤ bd2 xs
  | [] => Int.le_refl 1
  | p :: ps => by
    have := bd2_pos ps
    show 1 ≤ (p.1.natAbs : Int) + p.2.natAbs + 1 + bd2 ps
    omega
theorem bd2_mem : ∀ {xs : List (Int × Int)} {p : Int × Int}, p ∈ xs → 0 ≤ p.1 → 0 ≤ p.2 → TS.Bd (bd2 xs) (pl2 p)
  | q :: xs, p, h, h1, h2 => by
    have hp := bd2_pos xs
    have e : bd2 (q :: xs) = (q.1.natAbs : Int) + q.2.natAbs + 1 + bd2 xs := rfl
    intro m hm
    have hm : m ∈ [p.1, p.2] := hm
    rcases List.mem_cons.mp h with z | z
    · subst z
      simp only [List.mem_cons, List.not_mem_nil, or_false] at hm
      rw [e]
      rcases hm with rfl | rfl <;> omega
    · have ih := bd2_mem z h1 h2 m hm
      rw [e]
      omega
section
variable {C : Cn} {Γ : List Ety} {K : PySem.W.Frag} {α β γ F : Type}
theorem pairs_tup {H : Hp} : ∀ {vs : List V} {xs : List (Int × Int)}, FzAll K H vs (xs.map (e2 eI eI)) → ∃ ks : List (Addr × List Int), vs = ks.map (fun p => V.ref p.1) ∧ ks.map (·.2) = xs.map pl2 ∧ ∀ p ∈ ks, SqT K H p.1 (p.2.map V.int)
  | _, [], h => by
    cases h
    exact ⟨[], rfl, rfl, fun p hp => (by cases hp)⟩
  | _, x :: xs, h => by
    cases h with
    | cons h1 h2 =>
      obtain ⟨ks, e1, e2', e3⟩ := pairs_tup h2
      obtain ⟨a, us, rfl, hs, hz⟩ := Fz.tup_inv h1
      refine ⟨(a, pl2 x) :: ks, by rw [e1]; rfl, by rw [List.map_cons, e2', List.map_cons], fun p hp => ?_⟩
      rcases List.mem_cons.mp hp with z | z
      · rw [z]
        exact ints_tup (ns := [x.1, x.2]) hs hz
      · exact e3 p z
theorem fz_pairs {H : Hp} : ∀ {L : List (Addr × List Int)} {ys : List (Int × Int)}, L.map (·.2) = ys.map pl2 → (∀ p ∈ L, SqT K H p.1 (p.2.map V.int)) → FzAll K H (L.map fun q => V.ref q.1) (ys.map (e2 eI eI))
  | [], [], _, _ => .nil
  | [], _ :: _, h, _ => by cases h
  | _ :: _, [], h, _ => by cases h
  | p :: L, y :: ys, h, hs => by
    injection h with h1 h2
    refine .cons ?_ (fz_pairs h2 fun q hq => hs q (List.mem_cons_of_mem _ hq))
    have h1 : p.2 = pl2 y := h1
    have := hs p List.mem_cons_self
    rw [h1] at this
    exact .tup this (fz_ints [y.1, y.2])
theorem lift_pl2 : ∀ {L : List (List Int)} {xs : List (Int × Int)}, (∀ l ∈ L, l ∈ xs.map pl2) → ∃ ys : List (Int × Int), L = ys.map pl2 ∧ ∀ y ∈ ys, y ∈ xs
  | [], _, _ => ⟨[], rfl, fun y hy => (by cases hy)⟩
  | l :: L, xs, h => by
    obtain ⟨ys, e, hs⟩ := lift_pl2 fun l' hl' => h l' (List.mem_cons_of_mem _ hl')
    obtain ⟨x, hx, ex⟩ := List.mem_map.mp (h l List.mem_cons_self)
    refine ⟨x :: ys, by rw [List.map_cons, ex, e], fun y hy => ?_⟩
    rcases List.mem_cons.mp hy with z | z
    · rw [z]; exact hx
    · exact hs y z
theorem ev_sortSetP {ta : TE} {w : Wp (List (Int × Int))} (h : EvG C Γ ta w (fun r => RF C.K (eT (e2 eI eI) r))) : EvG C Γ (tSortSetP C.K ta) (bnd w fun xs => grd (xs.length < 64 ∧ ∀ x ∈ xs, 0 ≤ x.1 ∧ 0 ≤ x.2) (anyW fun ys : List (Int × Int) => ys.Pairwise le2 ∧ ∀ k, k ∈ ys ↔ k ∈ xs)) (fun r => RN (ls C.K (r.map (e2 eI eI)))) := fun P X hw B σ H fp en ex Q q => by
  refine h _ X hw B σ H fp en ex _ fun xs v H1 ⟨⟨h1, h2⟩, h3⟩ s1 hv => ?_
  obtain ⟨a, vs, rfl, hs, hz⟩ := Fz.tup_inv hv
  obtain ⟨ks, e1, ek, hk⟩ := pairs_tup hz
  have hkl : ks.length = xs.length := by
    have := congrArg List.length ek
    rwa [List.length_map, List.length_map] at this
  have hkx : ∀ p ∈ ks, ∃ x ∈ xs, p.2 = pl2 x := fun p hp => by
    have : p.2 ∈ ks.map (·.2) := List.mem_map.mpr ⟨p, hp, rfl⟩
    rw [ek] at this
    obtain ⟨x, hx, e⟩ := List.mem_map.mp this
    exact ⟨x, hx, e.symm⟩
  have hBd : ∀ x ∈ xs, TS.Bd (bd2 xs) (pl2 x) := fun x hx => bd2_mem hx (h2 x hx).1 (h2 x hx).2
  refine ⟨a, ks, 2, bd2 xs, rfl, by rw [← e1]; exact hs, hk, by omega, by decide, fun p hp => ?_, fun L l sub all nd pw hl => ?_⟩
  · obtain ⟨x, hx, e⟩ := hkx p hp
    rw [e]
    exact ⟨rfl, hBd x hx⟩
  · obtain ⟨ys, ey, hy⟩ := lift_pl2 (L := L.map (·.2)) (xs := xs) fun z hz => by
      obtain ⟨p, hp, e⟩ := List.mem_map.mp hz
      rw [← ek]
      exact List.mem_map.mpr ⟨p, sub p hp, e⟩
    have s2 : Stp B H1 (upd H1 l (.lst (L.map fun q => V.ref q.1))) := .new s1.ts hl
    have nd2 : (ys.map pl2).Nodup := by rw [← ey]; exact nd
    have pw2 : ys.Pairwise fun x y => TS.code (bd2 xs) (pl2 x) ≤ TS.code (bd2 xs) (pl2 y) := by
      have : (L.map (·.2)).Pairwise fun q r => TS.code (bd2 xs) q ≤ TS.code (bd2 xs) r := List.pairwise_map.mpr pw
      rw [ey] at this
      exact (List.pairwise_map (R := fun q r => TS.code (bd2 xs) q ≤ TS.code (bd2 xs) r)).mp this
    have pw3 : ys.Pairwise le2 := by
      refine List.Pairwise.imp_of_mem (fun {x y} hx hy' hh => ?_) (List.Pairwise.and pw2 (List.pairwise_map.mp nd2))
      rcases code_lex (hBd x (hy x hx)) (hBd y (hy y hy')) hh.1 with z | ⟨z1, z2⟩
      · exact .inl z
      · refine .inr ⟨z1, ?_⟩
        rcases Int.lt_or_eq_of_le z2 with z3 | z3
        · exact z3
        · exact absurd (by unfold pl2; rw [z1, z3]) hh.2
    refine q ys _ _ (h3 ys ⟨pw3, fun k => ⟨fun hk' => hy k hk', fun hk' => ?_⟩⟩) (s1.trans s2) ⟨[l], ⟨l, _, rfl, rfl, upd_same, fz_pairs ey fun p hp => sqT_stay (s2.stay s1.ts) (hk p (sub p hp))⟩, fun b hb => by rw [List.mem_singleton.mp hb]; exact s1.back en.tps hl⟩
    have : pl2 k ∈ ks.map (·.2) := by rw [ek]; exact List.mem_map.mpr ⟨k, hk', rfl⟩
    obtain ⟨p, hp, e⟩ := List.mem_map.mp this
    have := all p hp
    rw [e, ey] at this
    obtain ⟨y, hy1, hy2⟩ := List.mem_map.mp this
    rw [← pl2_inj hy2]
    exact hy1
end
end WL
/-! WL, part 43: an expression that is never reached. -/
namespace WL
open PySem PySem.Spec PyProof.Rows L2
def tNevE : TE := fun _ _ _ => False
theorem pe_never {X : Cx} {e : Expr} : PE X e tNevE := ⟨fun _ _ _ _ _ _ h => h.elim⟩
theorem ev_never {α : Type} {C : Cn} {Γ : List Ety} {R : α → Rk} : EvG C Γ tNevE (cut : Wp α) R := fun P X hw => hw.elim
end WL
/-! WL, part 44: try with a body of several returns; except C as e; isinstance of what was caught. -/
namespace WL
open PySem PySem.Spec PyProof.Rows L2
/-! ### a ground of its own -/
def FlatS (S : Sl) : Prop := ∀ H v fp, S.own H v fp → fp = []
def FlatE : Ety → Prop
  | .sl S => FlatS S
  | _ => True
def AllFlat : List Ety → Prop
  | [] => True
  | e :: Γ => FlatE e ∧ AllFlat Γ
theorem flat_fz {K : PySem.W.Frag} {d : PyData} : FlatS (fz K d) := fun _ _ _ h => h.1
theorem AllFlat.at : ∀ {Γ : List Ety} {i : Nat} {S : Sl}, AllFlat Γ → Γ[i]? = some (.sl S) → FlatS S
  | [], _, _, _, h => by cases h
  | e :: Γ, 0, S, ha, h => by
    have h : e = .sl S := Option.some.inj h
    subst h
    exact ha.1
  | e :: Γ, i + 1, S, ha, h => AllFlat.at (i := i) ha.2 h
theorem En.flat {B : Bs} {Γ : List Ety} {σ : List (Option V)} {H : Hp} {fp : Nat → List Addr} (en : En B Γ σ H fp) (ha : AllFlat Γ) (i : Nat) : fp i = [] := by
  by_cases h : ∃ S, Γ[i]? = some (.sl S)
  · obtain ⟨S, hS⟩ := h
    obtain ⟨v, _, ho⟩ := en.sl i S hS
    exact ha.at hS _ _ _ ho
  · exact en.off i fun S hS => h ⟨S, hS⟩
theorem En.reflat {B : Bs} {Γ : List Ety} {σ : List (Option V)} {H : Hp} {fp : Nat → List Addr} (en : En B Γ σ H fp) (ha : AllFlat Γ) : En ⟨H, [], B.T, B.R⟩ Γ σ H fp where
  len := en.len
  sl := en.sl
  tp := en.tp
  off := en.off
  dis := en.dis
  nt := en.nt
  new := fun i a S _ _ h => by rw [en.flat ha i] at h; cases h
  rd := en.rd
  rb := en.rb
  rr := en.rr
  fr := fun a o e => ⟨o, e, fun _ _ => rfl, fun _ => rfl⟩
  tps := en.tps
/-! ### try -/
section
variable {F : Type}
def tryW (m mh : Wp F) : Wp F := fun P X => m P (fun xn => match xn with
  | .plain _ => mh P X
  | .num _ _ => False)
theorem sb_try {C : Cn} {Γ : List Ety} {res : F → Oc} {N Bk Ct : Cont F} {cv : Value} {tb : WX → TS} {us : TS} {ct : Nat → Value × Str} {m mh : Wp F} (hfl : AllFlat Γ) (hres : ∀ o, ∃ d, res o = .fz d) (hcls : ∀ c, PySem.W.exmOne C.K (ct c).1 cv = some true)
    (heq : ∀ W D σ H, tb W D σ H = tb (fun cls d _ H' => W cls d σ H') D σ H) (hb : ∀ E', SimB ⟨C.K, E', ct⟩ res noC noC noC (tb fun cls d _ H => E' cls d H) Γ m) (hs : SimB C res N Bk Ct us Γ mh) :
    SimB C res N Bk Ct (fun D σ H => tb (wOnly C.K cv (fun _ _ _ => us) (fun _ _ _ _ => False) D) D σ H) Γ (tryW m mh) := fun P X hm B D ex fin n b c σ H fp en => by
  show tb _ D σ H
  rw [heq]
  refine hb (fun cls d H' => wOnly C.K cv (fun _ _ _ => us) (fun _ _ _ _ => False) D cls d σ H') P _ hm ⟨H, [], B.T, B.R⟩ D (fun xn v d H' hx hf ht hi => ?_) (fun out v H' hp hf ht ho => ?_) (fun _ _ h => h.elim) (fun _ _ h => h.elim) (fun _ _ h => h.elim) σ H fp (en.reflat hfl)
  · have s2 : Stp B H H' := after_call hf ht
    cases hi with
    | plain c' => exact ⟨true, hcls c', fun _ a _ => hs P X hx B D ex fin n b c σ H' fp (en.step s2), fun z => by cases z⟩
    | num _ _ _ _ => exact hx.elim
  · have s2 : Stp B H H' := after_call hf ht
    obtain ⟨d, hd⟩ := hres out
    refine fin out v H' hp (en.step s2).fr s2.ts ?_
    rw [hd] at ho ⊢
    exact ho
/-- what was caught -/
def xcS (a : Addr) : Sl where
  own := fun _ v fp => v = .ref a ∧ fp = []
  ro := false
  dom := fun h ha => by rw [h.2] at ha; cases ha
  keep := fun h _ => h
def unN (i : Nat) (N : Cont F) : Cont F := fun P X B σ H => N P X B (σ.set i none) H
theorem sb_tryAs {C : Cn} {Γ : List Ety} {res : F → Oc} {N Bk Ct : Cont F} {cv : Value} {Dc : Addr} {i : Nat} {tb : WX → TS} {us : Addr → TS} {ct : Nat → Value × Str} {m mh : Wp F} (hi : i < Γ.length) (hfl : AllFlat Γ) (hres : ∀ o, ∃ d, res o = .fz d) (hcls : ∀ c, PySem.W.exmOne C.K (ct c).1 cv = some true) (hcl2 : ∀ c, (ct c).1 = .ref Dc)
    (heq : ∀ W D σ H, tb W D σ H = tb (fun cls d _ H' => W cls d σ H') D σ H) (hb : ∀ E', SimB ⟨C.K, E', ct⟩ res noC noC noC (tb fun cls d _ H => E' cls d H) Γ m) (hs : ∀ a, SimB C res (unN i N) (unN i Bk) (unN i Ct) (us a) (Γ.set i (.sl (xcS a))) mh) :
    SimB C res N Bk Ct (fun D σ H => tb (wAs C.K cv i (fun a cls d D σ H => (cls = .ref Dc ∧ d = none) ∧ us a D σ H) (fun _ _ _ _ => False) D) D σ H) Γ (tryW m mh) := fun P X hm B D ex fin n b c σ H fp en => by
  show tb _ D σ H
  rw [heq]
  refine hb (fun cls d H' => wAs C.K cv i (fun a cls d D σ H => (cls = .ref Dc ∧ d = none) ∧ us a D σ H) (fun _ _ _ _ => False) D cls d σ H') P _ hm ⟨H, [], B.T, B.R⟩ D (fun xn v d H' hx hf ht hi' => ?_) (fun out v H' hp hf ht ho => ?_) (fun _ _ h => h.elim) (fun _ _ h => h.elim) (fun _ _ h => h.elim) σ H fp (en.reflat hfl)
  · have s2 : Stp B H H' := after_call hf ht
    cases hi' with
    | plain c' =>
      refine ⟨true, hcls c', fun _ a _ => ⟨⟨hcl2 c', rfl⟩, ?_⟩, fun z => by cases z⟩
      exact hs a P X hx B { nx := fun σ' H' => D.nx (σ'.set i none) H', rt := D.rt, bk := fun σ' H' => D.bk (σ'.set i none) H', ct := fun σ' H' => D.ct (σ'.set i none) H' } ex fin (fun σ' H' h => n (σ'.set i none) H' h) (fun σ' H' h => b (σ'.set i none) H' h) (fun σ' H' h => c (σ'.set i none) H' h) (σ.set i (some (.ref a))) H' _ ((en.step s2).put (S := xcS a) (v := .ref a) (q := []) hi ⟨rfl, rfl⟩ (fun _ z => absurd z (by simp)) (fun _ z => absurd z (by simp)) (fun _ _ z => absurd z (by simp)) fun _ _ z => absurd z (by simp))
    | num _ _ _ _ => exact hx.elim
  · have s2 : Stp B H H' := after_call hf ht
    obtain ⟨d, hd⟩ := hres out
    refine fin out v H' hp (en.step s2).fr s2.ts ?_
    rw [hd] at ho ⊢
    exact ho
theorem pss_given {X : Cx} {ss : List Stmt} {p : Prop} {t : TS} (h : p → PSs X ss t) : PSs X ss (fun D σ H => p ∧ t D σ H) :=
  ⟨fun pins s σ H D I hh => (h hh.1).run pins s σ H D I hh.2⟩
theorem zc_of {cls : Value} {d : Option Addr} {Dc : Addr} {oe : Obj} (hg : cls = .ref Dc ∧ d = none) (hz : Zc cls d oe) : Zc (.ref Dc) none oe := by
  rw [← hg.1, ← hg.2]
  exact hz
end
theorem call_isEK {X : Cx} {K : PySem.W.Frag} {a D : Addr} {oe : Obj} {pn : List (Addr × Obj)} (hK : X.K = K) (C : ExcC K D) (hz : Zc (.ref D) none oe) (hf : ∃ vs, oe.data = .fields vs) : CallR (X.suite a ((a, oe) :: pn)) (.builtin "isinstance") (rIsE K D a) := by
  subst hK
  exact call_isE C hz hf
/-- isinstance(e, C), e what was caught -/
theorem ev_isE {C : Cn} {Γ : List Ety} {i : Nat} {a Dc Fa : Addr} (h : Γ[i]? = some (.sl (xcS a))) (hk : PySem.W.kitOne C.K (.ref Dc) (.ref Fa) = some true) :
    EvG C Γ (tCB (rIsE C.K Dc a) (tCons (tVar i) (tCons (tC (.ref Fa)) tNil))) (ret true) (fun r => RF C.K (eB r)) := fun P X hw B σ H fp en ex Q q => by
  obtain ⟨v, hv, ho, _⟩ := en.sl i _ h
  subst ho
  refine ⟨_, hv, ?_⟩
  exact ⟨.ref Fa, .ref Fa, true, rfl, fun u hu => by cases hu; rfl, hk, q true _ H hw (.refl en.tps) (.bl true)⟩
end WL
/-! WL, part 45: ranges of two ends by name. -/
namespace WL
open PySem PySem.Spec PyProof.Rows L2
section
variable {C : Cn} {Γ : List Ety} {K : PySem.W.Frag} {α β γ F : Type}
def rg2S (ab : Int × Int) : Sl where
  own := fun H v fp => ∃ p, v = .ref p ∧ fp = [p] ∧ H p = some (.rng ab.1 ab.2) ∧ Rng ab.1 ∧ Rng ab.2
  ro := false
  dom := fun h ha => by
    obtain ⟨p, _, e, hp, _⟩ := h
    rw [e] at ha
    rw [List.mem_singleton.mp ha]
    exact ⟨_, hp, rfl⟩
  keep := fun {H H'} {v} {fp} h k => by
    obtain ⟨p, e1, e2, hp, hr⟩ := h
    exact ⟨p, e1, e2, k p _ hp (.inl (by rw [e2]; exact List.mem_singleton.mpr rfl)), hr⟩
def rRng2 : List V → Hp → VK → Prop := fun vs H Q => ∃ i j, vs = [V.int i, V.int j] ∧ ∀ p, H p = none → Q (.ref p) (upd H p (.rng i j))
theorem cr_rng2 {X : Cx} : CallR X (.type "range") rRng2 := by
  intro pins s σ H vs us Q I r h
  obtain ⟨i, j, rfl, q⟩ := h
  cases r with
  | cons r1 r2 =>
    cases r2 with
    | cons r2 r3 =>
      cases r3
      obtain ⟨u, rfl⟩ := r1
      obtain ⟨u', rfl⟩ := r2
      refine call_range_2 ⟨.ref s.heap.objs.size, upd H s.heap.objs.size (.rng i j), I.laid (t' := s.toks + 1) (fun b o e => Heap.get?_push_of_some _ e) (Nat.le_refl _) ?_, rfl, q _ (I.hok.fresh (Nat.le_refl _))⟩
      exact ⟨_, _, _, Heap.get?_push_size _ rfl⟩
theorem ev_rng2 {ta tb : TE} {wa wb : Wp Int} (ha : EvG C Γ ta wa (fun r => RF C.K (eI r))) (hb : EvG C Γ tb wb (fun r => RF C.K (eI r))) : EvG C Γ (tCB rRng2 (tCons ta (tCons tb tNil))) (bnd wa fun i => bnd wb fun j => grd (Rng i ∧ Rng j) (ret (i, j))) (fun ab => RN (rg2S ab)) := fun P X hw B σ H fp en ex Q q =>
  ha _ X hw B σ H fp en ex _ fun i v H1 hp s hr => hb _ X hp B σ H1 fp (en.step s) ex _ fun j u H2 hp2 s2 hr2 => by
    have e1 := Fz.int_inv (n := i) hr
    have e2 := Fz.int_inv (n := j) hr2
    subst e1
    subst e2
    refine ⟨i, j, rfl, fun p hn => ?_⟩
    have s3 : Stp B H2 (upd H2 p (.rng i j)) := .new s2.ts hn
    exact q (i, j) _ _ hp2.2 ((s.trans s2).trans s3) ⟨[p], ⟨p, rfl, rfl, upd_same, hp2.1⟩, fun a ha => by rw [List.mem_singleton.mp ha]; exact (s.trans s2).back en.tps hn⟩
def iRgN2 (te : TE) : TI := fun σ H R => te σ H fun x H1 => ∃ a i n, x = .ref a ∧ H1 a = some (.rng i n) ∧ Rng i ∧ Rng n ∧ R (Itr i (n - i).toNat) H1
theorem pi_rgN2 {X : Cx} {tg l : Expr} {tl : TE} (hl : PE X l tl) : PI X tg l (iRgN2 tl) := by
  refine ⟨fun pins s σ H R I h => ?_⟩
  refine thn (hl.run pins s σ H _ I h) fun v s1 ⟨x, H1, I1, r1, q1⟩ => ?_
  obtain ⟨a, i, n, e, hp, hi, hr, q⟩ := q1
  subst e
  cases r1
  obtain ⟨t, u, w', e⟩ := I1.hok a _ hp
  refine wpAny_pyIter_range (show IsRange s1.heap a i n 1 t u w' from e) (small_one hi.1 hi.2 hr.1 hr.2) ?_
  refine ⟨s1.heap.objs.size, [s1.heap.objs.size], _, _, H1, rfl, I1.kept (t' := s1.toks) fun b o e => Heap.get?_push_of_some _ e, turn_range _ i (n - i).toNat, ?_, fun b hb => ?_, q⟩
  · have e1 : i + ((0 : Nat) : Int) * 1 = i := by simp
    have e2 : (((n - i).toNat : Nat) : Int) - ((0 : Nat) : Int) = Builtin.Range.rangeSize i n 1 := by rw [rangeSize_one]; split <;> omega
    show IsRangeIter _ _ (i + ((0 : Nat) : Int) * 1) ((((n - i).toNat : Nat) : Int) - ((0 : Nat) : Int)) 1
    rw [e1, e2]
    exact Heap.get?_push_size _ rfl
  · have e : b = s1.heap.objs.size := by simpa using hb
    subst e
    exact I1.fpOk (Nat.le_refl _) (I1.hok.fresh (Nat.le_refl _))
theorem it_rgN2 {i : Nat} (ab : Int × Int) (h : Has Γ i (rg2S ab)) : ItG C Γ (iRgN2 (tVar i)) (ret (span ab.1 (ab.2 - ab.1).toNat)) (fun r => r.map eI) noOwn := fun P X hw B σ H fp en ex R q => by
  obtain ⟨v, fq, hv, ⟨p, rfl, _, hp, hr⟩, _⟩ := en.hold h
  exact ⟨_, hv, p, ab.1, ab.2, rfl, hp, hr.1, hr.2, q _ _ H [] hw (.refl en.tps) itr_ok fun a h => absurd h (by simp)⟩
end
end WL
namespace WL
open PySem
theorem kit_of {K : PySem.W.Frag} {c d : Addr} (h : PySem.W.subIn K (.ref c) (.ref d) = some true) (h1 : PySem.W.isClsIn K d = true) (h2 : PySem.W.typeIn K (.ref d) = some (.type "type")) : PySem.W.kitOne K (.ref c) (.ref d) = some true := by
  have e2 : ((PySem.W.clsIn K d).isSome && PySem.W.typeIn K (.ref d) == some (.type "type")) = true := by
    have h1' : (PySem.W.clsIn K d).isSome = true := h1
    rw [h1', h2] <;> rfl
  show (if (Value.ref c == Value.ref d) = true then some true else if ((PySem.W.clsIn K d).isSome && PySem.W.typeIn K (.ref d) == some (.type "type")) = true then PySem.W.subIn K (.ref c) (.ref d) else none) = some true
  split
  · rfl
  · first
    | exact h
    | (rw [if_pos e2]; exact h)
theorem ctOf1 (a : Addr) : ∀ c, (ctOf [a] c).1 = .ref a
  | 0 => rfl
  | _ + 1 => rfl
end WL
namespace WL
open PySem
theorem af_nil : AllFlat [] := trivial
theorem af_cons {e : Ety} {Γ : List Ety} (h : FlatE e) (t : AllFlat Γ) : AllFlat (e :: Γ) := ⟨h, t⟩
theorem fe_fz {K : PySem.W.Frag} {d : PyData} : FlatE (.sl (fz K d)) := flat_fz
theorem fe_un : FlatE .un := trivial
theorem fe_tp {S : Sl} : FlatE (.tp S) := trivial
end WL
namespace WL
open PySem PySem.Spec PyProof.Rows L2
def tTryO (K : PySem.W.Frag) (cv : Value) (us : TS) (tb : WX → TS) : TS := fun D σ H => tb (wOnly K cv (fun _ _ _ => us) (fun _ _ _ _ => False) D) D σ H
def tTryA (K : PySem.W.Frag) (cv : Value) (i : Nat) (Dc : Addr) (us : Addr → TS) (tb : WX → TS) : TS := fun D σ H => tb (wAs K cv i (fun a cls d D σ H => (cls = .ref Dc ∧ d = none) ∧ us a D σ H) (fun _ _ _ _ => False) D) D σ H
section
variable {X : Cx} {K : PySem.W.Frag} {x n : Str} {c : Value} {i : Nat} {body suite : List Stmt} {b₀ : Stmt} {np pos pos' : Pos} {tb : WX → TS}
theorem ps_tryO {us : TS} (hK : X.K = K) (hs : X.stack = X.env :: X.outer) (hf : X.env.frame = some X.env.locals) (hc : Names X x c)
    (hb : ∀ (W : WX) (pn : List (Addr × Obj)) (xe : Value → Shared → Prop), Takes (X.tr pn xe) W → PSs (X.tr pn xe) body (tb W))
    (hsu : ∀ (a : Addr) (oe : Obj) (pn : List (Addr × Obj)), PSs (X.suite a ((a, oe) :: pn)) (b₀ :: suite) us) :
    PS X (.Try body [.ExceptHandler (some (.Name x np)) none (b₀ :: suite) pos'] [] [] pos) (tTryO K c us tb) := by
  subst hK
  exact ps_try_only hs hf hc takes0 (fun W pn xe tk _ => hb W pn xe tk) (fun a oe _ _ pn _ _ => hsu a oe pn)
theorem ps_tryA {us : Addr → TS} {Dc : Addr} (hK : X.K = K) (hs : X.stack = X.env :: X.outer) (hf : X.env.frame = some X.env.locals) (hN : X.N.Nodup) (hi : X.N[i]? = some n) (hln : X.env.kindOf n = some .local) (hc : Names X x c)
    (hb : ∀ (W : WX) (pn : List (Addr × Obj)) (xe : Value → Shared → Prop), Takes (X.tr pn xe) W → PSs (X.tr pn xe) body (tb W))
    (hsu : ∀ (a : Addr) (oe : Obj) (pn : List (Addr × Obj)), Zc (.ref Dc) none oe → (∃ vs, oe.data = .fields vs) → PSs (X.suite a ((a, oe) :: pn)) (b₀ :: suite) (us a)) :
    PS X (.Try body [.ExceptHandler (some (.Name x np)) (some n) (b₀ :: suite) pos'] [] [] pos) (tTryA K c i Dc us tb) := by
  subst hK
  exact ps_try_as hs hf hN hi hln hc takes0 (fun W pn xe tk _ => hb W pn xe tk) (fun a oe cls d pn hz hf => pss_given fun hg => hsu a oe pn (zc_of hg hz) hf)
end
section
variable {F : Type} {C : Cn} {Γ : List Ety} {res : F → Oc} {N Bk Ct : Cont F} {cv : Value} {tb : WX → TS} {ct : Nat → Value × Str} {m mh : Wp F}
theorem sb_tryO {us : TS} (hfl : AllFlat Γ) (hres : ∀ o, ∃ d, res o = .fz d) (hcls : ∀ c, PySem.W.exmOne C.K (ct c).1 cv = some true)
    (heq : ∀ W D σ H, tb W D σ H = tb (fun cls d _ H' => W cls d σ H') D σ H) (hb : ∀ E', SimB ⟨C.K, E', ct⟩ res noC noC noC (tb fun cls d _ H => E' cls d H) Γ m) (hs : SimB C res N Bk Ct us Γ mh) :
    SimB C res N Bk Ct (tTryO C.K cv us tb) Γ (tryW m mh) := sb_try hfl hres hcls heq hb hs
theorem sb_tryA {i : Nat} {Dc : Addr} {us : Addr → TS} (hi : i < Γ.length) (hfl : AllFlat Γ) (hres : ∀ o, ∃ d, res o = .fz d) (hcls : ∀ c, PySem.W.exmOne C.K (ct c).1 cv = some true) (hcl2 : ∀ c, (ct c).1 = .ref Dc)
    (heq : ∀ W D σ H, tb W D σ H = tb (fun cls d _ H' => W cls d σ H') D σ H) (hb : ∀ E', SimB ⟨C.K, E', ct⟩ res noC noC noC (tb fun cls d _ H => E' cls d H) Γ m) (hs : ∀ a, SimB C res (unN i N) (unN i Bk) (unN i Ct) (us a) (Γ.set i (.sl (xcS a))) mh) :
    SimB C res N Bk Ct (tTryA C.K cv i Dc us tb) Γ (tryW m mh) := sb_tryAs hi hfl hres hcls hcl2 heq hb hs
end
end WL
namespace WL
open PySem PySem.Spec PyProof.Rows L2
def WInv (tb : WX → TS) : Prop := ∀ W W' D σ H, WE W σ = WE W' σ → tb W D σ H = tb W' D σ H
theorem WInv.eq {tb : WX → TS} (h : WInv tb) : ∀ W D σ H, tb W D σ H = tb (fun cls d _ H' => W cls d σ H') D σ H := fun W D σ H => h W _ D σ H rfl
theorem wi_ret {sp : Sp} {ta : TA} : WInv (fun W => tRet (tCallS sp (WE W) ta)) := fun W W' D σ H h => by
  show ta σ H (fun vs H1 => sp vs H1 D.rt (WE W σ)) = ta σ H (fun vs H1 => sp vs H1 D.rt (WE W' σ))
  rw [h]
theorem wi_if {tc : TT} {sp : Sp} {ta : TA} {tb : WX → TS} (hb : WInv tb) : WInv (fun W => tSeq (tIfS tc (tRet (tCallS sp (WE W) ta)) tNext) (tb W)) := fun W W' D σ H h => by
  show tc σ H (fun b H1 => if b = true then ta σ H1 (fun vs H2 => sp vs H2 D.rt (WE W σ)) else tb W D σ H1) = tc σ H (fun b H1 => if b = true then ta σ H1 (fun vs H2 => sp vs H2 D.rt (WE W' σ)) else tb W' D σ H1)
  rw [h]
  congr 1
  funext b H1
  rw [hb W W' D σ H1 h]
end WL
namespace Cf
open PySem L2 WL
/-- two lists of one length, item by item -/
inductive All2 {α β : Type} (R : α → β → Prop) : List α → List β → Prop
  | nil : All2 R [] []
  | cons {x : α} {y : β} {a : List α} {b : List β} : R x y → All2 R a b → All2 R (x :: a) (y :: b)
def l_take (n : Int) : Wp Int := grd (0 < n ∧ n < 1073741824) (anyW fun d => 0 ≤ d ∧ d < n)
/-- a table's cell, a table with another cell, how many options it has -/
def cell (t : List (List (List Int))) (i j : Nat) : List Int := (t.getD i []).getD j []
def setC (t : List (List (List Int))) (i j : Nat) (e : List Int) : List (List (List Int)) := t.set i ((t.getD i []).set j e)
def sizeT (t : List (List (List Int))) : Nat := (t.map fun r => (r.map List.length).sum).sum
def tgt (chs : List (Int × Int × Int)) (c : Int) : Int := (chs.getD c.toNat (0, 0, 0)).2.1
structure Shp (n : Nat) (t : List (List (List Int))) : Prop where
  len : t.length = n
  row : ∀ r ∈ t, r.length = n
/-- c may stay at its place for goal j -/
def OkC (chs : List (Int × Int × Int)) (t : List (List (List Int))) (j : Nat) (c : Int) : Prop := tgt chs c = j ∨ cell t (tgt chs c).toNat j ≠ []
def Live (n : Nat) (chs : List (Int × Int × Int)) (t : List (List (List Int))) : Prop := ∀ i j, i < n → j < n → ∀ c ∈ cell t i j, OkC chs t j c
def SubT (n : Nat) (s t : List (List (List Int))) : Prop := ∀ i j, i < n → j < n → ∀ c ∈ cell s i j, c ∈ cell t i j
structure ThOk (net : Int × List (Int × Int × Int)) (tab : List (List (List Int))) : Prop where
  n : (tab.length : Int) = net.1
  few : tab.length < 1000
  sq : ∀ row ∈ tab, row.length = tab.length
  ent : ∀ row ∈ tab, ∀ e ∈ row, ∀ c ∈ e, 0 ≤ c ∧ c < net.2.length
  ch : ∀ c ∈ net.2, 0 ≤ c.2.1 ∧ c.2.1 < net.1
  sz : sizeT tab < 500
/-- t is the greatest part of tab without dead ends -/
structure ThMax (chs : List (Int × Int × Int)) (t tab : List (List (List Int))) : Prop where
  shp : Shp tab.length t
  sub : ∀ i j, i < tab.length → j < tab.length → (cell t i j).Sublist (cell tab i j)
  live : Live tab.length chs t
  max : ∀ s, SubT tab.length s tab → Live tab.length chs s → SubT tab.length s t
def l_thinned (net : Int × List (Int × Int × Int)) (tab : List (List (List Int))) : Wp (List (List (List Int))) := grd (ThOk net tab) (anyW fun t => ThMax net.2 t tab)

def p_is_end (network : (Int × (List (Int × Int × Int)))) (table : (List (List (List Int)))) (d : Int) (c : Int) : Wp Bool :=
  bnd (bnd (opt (atI network.2 c)) fun x1 => ret x1.2.1) fun v_2 =>
  sel (!decide (v_2 = d)) (bnd (bnd (opt (atI table v_2)) fun x3 => opt (atI x3 d)) fun x4 => eqW ((eT eI) x4) ((eT eI) ([] : (List Int)))) (ret false)

def p_dead_ends (network : (Int × (List (Int × Int × Int)))) (table : (List (List (List Int)))) : Wp (List (Int × Int × Int)) :=
  bnd (ret ([] : List (Int × Int × Int))) fun found_1 =>
  bnd (grd (Rng network.1) (ret (span 0 (network.1).toNat))) fun l15 => forK (fun x2 (s3 : ((List (Int × Int × Int)))) kc4 kb5 =>
  bnd (grd (Rng network.1) (ret (span 0 (network.1).toNat))) fun l14 => forK (fun x6 (s7 : ((List (Int × Int × Int)))) kc8 kb9 =>
  extW s7 (bnd (bnd (opt (atI table x2)) fun x11 => opt (atI x11 x6)) fun l13 => lcG (fun c12 => (noX (p_is_end network table x6 c12))) (fun c12 => (ret (x2, x6, c12))) l13) fun s10 =>
  kc8 s10) (fun s7 : ((List (Int × Int × Int))) =>
  kc4 s7) l14 s3) (fun s3 : ((List (Int × Int × Int))) =>
  ret s3) l15 found_1

def p_served (fabric : ((Int × (List (Int × Int × Int))) × (List (List (List Int))))) : Wp (List (Int × Int)) :=
  bnd (ret fabric.1.1) fun n_1 =>
  bnd (grd (Rng n_1) (ret (span 0 (n_1).toNat))) fun l6 => lc2G (fun c2 => (ret true)) (fun c2 => (grd (Rng n_1) (ret (span 0 (n_1).toNat)))) (fun c2 c3 => (bnd (bnd (opt (atI fabric.2 c2)) fun x4 => opt (atI x4 c3)) fun x5 => eqWN ((eT eI) x5) ((eT eI) ([] : (List Int))))) (fun c2 c3 => (ret (c2, c3))) l6

def p_with_options (table : (List (List (List Int)))) (u : Int) (d : Int) (found : (List Int)) : Wp (List (List (List Int))) :=
  bnd (bnd (bnd (bnd (opt (atI table u)) fun x1 => ret (cutA x1 none (some d))) fun x2 => grd (x2.length + [found].length ≤ 16777216) (ret (x2 ++ [found]))) fun x4 => bnd (bnd (opt (atI table u)) fun x3 => ret (cutA x3 (some (d + (1 : Int))) none)) fun x5 => grd (x4.length + x5.length ≤ 16777216) (ret (x4 ++ x5))) fun row_6 =>
  bnd (grd ((cutA table none (some u)).length + [row_6].length ≤ 16777216) (ret ((cutA table none (some u)) ++ [row_6]))) fun x7 => grd (x7.length + (cutA table (some (u + (1 : Int))) none).length ≤ 16777216) (ret (x7 ++ (cutA table (some (u + (1 : Int))) none)))

def p_without_option (table : (List (List (List Int)))) (u : Int) (d : Int) (c : Int) : Wp (List (List (List Int))) :=
  bnd (bnd (bnd (opt (atI table u)) fun x1 => opt (atI x1 d)) fun l3 => lcG (fun c2 => (ret (!decide (c2 = c)))) (fun c2 => (ret c2)) l3) fun x4 => noX (p_with_options table u d x4)

def p_thinned (network : (Int × (List (Int × Int × Int)))) (table : (List (List (List Int)))) : Wp (List (List (List Int))) :=
  bnd (noX (p_dead_ends network table)) fun ends_1 =>
  whileW (fun s2 : ((List (List (List Int))) × (List (Int × Int × Int))) => eqLN (List.map (e3 eI eI eI) s2.2) (List.map (e3 eI eI eI) ([] : List (Int × Int × Int)))) (fun (s2 : ((List (List (List Int))) × (List (Int × Int × Int)))) kc3 kb4 =>
  forK (fun x5 (s6 : ((List (List (List Int))))) kc7 kb8 =>
  bnd (noX (p_without_option s6 (x5.1) (x5.2.1) (x5.2.2))) fun table_11 =>
  kc7 table_11) (fun s6 : ((List (List (List Int)))) =>
  bnd (noX (p_dead_ends network s6)) fun ends_12 =>
  kc3 (s6, ends_12)) s2.2 s2.1) (fun s2 : ((List (List (List Int))) × (List (Int × Int × Int))) =>
  ret s2.1) (table, ends_1)

def p_kept (table : (List (List (List Int)))) (channels : (List Int)) : Wp (List (List (List Int))) :=
  bnd (ret table) fun l6 => lcG (fun c1 => (ret true)) (fun c1 => (bnd (ret c1) fun l5 => lcG (fun c2 => (ret true)) (fun c2 => (bnd (ret c2) fun l4 => lcG (fun c3 => (ret (!decide (c3 ∈ channels)))) (fun c3 => (ret c3)) l4)) l5)) l6

def p_without_channels (fabric : ((Int × (List (Int × Int × Int))) × (List (List (List Int))))) (channels : (List Int)) : Wp ((Int × (List (Int × Int × Int))) × (List (List (List Int)))) :=
  bnd (ret fabric) fun u1 =>
  bnd (bnd (noX (p_kept (u1.2) channels)) fun x2 => noX (p_thinned (u1.1) x2)) fun x3 => ret ((u1.1), x3)

def p_stays (fabric : ((Int × (List (Int × Int × Int))) × (List (List (List Int))))) (c : Int) (packet : (Int × Int)) (channels : (List Int)) : Wp Bool :=
  bnd (bnd (opt (atI fabric.1.2 c)) fun x1 => ret x1.2.1) fun target_2 =>
  sel (!decide (c ∈ channels)) (sel (decide (target_2 = packet.2)) (ret true) (bnd (bnd (opt (atI fabric.2 target_2)) fun x3 => opt (atI x3 packet.2)) fun x4 => eqWN ((eT eI) x4) ((eT eI) ([] : (List Int))))) (ret false)

def p_after_failure (fabric : ((Int × (List (Int × Int × Int))) × (List (List (List Int))))) (state : (Int × (List (List (Int × Int))))) (channels : (List Int)) : Wp (((Int × (List (Int × Int × Int))) × (List (List (List Int)))) × (Int × (List (List (Int × Int)))) × (List Int)) :=
  bnd (noX (p_without_channels fabric channels)) fun new_1 =>
  bnd (ret ([] : List (List (Int × Int)))) fun queues_2 =>
  bnd (ret ([] : List Int)) fun lost_3 =>
  bnd (ret (enumI state.2)) fun l16 => forK (fun x4 (s5 : ((List (List (Int × Int))) × (List Int))) kc6 kb7 =>
  appW s5.1 (bnd (ret (x4.2)) fun l10 => lcG (fun c9 => (noX (p_stays new_1 (x4.1) c9 channels))) (fun c9 => (ret c9)) l10) fun s8 =>
  extW s5.2 (bnd (ret (x4.2)) fun l14 => lcG (fun c12 => (bnd (noX (p_stays new_1 (x4.1) c12 channels)) fun x13 => ret (!x13))) (fun c12 => (ret c12.1)) l14) fun s11 =>
  kc6 (s8, s11)) (fun s5 : ((List (List (Int × Int))) × (List Int)) =>
  bnd (sortW eI s5.2) fun x15 => ret (new_1, (state.1, s5.1), x15)) l16 (queues_2, lost_3)

def p_cut_off (fabric : ((Int × (List (Int × Int × Int))) × (List (List (List Int))))) (channels : (List Int)) : Wp (List (Int × Int)) :=
  bnd (bnd (noX (p_without_channels fabric channels)) fun x1 => noX (p_served x1)) fun left_2 =>
  bnd (noX (p_served fabric)) fun l4 => lcG (fun c3 => (niW (e2 eI eI) c3 left_2)) (fun c3 => (ret c3)) l4

def l_mix (number : Int) : Wp Int :=
  bnd (ret (Int.fmod ((number * (6364136223846793005 : Int)) + (1442695040888963407 : Int)) (18446744073709551616 : Int))) fun number_1 =>
  bnd (bnd (bnd (grd (CMul number_1 number_1) (ret (number_1 * number_1))) fun x2 => ret (x2 / (4294967296 : Int))) fun x3 => ret (x3 + (number_1 * (69621 : Int)))) fun x4 => ret (Int.fmod x4 (18446744073709551557 : Int))

def l_fabric : Wp ((Int × (List (Int × Int × Int))) × (List (List (List Int)))) :=
  bnd (bnd (noX (l_take (4 : Int))) fun x1 => ret ((2 : Int) + x1)) fun n_2 =>
  bnd (ret ([] : List (Int × Int × Int))) fun channels_3 =>
  letK (fun s6 : ((List (Int × Int × Int))) =>
  bnd (bnd (bnd (noX (l_take (7 : Int))) fun x14 => ret ((1 : Int) + x14)) fun x15 => grd (Rng x15) (ret (span 0 (x15).toNat))) fun l57 => forK (fun x16 (s17 : ((List (Int × Int × Int)))) kc18 kb19 =>
  bnd (noX (l_take n_2)) fun source_20 =>
  appW s17 (bnd (bnd (bnd (noX (l_take (n_2 - (1 : Int)))) fun x22 => ret ((source_20 + (1 : Int)) + x22)) fun x23 => grd (n_2 ≠ 0) (ret (Int.fmod x23 n_2))) fun x25 => bnd (bnd (noX (l_take (3 : Int))) fun x24 => ret ((1 : Int) + x24)) fun x26 => ret (source_20, x25, x26)) fun s21 =>
  kc18 s21) (fun s17 : ((List (Int × Int × Int))) =>
  bnd (ret (n_2, s17)) fun network_27 =>
  bnd (bnd (noX (l_take (4 : Int))) fun x28 => ret ((2 : Int) + x28)) fun rate_29 =>
  bnd (ret ([] : List (List (List Int)))) fun table_30 =>
  bnd (grd (Rng n_2) (ret (span 0 (n_2).toNat))) fun l56 => forK (fun x31 (s32 : ((List (List (List Int))))) kc33 kb34 =>
  bnd (ret ([] : List (List Int))) fun row_35 =>
  bnd (grd (Rng n_2) (ret (span 0 (n_2).toNat))) fun l54 => forK (fun x36 (s37 : ((List (List Int)))) kc38 kb39 =>
  bnd (bnd (grd (Rng (s17.length : Int)) (ret (span 0 ((s17.length : Int)).toNat))) fun l44 => lcG (fun c40 => (bnd (bnd (bnd (opt (atI s17 c40)) fun x41 => ret x41.1) fun x42 => ret (decide (x42 = x31))) fun x43 => sel x43 (ret (!decide (x31 = x36))) (ret false))) (fun c40 => (ret c40)) l44) fun own_45 =>
  appW s37 (bnd (ret own_45) fun l52 => lcG (fun c47 => (bnd (bnd (bnd (opt (atI s17 c47)) fun x48 => ret x48.2.1) fun x49 => ret (decide (x49 = x36))) fun x51 => sel x51 (ret true) (bnd (noX (l_take rate_29)) fun x50 => ret (decide ((0 : Int) < x50))))) (fun c47 => (ret c47)) l52) fun s46 =>
  kc38 s46) (fun s37 : ((List (List Int))) =>
  appW s32 (ret s37) fun s53 =>
  kc33 s53) l54 row_35) (fun s32 : ((List (List (List Int)))) =>
  bnd (noX (l_thinned network_27 s32)) fun x55 => ret (network_27, x55)) l56 table_30) l57 s6) fun k7 =>
  bnd (bnd (noX (l_take (3 : Int))) fun x4 => ret (decide ((0 : Int) < x4))) fun b5 => sel b5
  (bnd (bnd (grd (Rng n_2) (ret (span 0 (n_2).toNat))) fun l12 => lcG (fun c8 => (ret true)) (fun c8 => (bnd (grd (n_2 ≠ 0) (ret (Int.fmod (c8 + (1 : Int)) n_2))) fun x10 => bnd (bnd (noX (l_take (3 : Int))) fun x9 => ret ((1 : Int) + x9)) fun x11 => ret (c8, x10, x11))) l12) fun channels_13 =>
  k7 channels_13)
  (k7 channels_3)

def l_placed (fabric_here : ((Int × (List (Int × Int × Int))) × (List (List (List Int))))) (d : Int) : Wp (List Int) :=
  bnd (grd (Rng (fabric_here.1.2.length : Int)) (ret (span 0 ((fabric_here.1.2.length : Int)).toNat))) fun l6 => lcG (fun c1 => (bnd (bnd (bnd (bnd (opt (atI fabric_here.1.2 c1)) fun x2 => ret x2.1) fun x3 => opt (atI fabric_here.2 x3)) fun x4 => opt (atI x4 d)) fun x5 => ret (decide (c1 ∈ x5)))) (fun c1 => (ret c1)) l6

def l_state (fabric_here : ((Int × (List (Int × Int × Int))) × (List (List (List Int))))) : Wp (Int × (List (List (Int × Int)))) :=
  bnd (bnd (grd (Rng (fabric_here.1.2.length : Int)) (ret (span 0 ((fabric_here.1.2.length : Int)).toNat))) fun l5 => lcG (fun c1 => (ret true)) (fun c1 => (bnd (grd (Rng fabric_here.1.1) (ret (span 0 (fabric_here.1.1).toNat))) fun l4 => lcG (fun c2 => (bnd (noX (l_placed fabric_here c2)) fun x3 => ret (decide (c1 ∈ x3)))) (fun c2 => (ret c2)) l4)) l5) fun goals_6 =>
  bnd (noX (l_take (3 : Int))) fun full_7 =>
  bnd (ret ([] : List (List (Int × Int)))) fun rows_8 =>
  bnd (ret (0 : Int)) fun number_9 =>
  bnd (grd (Rng (goals_6.length : Int)) (ret (span 0 ((goals_6.length : Int)).toNat))) fun l36 => forK (fun x10 (s11 : (Int × (List (List (Int × Int))))) kc12 kb13 =>
  bnd (ret ([] : List (Int × Int))) fun row_14 =>
  bnd (bnd (opt (atI fabric_here.1.2 x10)) fun x15 => ret x15.2.2) fun room_16 =>
  bnd (bnd (bnd (bnd (bnd (opt (atI goals_6 x10)) fun x17 => ret (x17.length : Int)) fun x18 => ret (decide (x18 = (0 : Int)))) fun b19 => sel b19 (ret (0 : Int)) (sel (decide (full_7 = (0 : Int))) (ret room_16) (noX (l_take (room_16 + (1 : Int)))))) fun x20 => grd (Rng x20) (ret (span 0 (x20).toNat))) fun l33 => forK (fun x21 (s22 : ((List (Int × Int)) × Int)) kc23 kb24 =>
  appW s22.1 (bnd (bnd (opt (atI goals_6 x10)) fun x28 => bnd (bnd (bnd (opt (atI goals_6 x10)) fun x26 => ret (x26.length : Int)) fun x27 => noX (l_take x27)) fun x29 => opt (atI x28 x29)) fun x30 => ret (s22.2, x30)) fun s25 =>
  bnd (ret (s22.2 + (1 : Int))) fun number_31 =>
  kc23 (s25, number_31)) (fun s22 : ((List (Int × Int)) × Int) =>
  appW s11.2 (ret s22.1) fun s32 =>
  kc12 (s22.2, s32)) l33 (row_14, s11.1)) (fun s11 : (Int × (List (List (Int × Int)))) =>
  bnd (bnd (noX (l_take (3 : Int))) fun x34 => ret (s11.1 + x34)) fun x35 => ret (x35, s11.2)) l36 (number_9, rows_8)

def law_ : Wp Bool :=
  bnd (noX (l_fabric)) fun fabric_here_1 =>
  bnd (noX (l_state fabric_here_1)) fun state_here_2 =>
  bnd (ret fabric_here_1) fun u3 =>
  bnd (bnd (grd (Rng ((u3.1).2.length : Int)) (ret (span 0 (((u3.1).2.length : Int)).toNat))) fun l6 => lcG (fun c4 => (bnd (noX (l_take (4 : Int))) fun x5 => ret (decide (x5 = (0 : Int))))) (fun c4 => (ret c4)) l6) fun channels_7 =>
  bnd (bnd (ret (u3.2)) fun l13 => lcG (fun c8 => (ret true)) (fun c8 => (bnd (ret c8) fun l12 => lcG (fun c9 => (ret true)) (fun c9 => (bnd (ret c9) fun l11 => lcG (fun c10 => (ret (!decide (c10 ∈ channels_7)))) (fun c10 => (ret c10)) l11)) l12)) l13) fun part_14 =>
  bnd (bnd (noX (l_thinned (u3.1) part_14)) fun x15 => ret ((u3.1), x15)) fun new_16 =>
  bnd (noX (p_after_failure fabric_here_1 state_here_2 channels_7)) fun told_17 =>
  bnd (ret ([] : List (List (Int × Int)))) fun rows_18 =>
  bnd (ret ([] : List Int)) fun lost_19 =>
  bnd (grd (Rng ((u3.1).2.length : Int)) (ret (span 0 (((u3.1).2.length : Int)).toNat))) fun l68 => forK (fun x20 (s21 : ((List Int) × (List (List (Int × Int))))) kc22 kb23 =>
  bnd (bnd (opt (atI (u3.1).2 x20)) fun x24 => ret x24.2.1) fun target_25 =>
  bnd (ret ([] : List (Int × Int))) fun row_26 =>
  bnd (opt (atI state_here_2.2 x20)) fun l47 => forK (fun x27 (s28 : ((List Int) × (List (Int × Int)))) kc29 kb30 =>
  bnd (sel (decide (x20 ∈ channels_7)) (ret true) (sel (!decide ((x27.2) = target_25)) (bnd (bnd (bnd (opt (atI new_16.2 target_25)) fun x31 => opt (atI x31 (x27.2))) fun x32 => ret (x32.length : Int)) fun x33 => ret (decide (x33 = (0 : Int)))) (ret false))) fun b34 => sel b34
  (appW s28.1 (ret (x27.1)) fun s35 =>
  kc29 (s35, s28.2))
  (appW s28.2 (ret ((x27.1), (x27.2))) fun s36 =>
  kc29 (s28.1, s36))) (fun s28 : ((List Int) × (List (Int × Int))) =>
  appW s21.2 (ret s28.2) fun s37 =>
  bnd (bnd (bnd (bnd (ret s28.2) fun l43 => lcG (fun c38 => (ret true)) (fun c38 => (bnd (bnd (bnd (bnd (opt (atI (u3.1).2 x20)) fun x39 => ret x39.1) fun x40 => opt (atI new_16.2 x40)) fun x41 => opt (atI x41 c38.2)) fun x42 => ret (decide (x20 ∈ x42)))) l43) fun x44 => ret (List.all x44 id)) fun x45 => ret (!x45)) fun b46 => sel b46
  (ret false)
  (kc22 (s28.1, s37))) l47 (s21.1, row_26)) (fun s21 : ((List Int) × (List (List (Int × Int)))) =>
  bnd (bnd (bnd (sortW eI s21.1) fun x48 => ret (new_16, (state_here_2.1, s21.2), x48)) fun x49 => eqWN ((e3 (e2 (e2 eI (eT (e3 eI eI eI))) (eT (eT (eT eI)))) (e2 eI (eT (eT (e2 eI eI)))) (eT eI)) told_17) ((e3 (e2 (e2 eI (eT (e3 eI eI eI))) (eT (eT (eT eI)))) (e2 eI (eT (eT (e2 eI eI)))) (eT eI)) x49)) fun b50 => sel b50
  (ret false)
  (bnd (ret ([] : List (Int × Int))) fun due_51 =>
  bnd (grd (Rng (u3.1).1) (ret (span 0 ((u3.1).1).toNat))) fun l67 => forK (fun x52 (s53 : ((List (Int × Int)))) kc54 kb55 =>
  extW s53 (bnd (grd (Rng (u3.1).1) (ret (span 0 ((u3.1).1).toNat))) fun l65 => lcG (fun c57 => (bnd (bnd (bnd (bnd (opt (atI (u3.2) x52)) fun x58 => opt (atI x58 c57)) fun x59 => ret (x59.length : Int)) fun x60 => ret (decide ((0 : Int) < x60))) fun x64 => sel x64 (bnd (bnd (bnd (opt (atI new_16.2 x52)) fun x61 => opt (atI x61 c57)) fun x62 => ret (x62.length : Int)) fun x63 => ret (decide (x63 = (0 : Int)))) (ret false))) (fun c57 => (ret (x52, c57))) l65) fun s56 =>
  kc54 s56) (fun s53 : ((List (Int × Int))) =>
  bnd (noX (p_cut_off fabric_here_1 channels_7)) fun x66 => eqL (List.map (e2 eI eI) x66) (List.map (e2 eI eI) s53)) l67 due_51)) l68 (lost_19, rows_18)

end Cf
namespace Cf
open PySem L2 WL

def p_placements (fabric : ((Int × (List (Int × Int × Int))) × (List (List (List Int))))) : Wp (List (Int × Int)) :=
  bnd (ret fabric) fun u1 =>
  bnd (ret ([] : List (Int × Int))) fun found_2 =>
  bnd (grd (Rng ((u1.1).2.length : Int)) (ret (span 0 (((u1.1).2.length : Int)).toNat))) fun l14 => forK (fun x3 (s4 : ((List (Int × Int)))) kc5 kb6 =>
  bnd (bnd (opt (atI (u1.1).2 x3)) fun x7 => ret x7.1) fun u_8 =>
  extW s4 (bnd (grd (Rng (u1.1).1) (ret (span 0 ((u1.1).1).toNat))) fun l13 => lcG (fun c10 => (bnd (bnd (opt (atI (u1.2) u_8)) fun x11 => opt (atI x11 c10)) fun x12 => ret (decide (x3 ∈ x12)))) (fun c10 => (ret (x3, c10))) l13) fun s9 =>
  kc5 s9) (fun s4 : ((List (Int × Int))) =>
  ret s4) l14 found_2

def p_options (fabric : ((Int × (List (Int × Int × Int))) × (List (List (List Int))))) (c : Int) (d : Int) : Wp (List Int) :=
  bnd (ret fabric) fun u1 =>
  bnd (bnd (bnd (opt (atI (u1.1).2 c)) fun x2 => ret x2.2.1) fun x3 => opt (atI (u1.2) x3)) fun x4 => opt (atI x4 d)

def p_placed (fabric : ((Int × (List (Int × Int × Int))) × (List (List (List Int))))) (d : Int) : Wp (List Int) :=
  bnd (noX (p_placements fabric)) fun l2 => lcG (fun c1 => (ret (decide ((c1.2) = d)))) (fun c1 => (ret (c1.1))) l2

def p_greatest_lengths (fabric : ((Int × (List (Int × Int × Int))) × (List (List (List Int))))) (d : Int) : Wp (Option (List Int)) :=
  bnd (grd (-(2 ^ 63) ≤ (fabric.1.2.length : Int) ∧ (fabric.1.2.length : Int) < 2 ^ 63 ∧ [(0 : Int)].length * ((fabric.1.2.length : Int)).toNat ≤ 16777216) (ret (repL [(0 : Int)] (fabric.1.2.length : Int)))) fun found_1 =>
  bnd (noX (p_placed fabric d)) fun left_2 =>
  whileW (fun s3 : ((List Int) × (List Int)) => ret (!s3.2.isEmpty)) (fun (s3 : ((List Int) × (List Int))) kc4 kb5 =>
  bnd (bnd (ret s3.2) fun l10 => lcG (fun c6 => (bnd (bnd (noX (p_options fabric c6 d)) fun l8 => lcG (fun c7 => (ret true)) (fun c7 => (ret (!decide (c7 ∈ s3.2)))) l8) fun x9 => ret (List.all x9 id))) (fun c6 => (ret c6)) l10) fun ready_11 =>
  bnd (ret (!(!ready_11.isEmpty))) fun b12 => sel b12
  (ret (none : (Option (List Int))))
  (forK (fun x13 (s14 : ((List Int))) kc15 kb16 =>
  setW s14 (bnd (bnd (bnd (bnd (noX (p_options fabric x13 d)) fun l20 => lcG (fun c19 => (ret true)) (fun c19 => (opt (atI s14 c19))) l20) fun x21 => grd ([(0 : Int)].length + x21.length ≤ 16777216) (ret ([(0 : Int)] ++ x21))) fun x22 => grd (x22 ≠ []) (ret (maxI x22))) fun x23 => ret ((1 : Int) + x23)) (ret x13) fun s24 =>
  kc15 s24) (fun s14 : ((List Int)) =>
  bnd (bnd (ret s3.2) fun l26 => lcG (fun c25 => (ret (!decide (c25 ∈ ready_11)))) (fun c25 => (ret c25)) l26) fun left_27 =>
  kc4 (s14, left_27)) ready_11 s3.1)) (fun s3 : ((List Int) × (List Int)) =>
  ret (some s3.1)) (found_1, left_2)

def p_find_loop (fabric : ((Int × (List (Int × Int × Int))) × (List (List (List Int))))) (d : Int) : Wp (Option (List Int)) :=
  bnd (noX (p_placed fabric d)) fun left_1 =>
  whileW (fun s2 : ((List Int)) => ret true) (fun (s2 : ((List Int))) kc3 kb4 =>
  bnd (bnd (ret s2) fun l9 => lcG (fun c5 => (bnd (bnd (noX (p_options fabric c5 d)) fun l7 => lcG (fun c6 => (ret true)) (fun c6 => (ret (decide (c6 ∈ s2)))) l7) fun x8 => ret (List.any x8 id))) (fun c5 => (ret c5)) l9) fun kept_10 =>
  bnd (ret (decide ((kept_10.length : Int) = (s2.length : Int)))) fun b11 => sel b11
  (kb4 s2)
  (kc3 kept_10)) (fun s2 : ((List Int)) =>
  bnd (ret (!(!s2.isEmpty))) fun b12 => sel b12
  (ret (none : (Option (List Int))))
  (bnd (bnd (opt (atI s2 (0 : Int))) fun x13 => ret [x13]) fun row_14 =>
  whileW (fun s15 : ((List Int)) => ret true) (fun (s15 : ((List Int))) kc16 kb17 =>
  bnd (bnd (bnd (bnd (opt (atI s15 (-(1 : Int)))) fun x18 => noX (p_options fabric x18 d)) fun l20 => lcG (fun c19 => (ret (decide (c19 ∈ s2)))) (fun c19 => (ret c19)) l20) fun x21 => opt (atI x21 (0 : Int))) fun after_22 =>
  bnd (ret (decide (after_22 ∈ s15))) fun b23 => sel b23
  (bnd (bnd (idxW eI s15 after_22) fun x24 => ret (cutA s15 (some x24) none)) fun y => ret (some y))
  (appW s15 (ret after_22) fun s25 =>
  kc16 s25)) (fun s15 : ((List Int)) =>
  cut) row_14)) left_1

def p_is_index (value : PyData) (count : Int) : Wp Bool :=
  sel (PyData.isInt (eD value)) (sel (!(PyData.isBool (eD value))) (bnd (opt (asI value)) fun x1 => sel (decide ((0 : Int) ≤ x1)) (ret (decide (x1 < count))) (ret false)) (ret false)) (ret false)

def p_is_loop (fabric : ((Int × (List (Int × Int × Int))) × (List (List (List Int))))) (d : Int) (value : PyData) : Wp Bool :=
  bnd (sel (!(PyData.isTuple (eD value))) (ret true) (bnd (bnd (bnd (opt (asT value)) fun x1 => ret (x1.length : Int)) fun x2 => ret (decide (x2 = (0 : Int)))) fun x7 => sel x7 (ret true) (bnd (bnd (bnd (opt (asT value)) fun l4 => lcG (fun c3 => (ret true)) (fun c3 => (noX (p_is_index c3 (fabric.1.2.length : Int)))) l4) fun x5 => ret (List.all x5 id)) fun x6 => ret (!x6)))) fun b8 => sel b8
  (ret false)
  (bnd (bnd (bnd (bnd (bnd (opt (asT value)) fun x9 => ret (x9.length : Int)) fun x10 => grd (Rng x10) (ret (span 0 (x10).toNat))) fun l16 => lcG (fun c11 => (ret true)) (fun c11 => (bnd (bnd (opt (asT value)) fun x12 => opt (atI x12 c11)) fun x14 => bnd (bnd (opt (asT value)) fun x13 => ret (cutA x13 none (some c11))) fun x15 => inD (eD x14) (List.map eD x15))) l16) fun x17 => ret (List.any x17 id)) fun b18 => sel b18
  (ret false)
  (bnd (bnd (bnd (bnd (opt (asT value)) fun x19 => ret (x19.length : Int)) fun x20 => grd (Rng x20) (ret (span 0 (x20).toNat))) fun l28 => lcG (fun c21 => (ret true)) (fun c21 => (bnd (bnd (opt (asT value)) fun x22 => opt (atI x22 c21)) fun x26 => bnd (bnd (bnd (bnd (opt (asT value)) fun x23 => opt (atI x23 (c21 - (1 : Int)))) fun x24 => opt (asI x24)) fun x25 => noX (p_options fabric x25 d)) fun x27 => inD (eD x26) (List.map eI x27))) l28) fun x29 => ret (List.all x29 id)))

def p_are_heights (fabric : ((Int × (List (Int × Int × Int))) × (List (List (List Int))))) (d : Int) (value : PyData) : Wp Bool :=
  bnd (sel (!(PyData.isTuple (eD value))) (ret true) (bnd (bnd (opt (asT value)) fun x1 => ret (x1.length : Int)) fun x2 => ret (!decide (x2 = (fabric.1.2.length : Int))))) fun b3 => sel b3
  (ret false)
  (bnd (bnd (bnd (bnd (opt (asT value)) fun l5 => lcG (fun c4 => (ret true)) (fun c4 => (sel (PyData.isInt (eD c4)) (ret (!(PyData.isBool (eD c4)))) (ret false))) l5) fun x6 => ret (List.all x6 id)) fun x7 => ret (!x7)) fun b8 => sel b8
  (ret false)
  (bnd (noX (p_placed fabric d)) fun own_9 =>
  bnd (bnd (opt (asT value)) fun x10 => ret (enumI x10)) fun l28 => forK (fun x11 (s12 : Unit) kc13 kb14 =>
  bnd (bnd (sel (!decide ((x11.1) ∈ own_9)) (eqWN (eD (x11.2)) (eI (0 : Int))) (ret false)) fun x16 => sel x16 (ret true) (sel (decide ((x11.1) ∈ own_9)) (bnd (opt (asI (x11.2))) fun x15 => ret (decide (x15 < (1 : Int)))) (ret false))) fun b17 => sel b17
  (ret false)
  (kc13 ())) (fun s12 : Unit =>
  bnd (bnd (ret own_9) fun l26 => lc2G (fun c18 => (ret true)) (fun c18 => (noX (p_options fabric c18 d))) (fun c18 c19 => (ret true)) (fun c18 c19 => (bnd (bnd (bnd (opt (asT value)) fun x20 => opt (atI x20 c18)) fun x22 => opt (asI x22)) fun x24 => bnd (bnd (bnd (opt (asT value)) fun x21 => opt (atI x21 c19)) fun x23 => opt (asI x23)) fun x25 => ret (decide (x25 < x24)))) l26) fun x27 => ret (List.all x27 id)) l28 ()))

def p_arrives (fabric : ((Int × (List (Int × Int × Int))) × (List (List (List Int))))) : Wp Bool :=
  bnd (bnd (grd (Rng fabric.1.1) (ret (span 0 (fabric.1.1).toNat))) fun l3 => lcG (fun c1 => (ret true)) (fun c1 => (bnd (noX (p_greatest_lengths fabric c1)) fun x2 => ret (Option.isSome x2))) l3) fun x4 => ret (List.all x4 id)

def l_options (fabric_here : ((Int × (List (Int × Int × Int))) × (List (List (List Int))))) (c : Int) (d : Int) : Wp (List Int) :=
  bnd (bnd (bnd (opt (atI fabric_here.1.2 c)) fun x1 => ret x1.2.1) fun x2 => opt (atI fabric_here.2 x2)) fun x3 => opt (atI x3 d)

def l_is_loop (fabric_here : ((Int × (List (Int × Int × Int))) × (List (List (List Int))))) (d : Int) (value : (List Int)) : Wp Bool :=
  bnd (sel (decide ((value.length : Int) = (0 : Int))) (ret true) (bnd (bnd (grd (Rng (value.length : Int)) (ret (span 0 ((value.length : Int)).toNat))) fun l3 => lcG (fun c1 => (ret true)) (fun c1 => (bnd (opt (atI value c1)) fun x2 => ret (decide (x2 ∈ (cutA value none (some c1)))))) l3) fun x4 => ret (List.any x4 id))) fun b5 => sel b5
  (ret false)
  (bnd (bnd (bnd (bnd (ret value) fun l7 => lcG (fun c6 => (ret true)) (fun c6 => (sel (decide ((0 : Int) ≤ c6)) (ret (decide (c6 < (fabric_here.1.2.length : Int)))) (ret false))) l7) fun x8 => ret (List.all x8 id)) fun x9 => ret (!x9)) fun b10 => sel b10
  (ret false)
  (bnd (bnd (grd (Rng (value.length : Int)) (ret (span 0 ((value.length : Int)).toNat))) fun l15 => lcG (fun c11 => (ret true)) (fun c11 => (bnd (opt (atI value c11)) fun x13 => bnd (bnd (opt (atI value (c11 - (1 : Int)))) fun x12 => noX (l_options fabric_here x12 d)) fun x14 => ret (decide (x13 ∈ x14)))) l15) fun x16 => ret (List.all x16 id)))

def l_are_heights (fabric_here : ((Int × (List (Int × Int × Int))) × (List (List (List Int))))) (d : Int) (value : (List Int)) : Wp Bool :=
  bnd (noX (l_placed fabric_here d)) fun own_1 =>
  bnd (ret (!decide ((value.length : Int) = (fabric_here.1.2.length : Int)))) fun b2 => sel b2
  (ret false)
  (bnd (grd (Rng (value.length : Int)) (ret (span 0 ((value.length : Int)).toNat))) fun l17 => forK (fun x3 (s4 : Unit) kc5 kb6 =>
  bnd (bnd (sel (!decide (x3 ∈ own_1)) (bnd (opt (atI value x3)) fun x7 => ret (!decide (x7 = (0 : Int)))) (ret false)) fun x9 => sel x9 (ret true) (sel (decide (x3 ∈ own_1)) (bnd (opt (atI value x3)) fun x8 => ret (decide (x8 < (1 : Int)))) (ret false))) fun b10 => sel b10
  (ret false)
  (bnd (sel (decide (x3 ∈ own_1)) (bnd (bnd (noX (l_options fabric_here x3 d)) fun l14 => lcG (fun c11 => (ret true)) (fun c11 => (bnd (opt (atI value c11)) fun x12 => bnd (opt (atI value x3)) fun x13 => ret (decide (x13 ≤ x12)))) l14) fun x15 => ret (List.any x15 id)) (ret false)) fun b16 => sel b16
  (ret false)
  (kc5 ()))) (fun s4 : Unit =>
  ret true) l17 ())

def l_longest (fabric_here : ((Int × (List (Int × Int × Int))) × (List (List (List Int))))) (d : Int) : Wp (Option (List Int)) :=
  bnd (noX (l_placed fabric_here d)) fun own_1 =>
  bnd (ret ([] : (List (Int × Int)))) fun found_2 =>
  bnd (grd (Rng ((own_1.length : Int) + (1 : Int))) (ret (span 0 (((own_1.length : Int) + (1 : Int))).toNat))) fun l27 => forK (fun x3 (s4 : ((List (Int × Int)))) kc5 kb6 =>
  forK (fun x7 (s8 : ((List (Int × Int)))) kc9 kb10 =>
  bnd (noX (l_options fabric_here x7 d)) fun below_13 =>
  bnd (sel (!Option.isSome (valI s8 x7)) (bnd (bnd (ret below_13) fun l15 => lcG (fun c14 => (ret true)) (fun c14 => (ret (Option.isSome (valI s8 c14)))) l15) fun x16 => ret (List.all x16 id)) (ret false)) fun b17 => sel b17
  (putW s8 (bnd (bnd (bnd (bnd (ret below_13) fun l19 => lcG (fun c18 => (ret true)) (fun c18 => (opt (valI s8 c18))) l19) fun x20 => grd ([(0 : Int)].length + x20.length ≤ 16777216) (ret ([(0 : Int)] ++ x20))) fun x21 => grd (x21 ≠ []) (ret (maxI x21))) fun x22 => ret ((1 : Int) + x22)) (ret x7) fun s23 =>
  kc9 s23)
  (kc9 s8)) (fun s8 : ((List (Int × Int))) =>
  kc5 s8) own_1 s4) (fun s4 : ((List (Int × Int))) =>
  bnd (ret (decide ((s4.length : Int) < (own_1.length : Int)))) fun b24 => sel b24
  (ret (none : (Option (List Int))))
  (bnd (bnd (grd (Rng (fabric_here.1.2.length : Int)) (ret (span 0 ((fabric_here.1.2.length : Int)).toNat))) fun l26 => lcG (fun c25 => (ret true)) (fun c25 => (ret ((valI s4 c25).getD (0 : Int)))) l26) fun y => ret (some y))) l27 found_2

def l_sameB (told : Bool) (due : Bool) : Wp Bool :=
  sel true (ret (decide (told = due))) (ret false)

def l_asked (fabric_here : ((Int × (List (Int × Int × Int))) × (List (List (List Int))))) (d : Int) : Wp Bool :=
  bnd (ret (fabric_here.1.2.length : Int)) fun many_1 =>
  bnd (noX (l_longest fabric_here d)) fun heights_2 =>
  bnd (noX (p_find_loop fabric_here d)) fun loop_3 =>
  bnd (bnd (bnd (noX (p_greatest_lengths fabric_here d)) fun x4 => eqWN ((eO (eT eI)) x4) ((eO (eT eI)) heights_2)) fun x5 => sel x5 (ret true) (ret (!decide ((Option.isNone loop_3) = (Option.isSome heights_2))))) fun b6 => sel b6
  (ret false)
  (bnd (sel (Option.isSome loop_3) (sel (!(PyData.isTuple ((eO (eT eI)) loop_3))) (ret true) (bnd (bnd (bnd (opt loop_3) fun x7 => noX (l_is_loop fabric_here d x7)) fun x8 => ret (!x8)) fun x10 => sel x10 (ret true) (bnd (noX (p_is_loop fabric_here d ((eO (eT eI)) loop_3))) fun x9 => ret (!decide (x9 = true))))) (ret false)) fun b11 => sel b11
  (ret false)
  (bnd (bnd (bnd (bnd (noX (l_take (4 : Int))) fun x12 => ret ((1 : Int) + x12)) fun x13 => grd (Rng x13) (ret (span 0 (x13).toNat))) fun l15 => lcG (fun c14 => (ret true)) (fun c14 => (noX (l_take (many_1 + (1 : Int))))) l15) fun drawn_16 =>
  letK (fun s19 : ((List Int)) =>
  bnd (bnd (bnd (noX (p_is_loop fabric_here d ((eT eI) s19))) fun x35 => bnd (noX (l_is_loop fabric_here d s19)) fun x36 => noX (l_sameB x35 x36)) fun x37 => ret (!x37)) fun b38 => sel b38
  (ret false)
  (bnd (sel (Option.isSome heights_2) (opt heights_2) (bnd (grd (Rng many_1) (ret (span 0 (many_1).toNat))) fun l40 => lcG (fun c39 => (ret true)) (fun c39 => (noX (l_take (6 : Int)))) l40)) fun tall_41 =>
  bnd (noX (l_take many_1)) fun at_42 =>
  bnd (bnd (bnd (bnd (bnd (bnd (noX (l_take (3 : Int))) fun x43 => ret (decide ((0 : Int) < x43))) fun b44 => sel b44 (noX (l_take (9 : Int))) (ret (10000000000000000000000000 : Int))) fun x45 => ret [x45]) fun x46 => grd ((cutA tall_41 none (some at_42)).length + x46.length ≤ 16777216) (ret ((cutA tall_41 none (some at_42)) ++ x46))) fun x47 => grd (x47.length + (cutA tall_41 (some (at_42 + (1 : Int))) none).length ≤ 16777216) (ret (x47 ++ (cutA tall_41 (some (at_42 + (1 : Int))) none)))) fun other_48 =>
  bnd (ret [tall_41, other_48]) fun l74 => forK (fun x49 (s50 : Unit) kc51 kb52 =>
  bnd (bnd (bnd (noX (p_are_heights fabric_here d ((eT eI) x49))) fun x53 => bnd (noX (l_are_heights fabric_here d x49)) fun x54 => noX (l_sameB x53 x54)) fun x55 => ret (!x55)) fun b56 => sel b56
  (ret false)
  (kc51 ())) (fun s50 : Unit =>
  bnd (bnd (bnd (grd (tall_41.length + [(0 : Int)].length ≤ 16777216) (ret (tall_41 ++ [(0 : Int)]))) fun y => ret ((eT eI) y)) fun x60 => bnd (bnd (bnd (grd ((List.map eI (cutA tall_41 none (some at_42))).length + [(eS ("2" : Str))].length ≤ 16777216) (ret ((List.map eI (cutA tall_41 none (some at_42))) ++ [(eS ("2" : Str))]))) fun x57 => grd (x57.length + (List.map eI (cutA tall_41 (some (at_42 + (1 : Int))) none)).length ≤ 16777216) (ret (x57 ++ (List.map eI (cutA tall_41 (some (at_42 + (1 : Int))) none))))) fun y => ret ((eT eD) y)) fun x61 => bnd (bnd (bnd (grd ((List.map eI (cutA tall_41 none (some at_42))).length + [(eB true)].length ≤ 16777216) (ret ((List.map eI (cutA tall_41 none (some at_42))) ++ [(eB true)]))) fun x58 => grd (x58.length + (List.map eI (cutA tall_41 (some (at_42 + (1 : Int))) none)).length ≤ 16777216) (ret (x58 ++ (List.map eI (cutA tall_41 (some (at_42 + (1 : Int))) none))))) fun y => ret ((eT eD) y)) fun x62 => bnd (bnd (bnd (grd ((cutA tall_41 none (some at_42)).length + [(-(1 : Int))].length ≤ 16777216) (ret ((cutA tall_41 none (some at_42)) ++ [(-(1 : Int))]))) fun x59 => grd (x59.length + (cutA tall_41 (some (at_42 + (1 : Int))) none).length ≤ 16777216) (ret (x59 ++ (cutA tall_41 (some (at_42 + (1 : Int))) none)))) fun y => ret ((eT eI) y)) fun x63 => ret [(e0 ()), (eI (7 : Int)), (eS ("loop" : Str)), (eU ()), x60, x61, x62, x63]) fun bad_64 =>
  bnd (bnd (bnd (bnd (noX (l_take (8 : Int))) fun x65 => opt (atI bad_64 x65)) fun x66 => noX (p_are_heights fabric_here d x66)) fun x67 => ret (!decide (x67 = false))) fun b68 => sel b68
  (ret false)
  (bnd (bnd (bnd (grd (s19.length + s19.length ≤ 16777216) (ret (s19 ++ s19))) fun y => ret ((eT eI) y)) fun x69 => ret [(e0 ()), (eI (7 : Int)), (eS ("loop" : Str)), (eU ()), x69, ((e2 eB eB) (true, false)), ((e2 eS eS) (("0" : Str), ("1" : Str))), ((e2 eI eI) ((-(1 : Int)), (-(2 : Int)))), ((e2 eI eI) (many_1, (0 : Int)))]) fun bad_70 =>
  bnd (bnd (bnd (noX (l_take (9 : Int))) fun x71 => opt (atI bad_70 x71)) fun x72 => noX (p_is_loop fabric_here d x72)) fun x73 => ret (decide (x73 = false)))) l74 ())) fun k20 =>
  bnd (sel (Option.isSome loop_3) (bnd (noX (l_take (2 : Int))) fun x17 => ret (decide (x17 = (0 : Int)))) (ret false)) fun b18 => sel b18
  (bnd (bnd (bnd (opt loop_3) fun x21 => ret (x21.length : Int)) fun x22 => noX (l_take x22)) fun at_23 =>
  bnd (bnd (bnd (noX (l_take (2 : Int))) fun x24 => ret (decide (x24 = (0 : Int)))) fun b33 => sel b33 (bnd (bnd (opt loop_3) fun x25 => ret (cutA x25 (some at_23) none)) fun x27 => bnd (bnd (opt loop_3) fun x26 => ret (cutA x26 none (some at_23))) fun x28 => grd (x27.length + x28.length ≤ 16777216) (ret (x27 ++ x28))) (bnd (bnd (opt loop_3) fun x29 => ret (cutA x29 none (some at_23))) fun x31 => bnd (bnd (opt loop_3) fun x30 => ret (cutA x30 (some (at_23 + (1 : Int))) none)) fun x32 => grd (x31.length + x32.length ≤ 16777216) (ret (x31 ++ x32)))) fun drawn_34 =>
  k20 drawn_34)
  (k20 drawn_16)))

def law51 : Wp Bool :=
  bnd (noX (l_fabric)) fun fabric_here_1 =>
  bnd (grd (Rng fabric_here_1.1.1) (ret (span 0 (fabric_here_1.1.1).toNat))) fun l14 => forK (fun x2 (s3 : Unit) kc4 kb5 =>
  bnd (bnd (noX (l_asked fabric_here_1 x2)) fun x6 => ret (!x6)) fun b7 => sel b7
  (ret false)
  (kc4 ())) (fun s3 : Unit =>
  bnd (bnd (bnd (grd (Rng fabric_here_1.1.1) (ret (span 0 (fabric_here_1.1.1).toNat))) fun l10 => lcG (fun c8 => (ret true)) (fun c8 => (bnd (noX (l_longest fabric_here_1 c8)) fun x9 => ret (Option.isSome x9))) l10) fun x11 => ret (List.all x11 id)) fun due_12 =>
  bnd (noX (p_arrives fabric_here_1)) fun x13 => noX (l_sameB x13 due_12)) l14 ()

end Cf
namespace Cf
open PySem L2 WL

def p_is_numberI (value : Int) (least : Int) (most : Int) : Wp Bool :=
  sel true (sel (!false) (sel (decide (least ≤ value)) (ret (decide (value ≤ most))) (ret false)) (ret false)) (ret false)

def p_made (n : Int) (links : (List (Int × Int))) : Wp (Int × (List (Int × Int))) :=
  bnd (bnd (bnd (noX (p_is_numberI n (2 : Int) (64 : Int))) fun x1 => ret (!x1)) fun x2 => sel x2 (ret true) (sel (!(!links.isEmpty)) (ret true) (ret (decide ((400 : Int) < ((2 : Int) * (links.length : Int))))))) fun b3 => sel b3
  (thr (.plain 0))
  (bnd (sortW (e2 eI eI) links) fun x4 => ret (n, x4))

def p_nodes_of (sizes : (List Int)) : Wp Int :=
  bnd (bnd (bnd (sel (decide ((1 : Int) ≤ (sizes.length : Int))) (ret (decide ((sizes.length : Int) ≤ (6 : Int)))) (ret false)) fun x1 => ret (!x1)) fun x6 => sel x6 (ret true) (bnd (bnd (bnd (ret sizes) fun l3 => lcG (fun c2 => (ret true)) (fun c2 => (noX (p_is_numberI c2 (1 : Int) (64 : Int)))) l3) fun x4 => ret (List.all x4 id)) fun x5 => ret (!x5))) fun b7 => sel b7
  (thr (.plain 0))
  (bnd (ret (1 : Int)) fun product_8 =>
  bnd (ret sizes) fun l16 => forK (fun x9 (s10 : (Int)) kc11 kb12 =>
  bnd (grd (CMul s10 x9) (ret (s10 * x9))) fun product_13 =>
  kc11 product_13) (fun s10 : (Int) =>
  bnd (bnd (sel (decide ((2 : Int) ≤ s10)) (ret (decide (s10 ≤ (64 : Int)))) (ret false)) fun x14 => ret (!x14)) fun b15 => sel b15
  (thr (.plain 0))
  (ret s10)) l16 product_8)

def p_node_at (sizes : (List Int)) (place : (List Int)) : Wp Int :=
  bnd (ret (0 : Int)) fun node_1 =>
  bnd (ret (List.zip sizes place)) fun l8 => forK (fun x2 (s3 : (Int)) kc4 kb5 =>
  bnd (bnd (grd (CMul s3 (x2.1)) (ret (s3 * (x2.1)))) fun x6 => ret (x6 + (x2.2))) fun node_7 =>
  kc4 node_7) (fun s3 : (Int) =>
  ret s3) l8 node_1

def p_place_of (sizes : (List Int)) (node : Int) : Wp (List Int) :=
  bnd (ret ([] : List Int)) fun place_1 =>
  bnd (ret (sizes).reverse) fun l8 => forK (fun x2 (s3 : ((List Int) × Int)) kc4 kb5 =>
  appW s3.1 (grd (x2 ≠ 0) (ret (Int.fmod s3.2 x2))) fun s6 =>
  bnd (grd (CDiv s3.2 x2) (ret (s3.2 / x2))) fun node_7 =>
  kc4 (s6, node_7)) (fun s3 : ((List Int) × Int) =>
  ret (s3.1).reverse) l8 (place_1, node)

def p_stepped (place : (List Int)) (at' : Int) (by' : Int) : Wp (List Int) :=
  bnd (bnd (bnd (bnd (opt (atI place at')) fun x1 => ret (x1 + by')) fun x2 => ret [x2]) fun x3 => grd ((cutA place none (some at')).length + x3.length ≤ 16777216) (ret ((cutA place none (some at')) ++ x3))) fun x4 => grd (x4.length + (cutA place (some (at' + (1 : Int))) none).length ≤ 16777216) (ret (x4 ++ (cutA place (some (at' + (1 : Int))) none)))

def p_mesh_links (sizes : (List Int)) (wraps : Bool) : Wp (List (Int × Int)) :=
  bnd (ret ([] : List (Int × Int))) fun links_1 =>
  bnd (bnd (p_nodes_of sizes) fun x2 => grd (Rng x2) (ret (span 0 (x2).toNat))) fun l26 => forK (fun x3 (s4 : ((List (Int × Int)))) kc5 kb6 =>
  bnd (noX (p_place_of sizes x3)) fun place_7 =>
  bnd (ret (enumI sizes)) fun l25 => forK (fun x8 (s9 : ((List (Int × Int)))) kc10 kb11 =>
  letK (fun s15 : ((List (Int × Int))) =>
  bnd (sel wraps (sel (decide ((2 : Int) < (x8.2))) (bnd (opt (atI place_7 (x8.1))) fun x20 => ret (decide (x20 = (0 : Int)))) (ret false)) (ret false)) fun b21 => sel b21
  (appW s15 (bnd (bnd (noX (p_stepped place_7 (x8.1) ((x8.2) - (1 : Int)))) fun x23 => noX (p_node_at sizes x23)) fun x24 => ret (x3, x24)) fun s22 =>
  kc10 s22)
  (kc10 s15)) fun k16 =>
  bnd (bnd (bnd (opt (atI place_7 (x8.1))) fun x12 => ret (x12 + (1 : Int))) fun x13 => ret (decide (x13 < (x8.2)))) fun b14 => sel b14
  (appW s9 (bnd (bnd (noX (p_stepped place_7 (x8.1) (1 : Int))) fun x18 => noX (p_node_at sizes x18)) fun x19 => ret (x3, x19)) fun s17 =>
  k16 s17)
  (k16 s9)) (fun s9 : ((List (Int × Int))) =>
  kc5 s9) l25 s4) (fun s4 : ((List (Int × Int))) =>
  ret s4) l26 links_1

def p_mesh (sizes : (List Int)) : Wp (Int × (List (Int × Int))) :=
  bnd (p_nodes_of sizes) fun x3 => bnd (p_mesh_links sizes false) fun x4 => p_made x3 x4

def p_torus (sizes : (List Int)) : Wp (Int × (List (Int × Int))) :=
  bnd (p_nodes_of sizes) fun x3 => bnd (p_mesh_links sizes true) fun x4 => p_made x3 x4

def l_sizes : Wp (List Int) :=
  bnd (bnd (bnd (noX (l_take (5 : Int))) fun x1 => ret (decide ((0 : Int) < x1))) fun b3 => sel b3 (bnd (noX (l_take (3 : Int))) fun x2 => ret ((1 : Int) + x2)) (noX (l_take (8 : Int)))) fun many_4 =>
  bnd (ret ([] : List Int)) fun sizes_here_5 =>
  bnd (grd (Rng many_4) (ret (span 0 (many_4).toNat))) fun l15 => forK (fun x6 (s7 : ((List Int))) kc8 kb9 =>
  bnd (noX (l_take (24 : Int))) fun draw_10 =>
  appW s7 (sel (decide (draw_10 = (0 : Int))) (bnd (noX (l_take (4 : Int))) fun x12 => opt (atI [(-(1 : Int)), (0 : Int), (64 : Int), (65 : Int)] x12)) (sel (decide (draw_10 < (18 : Int))) (bnd (noX (l_take (4 : Int))) fun x13 => ret ((1 : Int) + x13)) (bnd (noX (l_take (9 : Int))) fun x14 => ret ((1 : Int) + x14)))) fun s11 =>
  kc8 s11) (fun s7 : ((List Int)) =>
  ret s7) l15 sizes_here_5

def l_places (sizes_here : (List Int)) : Wp (List (List Int)) :=
  bnd (ret [([] : (List Int))]) fun found_1 =>
  bnd (ret sizes_here) fun l16 => forK (fun x2 (s3 : ((List (List Int)))) kc4 kb5 =>
  bnd (ret ([] : List (List Int))) fun longer_6 =>
  forK (fun x7 (s8 : ((List (List Int)))) kc9 kb10 =>
  extW s8 (bnd (grd (Rng x2) (ret (span 0 (x2).toNat))) fun l15 => lcG (fun c14 => (ret true)) (fun c14 => (grd (x7.length + [c14].length ≤ 16777216) (ret (x7 ++ [c14])))) l15) fun s13 =>
  kc9 s13) (fun s8 : ((List (List Int))) =>
  kc4 s8) s3 longer_6) (fun s3 : ((List (List Int))) =>
  ret s3) l16 found_1

def l_linked (sizes_here : (List Int)) (one : (List Int)) (other : (List Int)) (wraps : Bool) : Wp Bool :=
  bnd (bnd (grd (Rng (sizes_here.length : Int)) (ret (span 0 ((sizes_here.length : Int)).toNat))) fun l4 => lcG (fun c1 => (bnd (opt (atI one c1)) fun x2 => bnd (opt (atI other c1)) fun x3 => ret (!decide (x2 = x3)))) (fun c1 => (ret c1)) l4) fun apart_5 =>
  bnd (ret (!decide ((apart_5.length : Int) = (1 : Int)))) fun b6 => sel b6
  (ret false)
  (bnd (opt (atI apart_5 (0 : Int))) fun at_7 =>
  bnd (bnd (bnd (opt (atI one at_7)) fun x8 => bnd (opt (atI other at_7)) fun x9 => ret (x8 - x9)) fun x10 => ret (if x10 < 0 then -x10 else x10)) fun far_11 =>
  sel (decide (far_11 = (1 : Int))) (ret true) (sel wraps (bnd (bnd (opt (atI sizes_here at_7)) fun x12 => ret (decide ((2 : Int) < x12))) fun x15 => sel x15 (bnd (bnd (opt (atI sizes_here at_7)) fun x13 => ret (x13 - (1 : Int))) fun x14 => ret (decide (far_11 = x14))) (ret false)) (ret false)))

def l_due (sizes_here : (List Int)) (wraps : Bool) : Wp PyData :=
  bnd (bnd (bnd (sel (decide ((1 : Int) ≤ (sizes_here.length : Int))) (ret (decide ((sizes_here.length : Int) ≤ (6 : Int)))) (ret false)) fun x1 => ret (!x1)) fun x6 => sel x6 (ret true) (bnd (bnd (ret sizes_here) fun l4 => lcG (fun c2 => (ret true)) (fun c2 => (bnd (sel (decide ((1 : Int) ≤ c2)) (ret (decide (c2 ≤ (64 : Int)))) (ret false)) fun x3 => ret (!x3))) l4) fun x5 => ret (List.any x5 id))) fun b7 => sel b7
  (ret ((e1 eS) (("refused" : Str))))
  (bnd (ret (1 : Int)) fun nodes_8 =>
  bnd (ret sizes_here) fun l28 => forK (fun x9 (s10 : (Int)) kc11 kb12 =>
  bnd (grd (CMul s10 x9) (ret (s10 * x9))) fun nodes_13 =>
  kc11 nodes_13) (fun s10 : (Int) =>
  bnd (bnd (sel (decide ((2 : Int) ≤ s10)) (ret (decide (s10 ≤ (64 : Int)))) (ret false)) fun x14 => ret (!x14)) fun b15 => sel b15
  (ret ((e1 eS) (("refused" : Str))))
  (bnd (noX (l_places sizes_here)) fun places_here_16 =>
  bnd (ret ([] : List (Int × Int))) fun links_17 =>
  bnd (grd (Rng s10) (ret (span 0 (s10).toNat))) fun l27 => forK (fun x18 (s19 : ((List (Int × Int)))) kc20 kb21 =>
  extW s19 (bnd (grd (Rng (x18 + (1 : Int)) ∧ Rng s10) (ret (span (x18 + (1 : Int)) (s10 - (x18 + (1 : Int))).toNat))) fun l26 => lcG (fun c23 => (bnd (opt (atI places_here_16 x18)) fun x24 => bnd (opt (atI places_here_16 c23)) fun x25 => noX (l_linked sizes_here x24 x25 wraps))) (fun c23 => (ret (x18, c23))) l26) fun s22 =>
  kc20 s22) (fun s19 : ((List (Int × Int))) =>
  sel (decide ((s19.length : Int) ≤ (200 : Int))) (ret ((e2 eI (eT (e2 eI eI))) (s10, s19))) (ret ((e1 eS) (("refused" : Str))))) l27 links_17)) l28 nodes_8)

def l_mesh (sizes_here : (List Int)) : Wp PyData :=
  tryRet (ret (sizes_here, ())) (fun x => p_mesh x.1) (fun r => (e2 eI (eT (e2 eI eI))) r) (ret ((e1 eS) (("refused" : Str))))

def l_torus (sizes_here : (List Int)) : Wp PyData :=
  tryRet (ret (sizes_here, ())) (fun x => p_torus x.1) (fun r => (e2 eI (eT (e2 eI eI))) r) (ret ((e1 eS) (("refused" : Str))))

def law21 : Wp Bool :=
  bnd (noX (l_sizes)) fun sizes_here_1 =>
  bnd (noX (l_due sizes_here_1 false)) fun due_here_2 =>
  bnd (bnd (bnd (noX (l_mesh sizes_here_1)) fun x3 => eqWN (eD x3) (eD due_here_2)) fun x6 => sel x6 (ret true) (bnd (noX (l_torus sizes_here_1)) fun x4 => bnd (noX (l_due sizes_here_1 true)) fun x5 => eqWN (eD x4) (eD x5))) fun b7 => sel b7
  (ret false)
  (bnd (eqW (eD due_here_2) ((e1 eS) (("refused" : Str)))) fun b8 => sel b8
  (ret true)
  (bnd (noX (l_places sizes_here_1)) fun places_here_9 =>
  bnd (bnd (bnd (bnd (opt (asT due_here_2)) fun x10 => opt (atI x10 (0 : Int))) fun x11 => opt (asI x11)) fun x12 => grd (Rng x12) (ret (span 0 (x12).toNat))) fun l23 => forK (fun x13 (s14 : Unit) kc15 kb16 =>
  bnd (bnd (bnd (noX (p_place_of sizes_here_1 x13)) fun x17 => bnd (opt (atI places_here_9 x13)) fun x18 => eqWN ((eT eI) x17) ((eT eI) x18)) fun x21 => sel x21 (ret true) (bnd (bnd (opt (atI places_here_9 x13)) fun x19 => noX (p_node_at sizes_here_1 x19)) fun x20 => ret (!decide (x20 = x13)))) fun b22 => sel b22
  (ret false)
  (kc15 ())) (fun s14 : Unit =>
  ret true) l23 ()))

end Cf
namespace Cf
open PySem L2 WL

def p_is_numberD (value : PyData) (least : Int) (most : Int) : Wp Bool :=
  sel (PyData.isInt (eD value)) (sel (!(PyData.isBool (eD value))) (bnd (opt (asI value)) fun x1 => sel (decide (least ≤ x1)) (ret (decide (x1 ≤ most))) (ret false)) (ret false)) (ret false)

def p_is_link (value : PyData) (n : Int) : Wp Bool :=
  bnd (sel (!(PyData.isTuple (eD value))) (ret true) (bnd (bnd (opt (asT value)) fun x1 => ret (x1.length : Int)) fun x2 => ret (!decide (x2 = (2 : Int))))) fun b3 => sel b3
  (ret false)
  (bnd (bnd (bnd (opt (asT value)) fun l5 => lcG (fun c4 => (ret true)) (fun c4 => (noX (p_is_numberD c4 (0 : Int) (n - (1 : Int))))) l5) fun x6 => ret (List.all x6 id)) fun x13 => sel x13 (bnd (bnd (bnd (opt (asT value)) fun x7 => opt (atI x7 (0 : Int))) fun x9 => opt (asI x9)) fun x11 => bnd (bnd (bnd (opt (asT value)) fun x8 => opt (atI x8 (1 : Int))) fun x10 => opt (asI x10)) fun x12 => ret (decide (x11 < x12))) (ret false))

def p_is_frame (value : PyData) : Wp Bool :=
  bnd (sel (!(PyData.isTuple (eD value))) (ret true) (bnd (bnd (bnd (opt (asT value)) fun x1 => ret (x1.length : Int)) fun x2 => ret (!decide (x2 = (2 : Int)))) fun x6 => sel x6 (ret true) (bnd (bnd (bnd (opt (asT value)) fun x3 => opt (atI x3 (0 : Int))) fun x4 => noX (p_is_numberD x4 (2 : Int) (64 : Int))) fun x5 => ret (!x5)))) fun b7 => sel b7
  (ret false)
  (bnd (bnd (opt (asT value)) fun x8 => opt (atI x8 (1 : Int))) fun links_9 =>
  bnd (sel (!(PyData.isTuple (eD links_9))) (ret true) (bnd (bnd (bnd (opt (asT links_9)) fun x10 => ret (x10.length : Int)) fun x11 => ret (decide (x11 = (0 : Int)))) fun x19 => sel x19 (ret true) (bnd (bnd (bnd (opt (asT links_9)) fun l16 => lcG (fun c12 => (ret true)) (fun c12 => (bnd (bnd (bnd (opt (asT value)) fun x13 => opt (atI x13 (0 : Int))) fun x14 => opt (asI x14)) fun x15 => noX (p_is_link c12 x15))) l16) fun x17 => ret (List.all x17 id)) fun x18 => ret (!x18)))) fun b20 => sel b20
  (ret false)
  (bnd (bnd (bnd (bnd (bnd (opt (asT links_9)) fun x21 => ret (x21.length : Int)) fun x22 => ret (x22 - (1 : Int))) fun x23 => grd (Rng x23) (ret (span 0 (x23).toNat))) fun l31 => lcG (fun c24 => (ret true)) (fun c24 => (bnd (bnd (bnd (opt (asT links_9)) fun x25 => opt (atI x25 c24)) fun x27 => opt ((asQ2 asI asI) x27)) fun x29 => bnd (bnd (bnd (opt (asT links_9)) fun x26 => opt (atI x26 (c24 + (1 : Int)))) fun x28 => opt ((asQ2 asI asI) x28)) fun x30 => ltW ((e2 eI eI) x29) ((e2 eI eI) x30))) l31) fun x32 => ret (List.all x32 id)))

def p_line (n : Int) : Wp (Int × (List (Int × Int))) :=
  bnd (bnd (noX (p_is_numberI n (2 : Int) (64 : Int))) fun x1 => ret (!x1)) fun b2 => sel b2
  (thr (.plain 0))
  (bnd (bnd (grd (Rng (n - (1 : Int))) (ret (span 0 ((n - (1 : Int))).toNat))) fun l4 => lcG (fun c3 => (ret true)) (fun c3 => (ret (c3, (c3 + (1 : Int))))) l4) fun x6 => p_made n x6)

def p_ring (n : Int) : Wp (Int × (List (Int × Int))) :=
  bnd (bnd (noX (p_is_numberI n (3 : Int) (64 : Int))) fun x1 => ret (!x1)) fun b2 => sel b2
  (thr (.plain 0))
  (bnd (bnd (bnd (grd (Rng (n - (1 : Int))) (ret (span 0 ((n - (1 : Int))).toNat))) fun l4 => lcG (fun c3 => (ret true)) (fun c3 => (ret (c3, (c3 + (1 : Int))))) l4) fun x5 => grd (x5.length + [((0 : Int), (n - (1 : Int)))].length ≤ 16777216) (ret (x5 ++ [((0 : Int), (n - (1 : Int)))]))) fun x7 => p_made n x7)

def p_complete (n : Int) : Wp (Int × (List (Int × Int))) :=
  bnd (bnd (noX (p_is_numberI n (2 : Int) (64 : Int))) fun x1 => ret (!x1)) fun b2 => sel b2
  (thr (.plain 0))
  (bnd (bnd (grd (Rng n) (ret (span 0 (n).toNat))) fun l5 => lc2G (fun c3 => (ret true)) (fun c3 => (grd (Rng (c3 + (1 : Int)) ∧ Rng n) (ret (span (c3 + (1 : Int)) (n - (c3 + (1 : Int))).toNat)))) (fun c3 c4 => (ret true)) (fun c3 c4 => (ret (c3, c4))) l5) fun x7 => p_made n x7)

def p_star (n : Int) : Wp (Int × (List (Int × Int))) :=
  bnd (bnd (noX (p_is_numberI n (2 : Int) (64 : Int))) fun x1 => ret (!x1)) fun b2 => sel b2
  (thr (.plain 0))
  (bnd (bnd (grd (Rng (1 : Int) ∧ Rng n) (ret (span (1 : Int) (n - (1 : Int)).toNat))) fun l4 => lcG (fun c3 => (ret true)) (fun c3 => (ret ((0 : Int), c3))) l4) fun x6 => p_made n x6)

def p_tree (parents : (List Int)) : Wp (Int × (List (Int × Int))) :=
  bnd (bnd (sel (decide ((1 : Int) ≤ (parents.length : Int))) (ret (decide ((parents.length : Int) < (64 : Int)))) (ret false)) fun x1 => ret (!x1)) fun b2 => sel b2
  (thr (.plain 0))
  (bnd (ret (enumI parents)) fun l13 => forK (fun x3 (s4 : Unit) kc5 kb6 =>
  bnd (bnd (noX (p_is_numberI (x3.2) (0 : Int) (x3.1))) fun x7 => ret (!x7)) fun b8 => sel b8
  (thr (.plain 0))
  (kc5 ())) (fun s4 : Unit =>
  bnd (bnd (ret (enumI parents)) fun l10 => lcG (fun c9 => (ret true)) (fun c9 => (ret ((c9.2), ((c9.1) + (1 : Int))))) l10) fun x12 => p_made ((parents.length : Int) + (1 : Int)) x12) l13 ())

def p_groups (count : Int) (size : Int) : Wp (Int × (List (Int × Int))) :=
  bnd (bnd (bnd (noX (p_is_numberI count (2 : Int) (64 : Int))) fun x1 => ret (!x1)) fun x5 => sel x5 (ret true) (bnd (bnd (noX (p_is_numberI size (1 : Int) (64 : Int))) fun x2 => ret (!x2)) fun x4 => sel x4 (ret true) (bnd (grd (CMul count size) (ret (count * size))) fun x3 => ret (decide ((64 : Int) < x3))))) fun b6 => sel b6
  (thr (.plain 0))
  (bnd (ret ([] : List (Int × Int))) fun links_7 =>
  bnd (grd (Rng count) (ret (span 0 (count).toNat))) fun l34 => forK (fun x8 (s9 : ((List (Int × Int)))) kc10 kb11 =>
  bnd (bnd (grd (CMul x8 size) (ret (x8 * size))) fun x30 => bnd (bnd (grd (CMul x8 size) (ret (x8 * size))) fun x12 => ret (x12 + size)) fun x31 => grd (Rng x30 ∧ Rng x31) (ret (x30, x31))) fun n13 =>
  extW s9 (bnd (ret (span n13.1 (n13.2 - n13.1).toNat)) fun l17 => lc2G (fun c15 => (ret true)) (fun c15 => (ret (span n13.1 (n13.2 - n13.1).toNat))) (fun c15 c16 => (ret (decide (c15 < c16)))) (fun c15 c16 => (ret (c15, c16))) l17) fun s14 =>
  bnd (grd (Rng x8) (ret (span 0 (x8).toNat))) fun l29 => forK (fun x18 (s19 : ((List (Int × Int)))) kc20 kb21 =>
  appW s19 (bnd (bnd (grd (CMul x18 size) (ret (x18 * size))) fun x23 => bnd (grd (size ≠ 0) (ret (Int.fmod (x8 - (1 : Int)) size))) fun x24 => ret (x23 + x24)) fun x27 => bnd (bnd (grd (CMul x8 size) (ret (x8 * size))) fun x25 => bnd (grd (size ≠ 0) (ret (Int.fmod x18 size))) fun x26 => ret (x25 + x26)) fun x28 => ret (x27, x28)) fun s22 =>
  kc20 s22) (fun s19 : ((List (Int × Int))) =>
  kc10 s19) l29 s14) (fun s9 : ((List (Int × Int))) =>
  bnd (grd (CMul count size) (ret (count * size))) fun x33 => p_made x33 s9) l34 links_7)

def l_told (word : Str) (first : PyData) (second : Int) : Wp PyData :=
  tryW (bnd (ret (decide (word = ("line" : Str)))) fun b1 => sel b1
  (bnd (bnd (opt (asI first)) fun x3 => p_line x3) fun y => ret ((e2 eI (eT (e2 eI eI))) y))
  (bnd (ret (decide (word = ("ring" : Str)))) fun b4 => sel b4
  (bnd (bnd (opt (asI first)) fun x6 => p_ring x6) fun y => ret ((e2 eI (eT (e2 eI eI))) y))
  (bnd (ret (decide (word = ("complete" : Str)))) fun b7 => sel b7
  (bnd (bnd (opt (asI first)) fun x9 => p_complete x9) fun y => ret ((e2 eI (eT (e2 eI eI))) y))
  (bnd (ret (decide (word = ("star" : Str)))) fun b10 => sel b10
  (bnd (bnd (opt (asI first)) fun x12 => p_star x12) fun y => ret ((e2 eI (eT (e2 eI eI))) y))
  (bnd (ret (decide (word = ("tree" : Str)))) fun b13 => sel b13
  (bnd (bnd (opt ((asAll asI) first)) fun x15 => p_tree x15) fun y => ret ((e2 eI (eT (e2 eI eI))) y))
  (bnd (bnd (opt (asI first)) fun x17 => p_groups x17 second) fun y => ret ((e2 eI (eT (e2 eI eI))) y))))))) (ret ((e2 eS eB) (("refused" : Str), true)))

def l_group_links (count : Int) (size : Int) : Wp (List (Int × Int)) :=
  bnd (ret ([] : List (Int × Int))) fun links_1 =>
  bnd (bnd (grd (CMul count size) (ret (count * size))) fun x2 => grd (Rng x2) (ret (span 0 (x2).toNat))) fun l26 => forK (fun x3 (s4 : ((List (Int × Int)))) kc5 kb6 =>
  bnd (bnd (grd (CMul count size) (ret (count * size))) fun x7 => grd (Rng (x3 + (1 : Int)) ∧ Rng x7) (ret (span (x3 + (1 : Int)) (x7 - (x3 + (1 : Int))).toNat))) fun l25 => forK (fun x8 (s9 : ((List (Int × Int)))) kc10 kb11 =>
  bnd (grd (CDivN x3 size) (ret (Int.fdiv x3 size))) fun h_12 =>
  bnd (grd (CDivN x8 size) (ret (Int.fdiv x8 size))) fun i_13 =>
  bnd (ret (decide (h_12 = i_13))) fun inside_14 =>
  bnd (sel (decide (h_12 < i_13)) (bnd (bnd (bnd (grd (CMul h_12 size) (ret (h_12 * size))) fun x15 => ret (x3 - x15)) fun x16 => bnd (grd (size ≠ 0) (ret (Int.fmod (i_13 - (1 : Int)) size))) fun x17 => ret (decide (x16 = x17))) fun x21 => sel x21 (bnd (bnd (grd (CMul i_13 size) (ret (i_13 * size))) fun x18 => ret (x8 - x18)) fun x19 => bnd (grd (size ≠ 0) (ret (Int.fmod h_12 size))) fun x20 => ret (decide (x19 = x20))) (ret false)) (ret false)) fun between_22 =>
  bnd (sel inside_14 (ret true) (ret between_22)) fun b23 => sel b23
  (appW s9 (ret (x3, x8)) fun s24 =>
  kc10 s24)
  (kc10 s9)) (fun s9 : ((List (Int × Int))) =>
  kc5 s9) l25 s4) (fun s4 : ((List (Int × Int))) =>
  ret s4) l26 links_1

def l_due20 (word : Str) (first : PyData) (second : Int) : Wp PyData :=
  bnd (ret (("refused" : Str), true)) fun refused_1 =>
  bnd (ret (decide (word = ("tree" : Str)))) fun b2 => sel b2
  (bnd (bnd (bnd (bnd (bnd (opt (asT first)) fun x3 => ret (x3.length : Int)) fun x4 => sel (decide ((1 : Int) ≤ x4)) (ret (decide (x4 ≤ (63 : Int)))) (ret false)) fun x5 => ret (!x5)) fun x15 => sel x15 (ret true) (bnd (bnd (bnd (bnd (opt (asT first)) fun x6 => ret (x6.length : Int)) fun x7 => grd (Rng x7) (ret (span 0 (x7).toNat))) fun l13 => lcG (fun c8 => (ret true)) (fun c8 => (bnd (bnd (bnd (bnd (opt (asT first)) fun x9 => opt (atI x9 c8)) fun x10 => opt (asI x10)) fun x11 => sel (decide ((0 : Int) ≤ x11)) (ret (decide (x11 ≤ c8))) (ret false)) fun x12 => ret (!x12))) l13) fun x14 => ret (List.any x14 id))) fun b16 => sel b16
  (ret ((e2 eS eB) refused_1))
  (bnd (bnd (bnd (bnd (opt (asT first)) fun x17 => ret (x17.length : Int)) fun x18 => ret (x18 + (1 : Int))) fun x27 => bnd (bnd (bnd (bnd (bnd (opt (asT first)) fun x19 => ret (x19.length : Int)) fun x20 => grd (Rng x20) (ret (span 0 (x20).toNat))) fun l25 => lcG (fun c21 => (ret true)) (fun c21 => (bnd (bnd (bnd (opt (asT first)) fun x22 => opt (atI x22 c21)) fun x23 => opt (asI x23)) fun x24 => ret (x24, (c21 + (1 : Int))))) l25) fun x26 => sortW (e2 eI eI) x26) fun x28 => ret (x27, x28)) fun y => ret ((e2 eI (eT (e2 eI eI))) y)))
  (bnd (ret (decide (word = ("groups" : Str)))) fun b29 => sel b29
  (bnd (bnd (bnd (opt (asI first)) fun x30 => ret (decide (x30 < (2 : Int)))) fun x33 => sel x33 (ret true) (sel (decide (second < (1 : Int))) (ret true) (bnd (bnd (opt (asI first)) fun x31 => grd (CMul x31 second) (ret (x31 * second))) fun x32 => ret (decide ((64 : Int) < x32))))) fun b34 => sel b34
  (ret ((e2 eS eB) refused_1))
  (bnd (bnd (opt (asI first)) fun x35 => noX (l_group_links x35 second)) fun links_36 =>
  sel (decide ((links_36.length : Int) ≤ (200 : Int))) (bnd (bnd (bnd (opt (asI first)) fun x37 => grd (CMul x37 second) (ret (x37 * second))) fun x38 => ret (x38, links_36)) fun y => ret ((e2 eI (eT (e2 eI eI))) y)) (ret ((e2 eS eB) refused_1))))
  (bnd (bnd (bnd (opt (asI first)) fun x39 => bnd (sel (decide (word = ("ring" : Str))) (ret (3 : Int)) (ret (2 : Int))) fun x40 => ret (decide (x39 < x40))) fun x42 => sel x42 (ret true) (bnd (opt (asI first)) fun x41 => ret (decide ((64 : Int) < x41)))) fun b43 => sel b43
  (ret ((e2 eS eB) refused_1))
  (bnd (ret ([] : List (Int × Int))) fun links_44 =>
  bnd (bnd (opt (asI first)) fun x45 => grd (Rng x45) (ret (span 0 (x45).toNat))) fun l65 => forK (fun x46 (s47 : ((List (Int × Int)))) kc48 kb49 =>
  bnd (bnd (opt (asI first)) fun x50 => grd (Rng (x46 + (1 : Int)) ∧ Rng x50) (ret (span (x46 + (1 : Int)) (x50 - (x46 + (1 : Int))).toNat))) fun l64 => forK (fun x51 (s52 : ((List (Int × Int)))) kc53 kb54 =>
  bnd (ret (decide (x51 = (x46 + (1 : Int))))) fun near_55 =>
  bnd (sel (decide (word = ("complete" : Str))) (ret true) (bnd (sel (decide (word = ("star" : Str))) (ret (decide (x46 = (0 : Int)))) (ret false)) fun x61 => sel x61 (ret true) (bnd (bnd (inD (eS word) (List.map eS [("line" : Str), ("ring" : Str)])) fun x56 => sel x56 (ret near_55) (ret false)) fun x60 => sel x60 (ret true) (sel (decide (word = ("ring" : Str))) (bnd (bnd (bnd (opt (asI first)) fun x57 => ret (x57 - (1 : Int))) fun x58 => ret ((0 : Int), x58)) fun x59 => eqW ((e2 eI eI) (x46, x51)) ((e2 eI eI) x59)) (ret false))))) fun b62 => sel b62
  (appW s52 (ret (x46, x51)) fun s63 =>
  kc53 s63)
  (kc53 s52)) (fun s52 : ((List (Int × Int))) =>
  kc48 s52) l64 s47) (fun s47 : ((List (Int × Int))) =>
  sel (decide ((s47.length : Int) ≤ (200 : Int))) (ret ((e2 eD (eT (e2 eI eI))) (first, s47))) (ret ((e2 eS eB) refused_1))) l65 links_44)))

def l_parents : Wp (List Int) :=
  bnd (ret ([] : List Int)) fun parents_here_1 =>
  bnd (bnd (bnd (bnd (noX (l_take (9 : Int))) fun x2 => bnd (noX (l_take (70 : Int))) fun x3 => ret [x2, x3]) fun x6 => bnd (bnd (bnd (noX (l_take (6 : Int))) fun x4 => ret (decide (x4 = (0 : Int)))) fun x5 => ret (if x5 then 1 else 0 : Int)) fun x7 => opt (atI x6 x7)) fun x8 => grd (Rng x8) (ret (span 0 (x8).toNat))) fun l17 => forK (fun x9 (s10 : ((List Int))) kc11 kb12 =>
  appW s10 (bnd (bnd (noX (l_take (40 : Int))) fun x14 => ret (decide ((0 : Int) < x14))) fun b16 => sel b16 (noX (l_take (x9 + (1 : Int)))) (bnd (noX (l_take (3 : Int))) fun x15 => opt (atI [(-(1 : Int)), (x9 + (1 : Int)), (99 : Int)] x15))) fun s13 =>
  kc11 s13) (fun s10 : ((List Int)) =>
  ret s10) l17 parents_here_1

def l_bad (frame : (Int × (List (Int × Int)))) : Wp PyData :=
  bnd (ret frame) fun u1 =>
  bnd (noX (l_take (30 : Int))) fun k_2 =>
  bnd (bnd (bnd (bnd (opt (atI (u1.2) (0 : Int))) fun x8 => ret ((u1.1), x8)) fun y => ret ((e2 eI (e2 eI eI)) y)) fun x13 => bnd (bnd (bnd (grd ((u1.2).length + [((0 : Int), (u1.1))].length ≤ 16777216) (ret ((u1.2) ++ [((0 : Int), (u1.1))]))) fun x9 => ret ((u1.1), x9)) fun y => ret ((e2 eI (eT (e2 eI eI))) y)) fun x14 => bnd (bnd (bnd (grd ((u1.2).length + (cutA (u1.2) (some (-(1 : Int))) none).length ≤ 16777216) (ret ((u1.2) ++ (cutA (u1.2) (some (-(1 : Int))) none)))) fun x10 => ret ((u1.1), x10)) fun y => ret ((e2 eI (eT (e2 eI eI))) y)) fun x15 => bnd (bnd (bnd (grd ((u1.2).length + [((0 : Int), (0 : Int))].length ≤ 16777216) (ret ((u1.2) ++ [((0 : Int), (0 : Int))]))) fun x11 => ret ((u1.1), x11)) fun y => ret ((e2 eI (eT (e2 eI eI))) y)) fun x16 => bnd (bnd (bnd (grd ((u1.2).length + [(((u1.1) - (1 : Int)), ((u1.1) - (1 : Int)))].length ≤ 16777216) (ret ((u1.2) ++ [(((u1.1) - (1 : Int)), ((u1.1) - (1 : Int)))]))) fun x12 => ret ((u1.1), x12)) fun y => ret ((e2 eI (eT (e2 eI eI))) y)) fun x17 => ret [((e1 eI) ((u1.1))), ((e3 eI (eT (e2 eI eI)) eI) ((u1.1), (u1.2), (0 : Int))), ((e2 eI e0) ((u1.1), ())), ((e2 eI (eT (e2 eI eI))) ((1 : Int), (u1.2))), ((e2 eI (eT (e2 eI eI))) ((65 : Int), (u1.2))), x13, x14, x15, ((e2 eI (e1 (e2 eI eI))) ((u1.1), (((1 : Int), (0 : Int))))), x16, ((e2 eI (e1 (e2 eI eI))) ((u1.1), (((-(1 : Int)), (1 : Int))))), x17, ((e2 eB (eT (e2 eI eI))) (true, (u1.2))), ((e2 eI (e1 (e3 eI eI eI))) ((u1.1), (((0 : Int), (1 : Int), (2 : Int))))), ((e2 eI (e1 eS)) ((u1.1), (("ab" : Str)))), (eS ("frame" : Str)), (eI k_2), (e0 ()), ((e2 eI (e2 eI eI)) ((u1.1), ((0 : Int), (1 : Int)))), ((e2 eS (eT (e2 eI eI))) (("2" : Str), (u1.2))), ((e2 eI (e1 (e2 eI eB))) ((u1.1), (((0 : Int), true))))]) fun x18 => bnd (noX (l_take (21 : Int))) fun x19 => opt (atI x18 x19)

def law20 : Wp Bool :=
  bnd (grd (Rng (4 : Int)) (ret (span 0 ((4 : Int)).toNat))) fun l52 => forK (fun x1 (s2 : Unit) kc3 kb4 =>
  bnd (bnd (noX (l_take (6 : Int))) fun x5 => opt (atI [("line" : Str), ("ring" : Str), ("complete" : Str), ("star" : Str), ("tree" : Str), ("groups" : Str)] x5)) fun word_6 =>
  bnd (sel (decide (word_6 = ("tree" : Str))) (bnd (noX (l_parents)) fun y => ret ((eT eI) y)) (bnd (bnd (noX (l_take (2 : Int))) fun x7 => ret (decide (x7 = (0 : Int)))) fun b9 => sel b9 (bnd (noX (l_take (9 : Int))) fun y => ret (eI y)) (bnd (bnd (noX (l_take (72 : Int))) fun x8 => ret (x8 - (1 : Int))) fun y => ret (eI y)))) fun first_10 =>
  bnd (bnd (bnd (noX (l_take (3 : Int))) fun x11 => ret (decide ((0 : Int) < x11))) fun b13 => sel b13 (bnd (noX (l_take (7 : Int))) fun x12 => ret (x12 - (1 : Int))) (noX (l_take (70 : Int)))) fun second_14 =>
  bnd (noX (l_told word_6 first_10 second_14)) fun told_here_15 =>
  bnd (bnd (noX (l_due20 word_6 first_10 second_14)) fun x16 => eqWN (eD told_here_15) (eD x16)) fun b17 => sel b17
  (ret false)
  (bnd (bnd (bnd (bnd (opt (asT told_here_15)) fun x18 => opt (atI x18 (0 : Int))) fun x19 => eqWN (eD x19) (eS ("refused" : Str))) fun x25 => sel x25 (bnd (bnd (noX (p_is_frame told_here_15)) fun x20 => ret (!decide (x20 = true))) fun x24 => sel x24 (ret true) (bnd (bnd (bnd (opt ((asQ2 asI (asAll (asQ2 asI asI))) told_here_15)) fun x21 => noX (l_bad x21)) fun x22 => noX (p_is_frame x22)) fun x23 => ret (!decide (x23 = false)))) (ret false)) fun b26 => sel b26
  (ret false)
  (kc3 ()))) (fun s2 : Unit =>
  bnd (bnd (noX (l_take (9 : Int))) fun x27 => ret ((2 : Int) + x27)) fun n_28 =>
  bnd (ret ([] : List (Int × Int))) fun links_29 =>
  bnd (grd (Rng n_28) (ret (span 0 (n_28).toNat))) fun l51 => forK (fun x30 (s31 : ((List (Int × Int)))) kc32 kb33 =>
  bnd (grd (Rng (x30 + (1 : Int)) ∧ Rng n_28) (ret (span (x30 + (1 : Int)) (n_28 - (x30 + (1 : Int))).toNat))) fun l41 => forK (fun x34 (s35 : ((List (Int × Int)))) kc36 kb37 =>
  bnd (bnd (noX (l_take (3 : Int))) fun x38 => ret (decide (x38 = (0 : Int)))) fun b39 => sel b39
  (appW s35 (ret (x30, x34)) fun s40 =>
  kc36 s40)
  (kc36 s35)) (fun s35 : ((List (Int × Int))) =>
  kc32 s35) l41 s31) (fun s31 : ((List (Int × Int))) =>
  bnd (ret (decide ((s31.length : Int) = (0 : Int)))) fun b42 => sel b42
  (bnd (noX (p_is_frame ((e2 eI e0) (n_28, ())))) fun x43 => ret (decide (x43 = false)))
  (bnd (sel (decide ((1 : Int) < (s31.length : Int))) (bnd (noX (p_is_frame ((e2 eI (eT (e2 eI eI))) (n_28, (List.reverse s31))))) fun x44 => ret (!decide (x44 = false))) (ret false)) fun b45 => sel b45
  (ret false)
  (bnd (bnd (noX (p_is_frame ((e2 eI (eT (e2 eI eI))) (n_28, s31)))) fun x46 => ret (decide (x46 = true))) fun x50 => sel x50 (bnd (bnd (bnd (noX (l_bad (n_28, s31))) fun x47 => noX (p_is_frame x47)) fun x48 => ret (decide (x48 = false))) fun x49 => sel x49 (ret (decide ((8 : Int) = (8 : Int)))) (ret false)) (ret false)))) l51 links_29) l52 ()

end Cf
namespace Cf
open PySem PySem.Spec PyProof.Rows L2 WL
def topS (i : Nat) : Stmt := PySem.Challenge.pw_calmfabric_k20_frames.main.body.getD i (.Pass ⟨0, 0, 0, 0⟩)
abbrev s_p_is_numberD : Stmt := topS 7
abbrev s_p_is_link : Stmt := topS 8
abbrev s_p_is_frame : Stmt := topS 9
abbrev s_p_made : Stmt := topS 10
abbrev s_p_line : Stmt := topS 11
abbrev s_p_ring : Stmt := topS 12
abbrev s_p_complete : Stmt := topS 13
abbrev s_p_star : Stmt := topS 14
abbrev s_p_tree : Stmt := topS 15
abbrev s_p_groups : Stmt := topS 16
abbrev s_l_mix : Stmt := topS 18
abbrev s_l_tape : Stmt := topS 19
abbrev s_l_take : Stmt := topS 20
abbrev s_l_told : Stmt := topS 21
abbrev s_l_group_links : Stmt := topS 22
abbrev s_l_due20 : Stmt := topS 23
abbrev s_l_parents : Stmt := topS 24
abbrev s_l_bad : Stmt := topS 25
abbrev s_law20 : Stmt := topS 26
abbrev nn_p_is_numberD : List Str := ["value", "least", "most"]
theorem sc_p_is_numberD : FnScope ["value", "least", "most"] ["value", "least", "most"] (defScope s_p_is_numberD) := ⟨rfl, rfl, rfl, by decide +kernel, rfl, by decide +kernel, by decide +kernel⟩
abbrev nn_p_is_link : List Str := ["value", "n", "node"]
theorem sc_p_is_link : FnScope ["value", "n", "node"] ["value", "n"] (defScope s_p_is_link) := ⟨rfl, rfl, rfl, by decide +kernel, rfl, by decide +kernel, by decide +kernel⟩
abbrev nn_p_is_frame : List Str := ["value", "links", "link", "at"]
theorem sc_p_is_frame : FnScope ["value", "links", "link", "at"] ["value"] (defScope s_p_is_frame) := ⟨rfl, rfl, rfl, by decide +kernel, rfl, by decide +kernel, by decide +kernel⟩
abbrev nn_p_made : List Str := ["n", "links"]
theorem sc_p_made : FnScope ["n", "links"] ["n", "links"] (defScope s_p_made) := ⟨rfl, rfl, rfl, by decide +kernel, rfl, by decide +kernel, by decide +kernel⟩
abbrev nn_p_line : List Str := ["n", "node"]
theorem sc_p_line : FnScope ["n", "node"] ["n"] (defScope s_p_line) := ⟨rfl, rfl, rfl, by decide +kernel, rfl, by decide +kernel, by decide +kernel⟩
abbrev nn_p_ring : List Str := ["n", "node"]
theorem sc_p_ring : FnScope ["n", "node"] ["n"] (defScope s_p_ring) := ⟨rfl, rfl, rfl, by decide +kernel, rfl, by decide +kernel, by decide +kernel⟩
abbrev nn_p_complete : List Str := ["n", "low", "high"]
theorem sc_p_complete : FnScope ["n", "low", "high"] ["n"] (defScope s_p_complete) := ⟨rfl, rfl, rfl, by decide +kernel, rfl, by decide +kernel, by decide +kernel⟩
abbrev nn_p_star : List Str := ["n", "node"]
theorem sc_p_star : FnScope ["n", "node"] ["n"] (defScope s_p_star) := ⟨rfl, rfl, rfl, by decide +kernel, rfl, by decide +kernel, by decide +kernel⟩
abbrev nn_p_tree : List Str := ["parents", "at", "parent"]
theorem sc_p_tree : FnScope ["parents", "at", "parent"] ["parents"] (defScope s_p_tree) := ⟨rfl, rfl, rfl, by decide +kernel, rfl, by decide +kernel, by decide +kernel⟩
abbrev nn_p_groups : List Str := ["count", "size", "links", "group", "members", "other", "low", "high"]
theorem sc_p_groups : FnScope ["count", "size", "links", "group", "members", "other", "low", "high"] ["count", "size"] (defScope s_p_groups) := ⟨rfl, rfl, rfl, by decide +kernel, rfl, by decide +kernel, by decide +kernel⟩
abbrev nn_l_mix : List Str := ["_law_number"]
theorem sc_l_mix : FnScope ["_law_number"] ["_law_number"] (defScope s_l_mix) := ⟨rfl, rfl, rfl, by decide +kernel, rfl, by decide +kernel, by decide +kernel⟩
abbrev nn_l_tape : List Str := ["_law_script", "_law_budget"]
theorem sc_l_tape : FnScope ["_law_script", "_law_budget"] ["_law_script", "_law_budget"] (defScope s_l_tape) := ⟨rfl, rfl, rfl, by decide +kernel, rfl, by decide +kernel, by decide +kernel⟩
abbrev nn_l_take : List Str := ["_law_tape_here", "_law_many", "_law_cell", "_law_digit"]
theorem sc_l_take : FnScope ["_law_tape_here", "_law_many", "_law_cell", "_law_digit"] ["_law_tape_here", "_law_many"] (defScope s_l_take) := ⟨rfl, rfl, rfl, by decide +kernel, rfl, by decide +kernel, by decide +kernel⟩
abbrev nn_l_told : List Str := ["_law_word", "_law_first", "_law_second", "why"]
theorem sc_l_told : FnScope ["_law_word", "_law_first", "_law_second", "why"] ["_law_word", "_law_first", "_law_second"] (defScope s_l_told) := ⟨rfl, rfl, rfl, by decide +kernel, rfl, by decide +kernel, by decide +kernel⟩
abbrev nn_l_group_links : List Str := ["_law_count", "_law_size", "_law_links", "_law_u", "_law_v", "_law_h", "_law_i", "_law_inside", "_law_between"]
theorem sc_l_group_links : FnScope ["_law_count", "_law_size", "_law_links", "_law_u", "_law_v", "_law_h", "_law_i", "_law_inside", "_law_between"] ["_law_count", "_law_size"] (defScope s_l_group_links) := ⟨rfl, rfl, rfl, by decide +kernel, rfl, by decide +kernel, by decide +kernel⟩
abbrev nn_l_due20 : List Str := ["_law_word", "_law_first", "_law_second", "_law_refused", "_law_links", "_law_u", "_law_v", "_law_near", "_law_at"]
theorem sc_l_due20 : FnScope ["_law_word", "_law_first", "_law_second", "_law_refused", "_law_links", "_law_u", "_law_v", "_law_near", "_law_at"] ["_law_word", "_law_first", "_law_second"] (defScope s_l_due20) := ⟨rfl, rfl, rfl, by decide +kernel, rfl, by decide +kernel, by decide +kernel⟩
abbrev nn_l_parents : List Str := ["_law_tape_here", "_law_parents_here", "_law_at"]
theorem sc_l_parents : FnScope ["_law_tape_here", "_law_parents_here", "_law_at"] ["_law_tape_here"] (defScope s_l_parents) := ⟨rfl, rfl, rfl, by decide +kernel, rfl, by decide +kernel, by decide +kernel⟩
abbrev nn_l_bad : List Str := ["_law_tape_here", "_law_frame", "_law_n", "_law_links", "_law_k"]
theorem sc_l_bad : FnScope ["_law_tape_here", "_law_frame", "_law_n", "_law_links", "_law_k"] ["_law_tape_here", "_law_frame"] (defScope s_l_bad) := ⟨rfl, rfl, rfl, by decide +kernel, rfl, by decide +kernel, by decide +kernel⟩
abbrev nn_law20 : List Str := ["_law_script", "_law_tape_here", "_law_turn", "_law_word", "_law_first", "_law_second", "_law_told_here", "_law_n", "_law_links", "_law_u", "_law_v"]
theorem sc_law20 : FnScope ["_law_script", "_law_tape_here", "_law_turn", "_law_word", "_law_first", "_law_second", "_law_told_here", "_law_n", "_law_links", "_law_u", "_law_v"] ["_law_script"] (defScope s_law20) := ⟨rfl, rfl, rfl, by decide +kernel, rfl, by decide +kernel, by decide +kernel⟩
/-! what the top has written -/
set_option maxHeartbeats 0 in
structure Tx (K : PySem.W.Frag) (mg : Str → Option Value) where
  f_p_is_numberD : Addr
  d_p_is_numberD : FuncData
  F_p_is_numberD : Fun K "is_number" "is_number" s_p_is_numberD f_p_is_numberD d_p_is_numberD
  b_p_is_numberD : Binds K d_p_is_numberD ["value", "least", "most"] []
  g_p_is_numberD : mg "is_number" = some (.ref f_p_is_numberD)
  f_p_is_link : Addr
  d_p_is_link : FuncData
  F_p_is_link : Fun K "is_link" "is_link" s_p_is_link f_p_is_link d_p_is_link
  b_p_is_link : Binds K d_p_is_link ["value", "n"] []
  g_p_is_link : mg "is_link" = some (.ref f_p_is_link)
  f_p_is_frame : Addr
  d_p_is_frame : FuncData
  F_p_is_frame : Fun K "is_frame" "is_frame" s_p_is_frame f_p_is_frame d_p_is_frame
  b_p_is_frame : Binds K d_p_is_frame ["value"] []
  g_p_is_frame : mg "is_frame" = some (.ref f_p_is_frame)
  f_p_made : Addr
  d_p_made : FuncData
  F_p_made : Fun K "made" "made" s_p_made f_p_made d_p_made
  b_p_made : Binds K d_p_made ["n", "links"] []
  g_p_made : mg "made" = some (.ref f_p_made)
  f_p_line : Addr
  d_p_line : FuncData
  F_p_line : Fun K "line" "line" s_p_line f_p_line d_p_line
  b_p_line : Binds K d_p_line ["n"] []
  g_p_line : mg "line" = some (.ref f_p_line)
  f_p_ring : Addr
  d_p_ring : FuncData
  F_p_ring : Fun K "ring" "ring" s_p_ring f_p_ring d_p_ring
  b_p_ring : Binds K d_p_ring ["n"] []
  g_p_ring : mg "ring" = some (.ref f_p_ring)
  f_p_complete : Addr
  d_p_complete : FuncData
  F_p_complete : Fun K "complete" "complete" s_p_complete f_p_complete d_p_complete
  b_p_complete : Binds K d_p_complete ["n"] []
  g_p_complete : mg "complete" = some (.ref f_p_complete)
  f_p_star : Addr
  d_p_star : FuncData
  F_p_star : Fun K "star" "star" s_p_star f_p_star d_p_star
  b_p_star : Binds K d_p_star ["n"] []
  g_p_star : mg "star" = some (.ref f_p_star)
  f_p_tree : Addr
  d_p_tree : FuncData
  F_p_tree : Fun K "tree" "tree" s_p_tree f_p_tree d_p_tree
  b_p_tree : Binds K d_p_tree ["parents"] []
  g_p_tree : mg "tree" = some (.ref f_p_tree)
  f_p_groups : Addr
  d_p_groups : FuncData
  F_p_groups : Fun K "groups" "groups" s_p_groups f_p_groups d_p_groups
  b_p_groups : Binds K d_p_groups ["count", "size"] []
  g_p_groups : mg "groups" = some (.ref f_p_groups)
  f_l_mix : Addr
  d_l_mix : FuncData
  F_l_mix : Fun K "_law_mix" "_law_mix" s_l_mix f_l_mix d_l_mix
  b_l_mix : Binds K d_l_mix ["_law_number"] []
  g_l_mix : mg "_law_mix" = some (.ref f_l_mix)
  f_l_tape : Addr
  d_l_tape : FuncData
  F_l_tape : Fun K "_law_tape" "_law_tape" s_l_tape f_l_tape d_l_tape
  b_l_tape : Binds K d_l_tape ["_law_script", "_law_budget"] []
  g_l_tape : mg "_law_tape" = some (.ref f_l_tape)
  f_l_take : Addr
  d_l_take : FuncData
  F_l_take : Fun K "_law_take" "_law_take" s_l_take f_l_take d_l_take
  b_l_take : Binds K d_l_take ["_law_tape_here", "_law_many"] []
  g_l_take : mg "_law_take" = some (.ref f_l_take)
  f_l_told : Addr
  d_l_told : FuncData
  F_l_told : Fun K "_law_told" "_law_told" s_l_told f_l_told d_l_told
  b_l_told : Binds K d_l_told ["_law_word", "_law_first", "_law_second"] []
  g_l_told : mg "_law_told" = some (.ref f_l_told)
  f_l_group_links : Addr
  d_l_group_links : FuncData
  F_l_group_links : Fun K "_law_group_links" "_law_group_links" s_l_group_links f_l_group_links d_l_group_links
  b_l_group_links : Binds K d_l_group_links ["_law_count", "_law_size"] []
  g_l_group_links : mg "_law_group_links" = some (.ref f_l_group_links)
  f_l_due20 : Addr
  d_l_due20 : FuncData
  F_l_due20 : Fun K "_law_due" "_law_due" s_l_due20 f_l_due20 d_l_due20
  b_l_due20 : Binds K d_l_due20 ["_law_word", "_law_first", "_law_second"] []
  g_l_due20 : mg "_law_due" = some (.ref f_l_due20)
  f_l_parents : Addr
  d_l_parents : FuncData
  F_l_parents : Fun K "_law_parents" "_law_parents" s_l_parents f_l_parents d_l_parents
  b_l_parents : Binds K d_l_parents ["_law_tape_here"] []
  g_l_parents : mg "_law_parents" = some (.ref f_l_parents)
  f_l_bad : Addr
  d_l_bad : FuncData
  F_l_bad : Fun K "_law_bad" "_law_bad" s_l_bad f_l_bad d_l_bad
  b_l_bad : Binds K d_l_bad ["_law_tape_here", "_law_frame"] []
  g_l_bad : mg "_law_bad" = some (.ref f_l_bad)
  f_law20 : Addr
  d_law20 : FuncData
  F_law20 : Fun K "law" "law" s_law20 f_law20 d_law20
  b_law20 : Binds K d_law20 ["_law_script"] []
  g_law20 : mg "law" = some (.ref f_law20)
  t_p_MAX_CHANNELS : Tok
  c_p_MAX_CHANNELS : mg "MAX_CHANNELS" = some (.int 400 t_p_MAX_CHANNELS)
  t_p_MAX_LANES : Tok
  c_p_MAX_LANES : mg "MAX_LANES" = some (.int 8 t_p_MAX_LANES)
  t_p_MAX_NODES : Tok
  c_p_MAX_NODES : mg "MAX_NODES" = some (.int 64 t_p_MAX_NODES)
  xa_FabricError : Addr
  xc_FabricError : XCls K mg "FabricError" xa_FabricError
  xa_NotAllowed : Addr
  xc_NotAllowed : XCls K mg "NotAllowed" xa_NotAllowed
  z_all : mg "all" = none
  z_any : mg "any" = none
  z_bool : mg "bool" = none
  z_enumerate : mg "enumerate" = none
  z_int : mg "int" = none
  z_isinstance : mg "isinstance" = none
  z_len : mg "len" = none
  z_list : mg "list" = none
  z_range : mg "range" = none
  z_sorted : mg "sorted" = none
  z_tuple : mg "tuple" = none
  xi_NotAllowed_FabricError : PySem.W.kitOne K (.ref xa_NotAllowed) (.ref xa_FabricError) = some true
  xq_NotAllowed : ExcC K xa_NotAllowed
end Cf
namespace Cf
open PySem PySem.Spec PyProof.Rows L2 WL
section
variable {P : Program} {w : World} {K : PySem.W.Frag} {mg : Str → Option Value} {base : Heap}
set_option maxHeartbeats 4000000
theorem ok_l_mix (T : Tx K mg) : FnOk P w K mg base CX0 1 T.f_l_mix T.d_l_mix ["_law_number"] (spN K (fun x : Int × Unit => [.d (eI x.1)]) (fun x => l_mix x.1) (fun r : Int => .fz (eI r))) := by
  have S := sc_l_mix
  refine fn_n (N := nn_l_mix) T.F_l_mix S (fun _ => rfl) (fun cdv A outer s H E hr => ?_)
  refine ⟨_, (pss_cons (ps_set (i := 0) S.nd rfl (by first | exact .inl rfl | exact .inr rfl) (pe_op op_modN (pe_callTy call_int1 (by rfl) T.z_int (by decide +kernel) (pa_cons (pe_op op_add (pe_op op_mul (pv 0) pe_int) pe_int) pa_nil)) pe_int))
      (pss_one (ps_ret (pe_op op_modN (pe_callTy call_int1 (by rfl) T.z_int (by decide +kernel) (pa_cons (pe_op op_add (pe_op op_fdivW (pe_op op_mul (pv 0) (pv 0)) pe_int) (pe_op op_mul (pv 0) pe_int)) pa_nil)) pe_int)))), ?_⟩
  rintro ⟨number, _⟩
  show SimB _ _ _ _ _ _ [.sl (fz K (eI number))] (l_mix number)
  unfold l_mix
  exact (sb_seq (sb_set (e := eI) (EvG.is (w' := (ret (Int.fmod ((number * (6364136223846793005 : Int)) + (1442695040888963407 : Int)) (18446744073709551616 : Int)))) (ev_modC (by decide) (ev_b1F (ev_opF (ev_mulR (by decide) (ev_f (e := eI) number rfl)) ev_int (fun _ _ => o_add _ _)) (fun _ => c_int _))) rfl) (ltb rfl) (fun number_1 => (la_in (sb_retF (EvG.is (w' := (bnd (bnd (bnd (grd (CMul number_1 number_1) (ret (number_1 * number_1))) fun x2 => ret (x2 / (4294967296 : Int))) fun x3 => ret (x3 + (number_1 * (69621 : Int)))) fun x4 => ret (Int.fmod x4 (18446744073709551557 : Int)))) (ev_modC (by decide) (ev_b1F (ev_opF (ev_fdivW (by decide) (ev_opF (ev_f (e := eI) number_1 rfl) (ev_f (e := eI) number_1 rfl) (fun _ _ => o_mul _ _))) (ev_mulR (by decide) (ev_f (e := eI) number_1 rfl)) (fun _ _ => o_add _ _)) (fun _ => c_int _))) (by simp only [ret_bnd, bnd_bnd, mapW_bnd, mapW_ret] <;> rfl)) (fun _ => rfl))))))

end
end Cf
namespace Cf
open PySem PySem.Spec PyProof.Rows L2 WL
section
variable {P : Program} {w : World} {K : PySem.W.Frag} {mg : Str → Option Value} {base : Heap}
set_option maxHeartbeats 4000000
theorem mix_any (z : Int) : l_mix z (fun r => 0 ≤ r) (fun _ => False) := by
  unfold l_mix
  have h0 := Int.fmod_eq_emod_of_nonneg (z * 6364136223846793005 + 1442695040888963407) (show (0 : Int) ≤ 18446744073709551616 by decide)
  have h1 := Int.emod_nonneg (z * 6364136223846793005 + 1442695040888963407) (show (18446744073709551616 : Int) ≠ 0 by decide)
  have h2 := Int.emod_lt_of_pos (z * 6364136223846793005 + 1442695040888963407) (show (0 : Int) < 18446744073709551616 by decide)
  refine ⟨.inl ⟨?_, ?_⟩, ?_⟩
  · rw [h0]
    show -(18446744073709551616 : Int) < _
    omega
  · rw [h0]
    exact h2
  · show 0 ≤ Int.fmod _ 18446744073709551557
    rw [Int.fmod_eq_emod_of_nonneg _ (by decide)]
    exact Int.emod_nonneg _ (by decide)
theorem mix_use {H : Hp} {Q : VK} {E : XK} {z : Int} (h : ∀ r H', 0 ≤ r → (∀ a o, H a = some o → H' a = some o) → Q (.int r) H') : spN K (fun x : Int × Unit => [.d (eI x.1)]) (fun x => l_mix x.1) (fun r : Int => .fz (eI r)) ([V.int z] ++ []) H Q E := by
  obtain ⟨R, en⟩ := args_en (K := K) (B := ⟨H, [], none, []⟩) (H0 := H) (H := H) (vs := [V.int z]) (as := [.d (eI z)]) (fun t h => nomatch h) (.cons (Fz.int z) .nil)
  refine ⟨(z, ()), _, none, R, _, mix_any z, en, fun out v H' hp hf ht ho => ?_⟩
  have e := Fz.int_inv (n := out) ho
  subst e
  refine h out H' hp fun a o ea => ?_
  obtain ⟨o', e1, e2, _⟩ := hf a o ea
  rw [e2 (by simp) (fun t h => nomatch h)] at e1
  exact e1
theorem at0 {α : Type} {a b c d e : α} : atI [a, b, c, d, e] 0 = some a := rfl
theorem at1 {α : Type} {a b c d e : α} : atI [a, b, c, d, e] 1 = some b := rfl
theorem at2 {α : Type} {a b c d e : α} : atI [a, b, c, d, e] 2 = some c := rfl
theorem at3 {α : Type} {a b c d e : α} : atI [a, b, c, d, e] 3 = some d := rfl
/-- the tape as it stands: all else as in H -/
structure TkS (H : Hp) (p q : Addr) (ns : List Int) (H' : Hp) (a b c d : Int) : Prop where
  k : ∀ x o, H x = some o → x ≠ p → H' x = some o
  h : H' p = some (.lst [.ref q, .int a, .int b, .int c, .int d])
  q : H' q = some (.lst (ns.map V.int))
theorem TkS.more {H H' H'' : Hp} {p q : Addr} {ns : List Int} {a b c d : Int} (t : TkS H p q ns H' a b c d) (s : ∀ x o, H' x = some o → H'' x = some o) : TkS H p q ns H'' a b c d := ⟨fun x o e n => s x o (t.k x o e n), s _ _ t.h, s _ _ t.q⟩
theorem TkS.set {H H' : Hp} {p q : Addr} {ns : List Int} {a b c d a' b' c' d' : Int} (t : TkS H p q ns H' a b c d) (hpq : p ≠ q) : TkS H p q ns (upd H' p (.lst [.ref q, .int a', .int b', .int c', .int d'])) a' b' c' d' :=
  ⟨fun x o e n => by rw [upd_ne n]; exact t.k x o e n, upd_same, by rw [upd_ne (Ne.symm hpq)]; exact t.q⟩
theorem TkS.sq {H H' : Hp} {p q : Addr} {ns : List Int} {a b c d : Int} (t : TkS H p q ns H' a b c d) : SqL K H' p [.ref q, .int a, .int b, .int c, .int d] := .inl (.inl t.h)
theorem TkS.sc {H H' : Hp} {p q : Addr} {ns : List Int} {a b c d : Int} (t : TkS H p q ns H' a b c d) : SqL K H' q (ns.map V.int) := .inl (.inl t.q)
theorem ok_l_take (T : Tx K mg) : FnOk P w K mg base CX0 2 T.f_l_take T.d_l_take ["_law_tape_here", "_law_many"] (spN K (fun x : Unit × Int × Unit => [.t tape1, .d (eI x.2.1)]) (fun x => l_take x.2.1) (fun r : Int => .fz (eI r))) := by
  have S := sc_l_take
  refine T.F_l_take.ok S (fun vs H Q E h => ?_) (fun cdv A outer s H vs Q E hr h => ?_)
  · obtain ⟨x, P, T, R, fp, _, en, _⟩ := h
    have := en.len
    rw [List.length_map, List.length_map] at this
    exact this
  obtain ⟨⟨_, n, _⟩, P, Tt, R, fp, hf, en, fin⟩ := h
  obtain ⟨⟨hn0, hn1⟩, hd⟩ := hf
  have hl := en.len
  rw [List.length_map, List.length_map] at hl
  obtain ⟨v, fq, hT, hv0⟩ := en.tp 0 tape1 rfl
  obtain ⟨v1, hv1, _, hz⟩ := en.sl 1 _ rfl
  have hT' : Tt = some (tape1, v, fq) := hT
  subst hT'
  obtain ⟨p, q, cells, a, b, c, d, rfl, rfl, hpq, hp, hq, ha, hb, hc⟩ := en.tps _ rfl
  have e1 := Fz.int_inv (n := n) hz
  subst e1
  have evs : vs = [.ref p, .int n] := by
    match vs, hl with
    | [x, y], _ =>
      have h0 : some (some x) = some (some (V.ref p)) := hv0
      have h1 : some (some y) = some (some (V.int n)) := hv1
      cases h0
      cases h1
      rfl
  subst evs
  have t0 : TkS H p q cells H a b c d := ⟨fun x o e _ => e, hp, hq⟩
  refine ⟨_, (pss_cons (ps_if (pt_cmpR op_lt (pe_ix ix_list (pv 0) pe_int (fun _ _ => rfl)) (pv 1) (nomark _))
      (pss_one (ps_if (pt_cmpR op_lt (pe_ix ix_list (pv 0) pe_int (fun _ _ => rfl)) (pe_callB call_len_seq (by rfl) T.z_len (by decide +kernel) (pa_cons (pe_ix ix_list (pv 0) pe_int (fun _ _ => rfl)) pa_nil)) (nomark _))
        (pss_cons (ps_set (i := 2) S.nd rfl (by first | exact .inl rfl | exact .inr rfl) (pe_ix ix_list (pe_ix ix_list (pv 0) pe_int (fun _ _ => rfl)) (pe_ix ix_list (pv 0) pe_int (fun _ _ => rfl)) (fun _ _ => rfl)))
        (pss_cons (ps_set (i := 2) S.nd rfl (by first | exact .inl rfl | exact .inr rfl) (pe_ifExp (pt_cmpR op_ge (pv 2) pe_int (nomark _)) (pe_op op_mul pe_int (pv 2)) (pe_op op_sub (pe_op op_mul (pe_un un_neg pe_int) (pv 2)) pe_int)))
        (pss_cons (ps_asg (pe_op op_add (pe_ix ix_list (pv 0) pe_int (fun _ _ => rfl)) pe_int) (pg_sub (pv 0) pe_int set_list))
        (pss_cons (ps_asg (pe_call (ok_l_mix T) (hr.mono (by decide)) (by rfl) T.g_l_mix T.F_l_mix.kp T.b_l_mix .nil pass0 (pa_cons (pe_op op_add (pe_ix ix_list (pv 0) pe_int (fun _ _ => rfl)) (pv 2)) pa_nil)) (pg_sub (pv 0) pe_int set_list))
        (pss_one (ps_asg (pe_ifExp (pt_cmpR op_ge (pv 2) (pe_op op_pow pe_int pe_int) (nomark _)) (pv 2) (pe_call (ok_l_mix T) (hr.mono (by decide)) (by rfl) T.g_l_mix T.F_l_mix.kp T.b_l_mix .nil pass0 (pa_cons (pe_call (ok_l_mix T) (hr.mono (by decide)) (by rfl) T.g_l_mix T.F_l_mix.kp T.b_l_mix .nil pass0 (pa_cons (pv 2) pa_nil)) pa_nil))) (pg_sub (pv 0) pe_int set_list)))))))
        (pss_cons (ps_asg (pe_call (ok_l_mix T) (hr.mono (by decide)) (by rfl) T.g_l_mix T.F_l_mix.kp T.b_l_mix .nil pass0 (pa_cons (pe_op op_add (pe_ix ix_list (pv 0) pe_int (fun _ _ => rfl)) pe_int) pa_nil)) (pg_sub (pv 0) pe_int set_list)) (pss_one (ps_asg (pe_ix ix_list (pv 0) pe_int (fun _ _ => rfl)) (pg_sub (pv 0) pe_int set_list)))))) pss_nil)
      (pss_cons (ps_set (i := 3) S.nd rfl (by first | exact .inl rfl | exact .inr rfl) (pe_op op_modN (pe_callTy call_int1 (by rfl) T.z_int (by decide +kernel) (pa_cons (pe_ix ix_list (pv 0) pe_int (fun _ _ => rfl)) pa_nil)) (pv 1)))
      (pss_cons (ps_asg (pe_op op_fdivN (pe_ix ix_list (pv 0) pe_int (fun _ _ => rfl)) (pv 1)) (pg_sub (pv 0) pe_int set_list))
      (pss_one (ps_ret (pv 3)))))), ?_⟩
  refine seq_via (fun σ' H' => ∃ y2 y3 a b c d, σ' = [some (.ref p), some (.int n), y2, y3] ∧ TkS H p q cells H' a b c d ∧ 0 ≤ a ∧ 0 ≤ b ∧ 0 ≤ c) (fun N hN => ?_) ?_
  · -- the refill
    have st : start ["_law_tape_here", "_law_many", "_law_cell", "_law_digit"] [V.ref p, V.int n] = [some (.ref p), some (.int n), none, none] := rfl
    rw [st]
    refine ⟨_, rfl, p, _, 2, _, rfl, rfl, t0.sq, at2, _, rfl, b, n, rfl, rfl, _, rfl, ite2 (fun _ => ?_) (fun _ => hN _ _ ⟨_, _, a, b, c, d, rfl, t0, ha, hb, hc⟩)⟩
    refine ⟨_, rfl, p, _, 1, _, rfl, rfl, t0.sq, at1, _, rfl, p, _, 0, _, rfl, rfl, t0.sq, at0, q, _, rfl, .inl t0.sc, a, _, rfl, rfl, _, rfl, ite2 (fun hlt => ?_) (fun _ => ?_)⟩
    · have hlt' : a < ((cells.map V.int).length : Int) := of_decide_eq_true hlt
      rw [List.length_map] at hlt'
      have hat : atI (cells.map V.int) a = some (.int (cells[a.toNat]'(by omega))) := by
        have := atI_nat (xs := cells.map V.int) (j := a.toNat) (v := .int (cells[a.toNat]'(by omega))) (by rw [List.getElem?_map, List.getElem?_eq_getElem (by omega)]; rfl)
        rw [show ((a.toNat : Nat) : Int) = a by omega] at this
        exact this
      generalize cells[a.toNat]'(by omega) = z at hat
      refine seq_via (fun σ' H' => σ' = [some (.ref p), some (.int n), some (.int z), none] ∧ TkS H p q cells H' a b c d) (fun N hN => ?_) ?_
      · exact ⟨_, rfl, p, _, 0, _, rfl, rfl, t0.sq, at0, _, rfl, p, _, 1, _, rfl, rfl, t0.sq, at1, q, _, a, _, rfl, rfl, t0.sc, hat, hN _ _ ⟨rfl, t0⟩⟩
      rintro σ1 H1 ⟨rfl, t1⟩
      refine seq_via (fun σ' H' => ∃ y : Int, 0 ≤ y ∧ σ' = [some (.ref p), some (.int n), some (.int y), none] ∧ TkS H p q cells H' a b c d) (fun N hN => ?_) ?_
      · refine ⟨_, rfl, z, 0, rfl, rfl, _, rfl, ite2 (fun h => ?_) (fun h => ?_)⟩
        · have h' : 0 ≤ z := of_decide_eq_true h
          exact ⟨_, rfl, 2, z, rfl, rfl, .inl (by omega), hN _ _ ⟨2 * z, by omega, rfl, t1⟩⟩
        · have h' : ¬ 0 ≤ z := fun h' => h (decide_eq_true h')
          exact ⟨2, rfl, _, rfl, -2, z, rfl, rfl, .inl (by omega), -2 * z, 1, rfl, rfl, hN _ _ ⟨-2 * z - 1, by omega, rfl, t1⟩⟩
      rintro σ2 H2 ⟨y, hy, rfl, t2⟩
      refine ⟨_, rfl, p, _, 1, _, rfl, rfl, t2.sq, at1, a, 1, rfl, rfl, _, rfl, p, _, 1, 1, rfl, rfl, t2.h, rfl, ?_⟩
      have t3 : TkS H p q cells (upd H2 p (.lst [.ref q, .int (a + 1), .int b, .int c, .int d])) (a + 1) b c d := t2.set hpq
      refine ⟨_, rfl, p, _, 3, _, rfl, rfl, t3.sq, at3, _, rfl, c, y, rfl, rfl, mix_use (E := E0) (fun c' H4 hc' k4 => ?_)⟩
      have t4 := t3.more k4
      refine ⟨_, rfl, p, _, 3, 3, rfl, rfl, t4.h, rfl, ?_⟩
      have t5 : TkS H p q cells (upd H4 p (.lst [.ref q, .int (a + 1), .int b, .int c', .int d])) (a + 1) b c' d := t4.set hpq
      refine ⟨_, rfl, 10, 18, rfl, rfl, ⟨by decide, by decide, by decide⟩, y, _, rfl, rfl, _, rfl, ite2 (fun _ => ?_) (fun _ => ?_)⟩
      · exact ⟨_, rfl, _, rfl, p, _, 2, 2, rfl, rfl, t5.h, rfl, hN _ _ ⟨_, _, a + 1, y, c', d, rfl, t5.set hpq, by omega, hy, hc'⟩⟩
      · refine ⟨_, rfl, mix_use (E := E0) (fun y1 H6 _ k6 => mix_use (E := E0) (fun y2 H7 hy2 k7 => ?_))⟩
        have t7 := (t5.more k6).more k7
        exact ⟨_, rfl, p, _, 2, 2, rfl, rfl, t7.h, rfl, hN _ _ ⟨_, _, a + 1, y2, c', d, rfl, t7.set hpq, by omega, hy2, hc'⟩⟩
    · refine ⟨_, rfl, p, _, 3, _, rfl, rfl, t0.sq, at3, c, 1, rfl, rfl, mix_use (E := E0) (fun c' H4 hc' k4 => ?_)⟩
      have t4 := t0.more k4
      refine ⟨_, rfl, p, _, 3, 3, rfl, rfl, t4.h, rfl, ?_⟩
      have t5 : TkS H p q cells (upd H4 p (.lst [.ref q, .int a, .int b, .int c', .int d])) a b c' d := t4.set hpq
      exact ⟨_, rfl, p, _, 3, _, rfl, rfl, t5.sq, at3, _, rfl, p, _, 2, 2, rfl, rfl, t5.h, rfl, hN _ _ ⟨_, _, a, c', c', d, rfl, t5.set hpq, ha, hc', hc'⟩⟩
  · rintro σ' H' ⟨y2, y3, a, b, c, d, rfl, t, ha, hb, hc⟩
    have hn0' : 0 < n := hn0
    have hn1' : n < 1073741824 := hn1
    refine ⟨_, rfl, p, _, 2, _, rfl, rfl, t.sq, at2, .inl ⟨b, rfl, _, rfl, b, n, rfl, rfl, (by omega : n ≠ 0), ?_⟩⟩
    refine ⟨_, rfl, p, _, 2, _, rfl, rfl, t.sq, at2, _, rfl, b, n, rfl, rfl, ⟨by omega, by omega⟩, _, rfl, p, _, 2, 2, rfl, rfl, t.h, rfl, ?_⟩
    have t1 : TkS H p q cells (upd H' p (.lst [.ref q, .int a, .int (b.fdiv n), .int c, .int d])) a (b.fdiv n) c d := t.set hpq
    refine ⟨_, rfl, fin (b.fmod n) (.int (b.fmod n)) _ (hd _ ⟨?_, ?_⟩) (fun x o e => ?_) (fun t' e => ?_) (Fz.int _)⟩
    · show 0 ≤ b.fmod n
      rw [Int.fmod_eq_emod_of_nonneg _ (by omega)]
      exact Int.emod_nonneg _ (by omega)
    · show b.fmod n < n
      rw [Int.fmod_eq_emod_of_nonneg _ (by omega)]
      exact Int.emod_lt_of_pos _ hn0'
    · by_cases hx : x = p
      · subst hx
        refine ⟨_, t1.h, fun _ off => (off _ rfl (by simp)).elim, fun st => ?_⟩
        have e' : H x = some o := e
        rw [hp] at e'
        cases e'
        cases st
      · exact ⟨o, t1.k x o e hx, fun _ _ => rfl, fun _ => rfl⟩
    · cases e
      exact ⟨p, q, cells, a, b.fdiv n, c, d, rfl, rfl, hpq, t1.h, t1.q, ha, Int.fdiv_nonneg hb (by omega), hc⟩

end
end Cf
namespace Cf
open PySem PySem.Spec PyProof.Rows L2 WL
section
variable {P : Program} {w : World} {K : PySem.W.Frag} {mg : Str → Option Value} {base : Heap}
set_option maxHeartbeats 4000000
theorem ok_l_bad (T : Tx K mg) : FnOk P w K mg base CX0 3 T.f_l_bad T.d_l_bad ["_law_tape_here", "_law_frame"] (spN K (fun x : Unit × (Int × (List (Int × Int))) × Unit => [.t tape1, .d ((e2 eI (eT (e2 eI eI))) x.2.1)]) (fun x => l_bad x.2.1) (fun r : PyData => .fz (eD r))) := by
  have S := sc_l_bad
  refine fn_n (N := nn_l_bad) T.F_l_bad S (fun _ => rfl) (fun cdv A outer s H E hr => ?_)
  refine ⟨_, (pss_cons (ps_asg (pv 1) (pg_tupK (n := 2) (K := K) rfl rfl (pgs_cons (pg_name (i := 2) S.nd rfl (by first | exact .inl rfl | exact .inr rfl)) (pgs_cons (pg_name (i := 3) S.nd rfl (by first | exact .inl rfl | exact .inr rfl)) pgs_nil))))
      (pss_cons (ps_set (i := 4) S.nd rfl (by first | exact .inl rfl | exact .inr rfl) (pe_call (ok_l_take T) (hr.mono (by decide)) (by rfl) T.g_l_take T.F_l_take.kp T.b_l_take .nil pass0 (pa_cons (pv 0) (pa_cons pe_int pa_nil))))
      (pss_one (ps_ret (pe_ix (ix_listK (K := K) rfl) (pe_lst (pa_cons (pe_tup (pa_cons (pv 2) pa_nil)) (pa_cons (pe_tup (pa_cons (pv 2) (pa_cons (pv 3) (pa_cons pe_int pa_nil)))) (pa_cons (pe_tup (pa_cons (pv 2) (pa_cons (pe_tup pa_nil) pa_nil))) (pa_cons (pe_tup (pa_cons pe_int (pa_cons (pv 3) pa_nil))) (pa_cons (pe_tup (pa_cons pe_int (pa_cons (pv 3) pa_nil))) (pa_cons (pe_tup (pa_cons (pv 2) (pa_cons (pe_ix (ix_listK (K := K) rfl) (pe_callTy (call_lstK (K := K) rfl) (by rfl) T.z_list (by decide +kernel) (pa_cons (pv 3) pa_nil)) pe_int (fun _ _ => rfl)) pa_nil))) (pa_cons (pe_tup (pa_cons (pv 2) (pa_cons (pe_op (op_catK (K := K) rfl) (pv 3) (pe_tup (pa_cons (pe_tup (pa_cons pe_int (pa_cons (pv 2) pa_nil))) pa_nil))) pa_nil))) (pa_cons (pe_tup (pa_cons (pv 2) (pa_cons (pe_op (op_catK (K := K) rfl) (pv 3) (pe_slice (sl_tupK (K := K) rfl) (pv 3) (po_some (pe_un un_neg pe_int)) po_none)) pa_nil))) (pa_cons (pe_tup (pa_cons (pv 2) (pa_cons (pe_tup (pa_cons (pe_tup (pa_cons pe_int (pa_cons pe_int pa_nil))) pa_nil)) pa_nil))) (pa_cons (pe_tup (pa_cons (pv 2) (pa_cons (pe_op (op_catK (K := K) rfl) (pv 3) (pe_tup (pa_cons (pe_tup (pa_cons pe_int (pa_cons pe_int pa_nil))) pa_nil))) pa_nil))) (pa_cons (pe_tup (pa_cons (pv 2) (pa_cons (pe_tup (pa_cons (pe_tup (pa_cons (pe_un un_neg pe_int) (pa_cons pe_int pa_nil))) pa_nil)) pa_nil))) (pa_cons (pe_tup (pa_cons (pv 2) (pa_cons (pe_op (op_catK (K := K) rfl) (pv 3) (pe_tup (pa_cons (pe_tup (pa_cons (pe_op op_sub (pv 2) pe_int) (pa_cons (pe_op op_sub (pv 2) pe_int) pa_nil))) pa_nil))) pa_nil))) (pa_cons (pe_tup (pa_cons pe_bl (pa_cons (pv 3) pa_nil))) (pa_cons (pe_tup (pa_cons (pv 2) (pa_cons (pe_tup (pa_cons (pe_tup (pa_cons pe_int (pa_cons pe_int (pa_cons pe_int pa_nil)))) pa_nil)) pa_nil))) (pa_cons (pe_tup (pa_cons (pv 2) (pa_cons (pe_tup (pa_cons pe_str pa_nil)) pa_nil))) (pa_cons pe_str (pa_cons (pv 4) (pa_cons (pe_tup pa_nil) (pa_cons (pe_tup (pa_cons (pv 2) (pa_cons (pe_tup (pa_cons pe_int (pa_cons pe_int pa_nil))) pa_nil))) (pa_cons (pe_tup (pa_cons pe_str (pa_cons (pv 3) pa_nil))) (pa_cons (pe_tup (pa_cons (pv 2) (pa_cons (pe_tup (pa_cons (pe_tup (pa_cons pe_int (pa_cons pe_bl pa_nil))) pa_nil)) pa_nil))) pa_nil)))))))))))))))))))))) (pe_call (ok_l_take T) (hr.mono (by decide)) (by rfl) T.g_l_take T.F_l_take.kp T.b_l_take .nil pass0 (pa_cons (pv 0) (pa_cons pe_int pa_nil))) (fun _ _ => rfl)))))), ?_⟩
  rintro ⟨_, frame, _⟩
  show SimB _ _ _ _ _ _ [.tp tape1, .sl (fz K ((e2 eI (eT (e2 eI eI))) frame)), .un, .un, .un] (l_bad frame)
  unfold l_bad
  exact (sb_seq (sb_asg (e := (e2 eI (eT (e2 eI eI)))) (EvG.is (w' := (ret frame)) (ev_f (e := (e2 eI (eT (e2 eI eI)))) frame rfl) rfl) (fun u1 => (tg_tup (ds := [eI (u1.1), (eT (e2 eI eI)) (u1.2)]) (ts_cons (tg_name (ltb rfl)) (ts_cons (tg_name (ltb rfl)) ts_nil)) rfl rfl)) (fun u1 => (la_in (sb_seq (sb_set (e := eI) (EvG.is (w' := (noX (l_take (30 : Int)))) (ev_callS eI (es_t (ev_t (S := tape1) rfl) (es_f ev_int es_nil)) (fun _ => rfl)) rfl) (ltb rfl) (fun k_2 => (la_in (sb_retF (EvG.is (w' := (bnd (bnd (bnd (bnd (opt (atI (u1.2) (0 : Int))) fun x8 => ret ((u1.1), x8)) fun y => ret ((e2 eI (e2 eI eI)) y)) fun x13 => bnd (bnd (bnd (grd ((u1.2).length + [((0 : Int), (u1.1))].length ≤ 16777216) (ret ((u1.2) ++ [((0 : Int), (u1.1))]))) fun x9 => ret ((u1.1), x9)) fun y => ret ((e2 eI (eT (e2 eI eI))) y)) fun x14 => bnd (bnd (bnd (grd ((u1.2).length + (cutA (u1.2) (some (-(1 : Int))) none).length ≤ 16777216) (ret ((u1.2) ++ (cutA (u1.2) (some (-(1 : Int))) none)))) fun x10 => ret ((u1.1), x10)) fun y => ret ((e2 eI (eT (e2 eI eI))) y)) fun x15 => bnd (bnd (bnd (grd ((u1.2).length + [((0 : Int), (0 : Int))].length ≤ 16777216) (ret ((u1.2) ++ [((0 : Int), (0 : Int))]))) fun x11 => ret ((u1.1), x11)) fun y => ret ((e2 eI (eT (e2 eI eI))) y)) fun x16 => bnd (bnd (bnd (grd ((u1.2).length + [(((u1.1) - (1 : Int)), ((u1.1) - (1 : Int)))].length ≤ 16777216) (ret ((u1.2) ++ [(((u1.1) - (1 : Int)), ((u1.1) - (1 : Int)))]))) fun x12 => ret ((u1.1), x12)) fun y => ret ((e2 eI (eT (e2 eI eI))) y)) fun x17 => ret [((e1 eI) ((u1.1))), ((e3 eI (eT (e2 eI eI)) eI) ((u1.1), (u1.2), (0 : Int))), ((e2 eI e0) ((u1.1), ())), ((e2 eI (eT (e2 eI eI))) ((1 : Int), (u1.2))), ((e2 eI (eT (e2 eI eI))) ((65 : Int), (u1.2))), x13, x14, x15, ((e2 eI (e1 (e2 eI eI))) ((u1.1), (((1 : Int), (0 : Int))))), x16, ((e2 eI (e1 (e2 eI eI))) ((u1.1), (((-(1 : Int)), (1 : Int))))), x17, ((e2 eB (eT (e2 eI eI))) (true, (u1.2))), ((e2 eI (e1 (e3 eI eI eI))) ((u1.1), (((0 : Int), (1 : Int), (2 : Int))))), ((e2 eI (e1 eS)) ((u1.1), (("ab" : Str)))), (eS ("frame" : Str)), (eI k_2), (e0 ()), ((e2 eI (e2 eI eI)) ((u1.1), ((0 : Int), (1 : Int)))), ((e2 eS (eT (e2 eI eI))) (("2" : Str), (u1.2))), ((e2 eI (e1 (e2 eI eB))) ((u1.1), (((0 : Int), true))))]) fun x18 => bnd (noX (l_take (21 : Int))) fun x19 => opt (atI x18 x19))) (ev_opLF (EvG.rl (ev_lstS (fun x => [x.1, x.2.1, x.2.2.1, x.2.2.2.1, x.2.2.2.2.1, x.2.2.2.2.2.1, x.2.2.2.2.2.2.1, x.2.2.2.2.2.2.2.1, x.2.2.2.2.2.2.2.2.1, x.2.2.2.2.2.2.2.2.2.1, x.2.2.2.2.2.2.2.2.2.2.1, x.2.2.2.2.2.2.2.2.2.2.2.1, x.2.2.2.2.2.2.2.2.2.2.2.2.1, x.2.2.2.2.2.2.2.2.2.2.2.2.2.1, x.2.2.2.2.2.2.2.2.2.2.2.2.2.2.1, x.2.2.2.2.2.2.2.2.2.2.2.2.2.2.2.1, x.2.2.2.2.2.2.2.2.2.2.2.2.2.2.2.2.1, x.2.2.2.2.2.2.2.2.2.2.2.2.2.2.2.2.2.1, x.2.2.2.2.2.2.2.2.2.2.2.2.2.2.2.2.2.2.1, x.2.2.2.2.2.2.2.2.2.2.2.2.2.2.2.2.2.2.2.1, x.2.2.2.2.2.2.2.2.2.2.2.2.2.2.2.2.2.2.2.2.1]) eD (es_f (ev_data (e := (e1 eI)) (ev_tupS (fun x => (x.1)) (e1 eI) (es_f (ev_f (e := eI) (u1.1) rfl) es_nil) (fun _ => (AllF.cons AllF.nil)) (fun _ => rfl) (fun _ => rfl))) (es_f (ev_data (e := (e3 eI (eT (e2 eI eI)) eI)) (ev_tupS (fun x => (x.1, x.2.1, x.2.2.1)) (e3 eI (eT (e2 eI eI)) eI) (es_f (ev_f (e := eI) (u1.1) rfl) (es_f (ev_f (e := (eT (e2 eI eI))) (u1.2) rfl) (es_f ev_int es_nil))) (fun _ => (AllF.cons (AllF.cons (AllF.cons AllF.nil)))) (fun _ => rfl) (fun _ => rfl))) (es_f (ev_data (e := (e2 eI e0)) (ev_tupS (fun x => (x.1, x.2.1)) (e2 eI e0) (es_f (ev_f (e := eI) (u1.1) rfl) (es_f (ev_tupS (fun x => ()) e0 es_nil (fun _ => AllF.nil) (fun _ => rfl) (fun _ => rfl)) es_nil)) (fun _ => (AllF.cons (AllF.cons AllF.nil))) (fun _ => rfl) (fun _ => rfl))) (es_f (ev_data (e := (e2 eI (eT (e2 eI eI)))) (ev_tupS (fun x => (x.1, x.2.1)) (e2 eI (eT (e2 eI eI))) (es_f ev_int (es_f (ev_f (e := (eT (e2 eI eI))) (u1.2) rfl) es_nil)) (fun _ => (AllF.cons (AllF.cons AllF.nil))) (fun _ => rfl) (fun _ => rfl))) (es_f (ev_data (e := (e2 eI (eT (e2 eI eI)))) (ev_tupS (fun x => (x.1, x.2.1)) (e2 eI (eT (e2 eI eI))) (es_f ev_int (es_f (ev_f (e := (eT (e2 eI eI))) (u1.2) rfl) es_nil)) (fun _ => (AllF.cons (AllF.cons AllF.nil))) (fun _ => rfl) (fun _ => rfl))) (es_f (ev_data (e := (e2 eI (e2 eI eI))) (ev_tupS (fun x => (x.1, x.2.1)) (e2 eI (e2 eI eI)) (es_f (ev_f (e := eI) (u1.1) rfl) (es_f (ev_opLF (EvG.rl (ev_b1F (ev_f (e := (eT (e2 eI eI))) (u1.2) rfl) (fun _ => c_lstT _))) ev_int (fun _ _ => o_ixL _ _)) es_nil)) (fun _ => (AllF.cons (AllF.cons AllF.nil))) (fun _ => rfl) (fun _ => rfl))) (es_f (ev_data (e := (e2 eI (eT (e2 eI eI)))) (ev_tupS (fun x => (x.1, x.2.1)) (e2 eI (eT (e2 eI eI))) (es_f (ev_f (e := eI) (u1.1) rfl) (es_f (ev_opF (ev_f (e := (eT (e2 eI eI))) (u1.2) rfl) (ev_tupS (fun x => [x.1]) (eT (e2 eI eI)) (es_f (ev_tupS (fun x => (x.1, x.2.1)) (e2 eI eI) (es_f ev_int (es_f (ev_f (e := eI) (u1.1) rfl) es_nil)) (fun _ => (AllF.cons (AllF.cons AllF.nil))) (fun _ => rfl) (fun _ => rfl)) es_nil) (fun _ => (AllF.cons AllF.nil)) (fun _ => rfl) (fun _ => rfl)) (fun _ _ => o_catT _ _)) es_nil)) (fun _ => (AllF.cons (AllF.cons AllF.nil))) (fun _ => rfl) (fun _ => rfl))) (es_f (ev_data (e := (e2 eI (eT (e2 eI eI)))) (ev_tupS (fun x => (x.1, x.2.1)) (e2 eI (eT (e2 eI eI))) (es_f (ev_f (e := eI) (u1.1) rfl) (es_f (ev_opF (ev_f (e := (eT (e2 eI eI))) (u1.2) rfl) (ev_slT (ev_f (e := (eT (e2 eI eI))) (u1.2) rfl) (eo_some (ev_un ev_int (fun _ => u_neg _))) eo_none) (fun _ _ => o_catT _ _)) es_nil)) (fun _ => (AllF.cons (AllF.cons AllF.nil))) (fun _ => rfl) (fun _ => rfl))) (es_f (ev_data (e := (e2 eI (e1 (e2 eI eI)))) (ev_tupS (fun x => (x.1, x.2.1)) (e2 eI (e1 (e2 eI eI))) (es_f (ev_f (e := eI) (u1.1) rfl) (es_f (ev_tupS (fun x => (x.1)) (e1 (e2 eI eI)) (es_f (ev_tupS (fun x => (x.1, x.2.1)) (e2 eI eI) (es_f ev_int (es_f ev_int es_nil)) (fun _ => (AllF.cons (AllF.cons AllF.nil))) (fun _ => rfl) (fun _ => rfl)) es_nil) (fun _ => (AllF.cons AllF.nil)) (fun _ => rfl) (fun _ => rfl)) es_nil)) (fun _ => (AllF.cons (AllF.cons AllF.nil))) (fun _ => rfl) (fun _ => rfl))) (es_f (ev_data (e := (e2 eI (eT (e2 eI eI)))) (ev_tupS (fun x => (x.1, x.2.1)) (e2 eI (eT (e2 eI eI))) (es_f (ev_f (e := eI) (u1.1) rfl) (es_f (ev_opF (ev_f (e := (eT (e2 eI eI))) (u1.2) rfl) (ev_tupS (fun x => [x.1]) (eT (e2 eI eI)) (es_f (ev_tupS (fun x => (x.1, x.2.1)) (e2 eI eI) (es_f ev_int (es_f ev_int es_nil)) (fun _ => (AllF.cons (AllF.cons AllF.nil))) (fun _ => rfl) (fun _ => rfl)) es_nil) (fun _ => (AllF.cons AllF.nil)) (fun _ => rfl) (fun _ => rfl)) (fun _ _ => o_catT _ _)) es_nil)) (fun _ => (AllF.cons (AllF.cons AllF.nil))) (fun _ => rfl) (fun _ => rfl))) (es_f (ev_data (e := (e2 eI (e1 (e2 eI eI)))) (ev_tupS (fun x => (x.1, x.2.1)) (e2 eI (e1 (e2 eI eI))) (es_f (ev_f (e := eI) (u1.1) rfl) (es_f (ev_tupS (fun x => (x.1)) (e1 (e2 eI eI)) (es_f (ev_tupS (fun x => (x.1, x.2.1)) (e2 eI eI) (es_f (ev_un ev_int (fun _ => u_neg _)) (es_f ev_int es_nil)) (fun _ => (AllF.cons (AllF.cons AllF.nil))) (fun _ => rfl) (fun _ => rfl)) es_nil) (fun _ => (AllF.cons AllF.nil)) (fun _ => rfl) (fun _ => rfl)) es_nil)) (fun _ => (AllF.cons (AllF.cons AllF.nil))) (fun _ => rfl) (fun _ => rfl))) (es_f (ev_data (e := (e2 eI (eT (e2 eI eI)))) (ev_tupS (fun x => (x.1, x.2.1)) (e2 eI (eT (e2 eI eI))) (es_f (ev_f (e := eI) (u1.1) rfl) (es_f (ev_opF (ev_f (e := (eT (e2 eI eI))) (u1.2) rfl) (ev_tupS (fun x => [x.1]) (eT (e2 eI eI)) (es_f (ev_tupS (fun x => (x.1, x.2.1)) (e2 eI eI) (es_f (ev_opF (ev_f (e := eI) (u1.1) rfl) ev_int (fun _ _ => o_sub _ _)) (es_f (ev_opF (ev_f (e := eI) (u1.1) rfl) ev_int (fun _ _ => o_sub _ _)) es_nil)) (fun _ => (AllF.cons (AllF.cons AllF.nil))) (fun _ => rfl) (fun _ => rfl)) es_nil) (fun _ => (AllF.cons AllF.nil)) (fun _ => rfl) (fun _ => rfl)) (fun _ _ => o_catT _ _)) es_nil)) (fun _ => (AllF.cons (AllF.cons AllF.nil))) (fun _ => rfl) (fun _ => rfl))) (es_f (ev_data (e := (e2 eB (eT (e2 eI eI)))) (ev_tupS (fun x => (x.1, x.2.1)) (e2 eB (eT (e2 eI eI))) (es_f ev_bl (es_f (ev_f (e := (eT (e2 eI eI))) (u1.2) rfl) es_nil)) (fun _ => (AllF.cons (AllF.cons AllF.nil))) (fun _ => rfl) (fun _ => rfl))) (es_f (ev_data (e := (e2 eI (e1 (e3 eI eI eI)))) (ev_tupS (fun x => (x.1, x.2.1)) (e2 eI (e1 (e3 eI eI eI))) (es_f (ev_f (e := eI) (u1.1) rfl) (es_f (ev_tupS (fun x => (x.1)) (e1 (e3 eI eI eI)) (es_f (ev_tupS (fun x => (x.1, x.2.1, x.2.2.1)) (e3 eI eI eI) (es_f ev_int (es_f ev_int (es_f ev_int es_nil))) (fun _ => (AllF.cons (AllF.cons (AllF.cons AllF.nil)))) (fun _ => rfl) (fun _ => rfl)) es_nil) (fun _ => (AllF.cons AllF.nil)) (fun _ => rfl) (fun _ => rfl)) es_nil)) (fun _ => (AllF.cons (AllF.cons AllF.nil))) (fun _ => rfl) (fun _ => rfl))) (es_f (ev_data (e := (e2 eI (e1 eS))) (ev_tupS (fun x => (x.1, x.2.1)) (e2 eI (e1 eS)) (es_f (ev_f (e := eI) (u1.1) rfl) (es_f (ev_tupS (fun x => (x.1)) (e1 eS) (es_f ev_str es_nil) (fun _ => (AllF.cons AllF.nil)) (fun _ => rfl) (fun _ => rfl)) es_nil)) (fun _ => (AllF.cons (AllF.cons AllF.nil))) (fun _ => rfl) (fun _ => rfl))) (es_f (ev_data (e := eS) ev_str) (es_f (ev_data (e := eI) (ev_f (e := eI) k_2 rfl)) (es_f (ev_data (e := e0) (ev_tupS (fun x => ()) e0 es_nil (fun _ => AllF.nil) (fun _ => rfl) (fun _ => rfl))) (es_f (ev_data (e := (e2 eI (e2 eI eI))) (ev_tupS (fun x => (x.1, x.2.1)) (e2 eI (e2 eI eI)) (es_f (ev_f (e := eI) (u1.1) rfl) (es_f (ev_tupS (fun x => (x.1, x.2.1)) (e2 eI eI) (es_f ev_int (es_f ev_int es_nil)) (fun _ => (AllF.cons (AllF.cons AllF.nil))) (fun _ => rfl) (fun _ => rfl)) es_nil)) (fun _ => (AllF.cons (AllF.cons AllF.nil))) (fun _ => rfl) (fun _ => rfl))) (es_f (ev_data (e := (e2 eS (eT (e2 eI eI)))) (ev_tupS (fun x => (x.1, x.2.1)) (e2 eS (eT (e2 eI eI))) (es_f ev_str (es_f (ev_f (e := (eT (e2 eI eI))) (u1.2) rfl) es_nil)) (fun _ => (AllF.cons (AllF.cons AllF.nil))) (fun _ => rfl) (fun _ => rfl))) (es_f (ev_data (e := (e2 eI (e1 (e2 eI eB)))) (ev_tupS (fun x => (x.1, x.2.1)) (e2 eI (e1 (e2 eI eB))) (es_f (ev_f (e := eI) (u1.1) rfl) (es_f (ev_tupS (fun x => (x.1)) (e1 (e2 eI eB)) (es_f (ev_tupS (fun x => (x.1, x.2.1)) (e2 eI eB) (es_f ev_int (es_f ev_bl es_nil)) (fun _ => (AllF.cons (AllF.cons AllF.nil))) (fun _ => rfl) (fun _ => rfl)) es_nil) (fun _ => (AllF.cons AllF.nil)) (fun _ => rfl) (fun _ => rfl)) es_nil)) (fun _ => (AllF.cons (AllF.cons AllF.nil))) (fun _ => rfl) (fun _ => rfl))) es_nil))))))))))))))))))))) (fun _ => (AllF.cons (AllF.cons (AllF.cons (AllF.cons (AllF.cons (AllF.cons (AllF.cons (AllF.cons (AllF.cons (AllF.cons (AllF.cons (AllF.cons (AllF.cons (AllF.cons (AllF.cons (AllF.cons (AllF.cons (AllF.cons (AllF.cons (AllF.cons (AllF.cons AllF.nil)))))))))))))))))))))) (fun _ => rfl) (fun _ => rfl))) (ev_callS eI (es_t (ev_t (S := tape1) rfl) (es_f ev_int es_nil)) (fun _ => rfl)) (fun _ _ => o_ixL _ _)) (by simp only [ret_bnd, bnd_bnd, mapW_bnd, mapW_ret] <;> rfl)) (fun _ => rfl))))))))))

end
end Cf
namespace Cf
open PySem PySem.Spec PyProof.Rows L2 WL
section
variable {P : Program} {w : World} {K : PySem.W.Frag} {mg : Str → Option Value} {base : Heap}
set_option maxHeartbeats 4000000
theorem ok_l_group_links (T : Tx K mg) : FnOk P w K mg base CX0 1 T.f_l_group_links T.d_l_group_links ["_law_count", "_law_size"] (spN K (fun x : Int × Int × Unit => [.d (eI x.1), .d (eI x.2.1)]) (fun x => l_group_links x.1 x.2.1) (fun r : (List (Int × Int)) => .fz ((eT (e2 eI eI)) r))) := by
  have S := sc_l_group_links
  refine fn_n (N := nn_l_group_links) T.F_l_group_links S (fun _ => rfl) (fun cdv A outer s H E hr => ?_)
  refine ⟨_, (pss_cons (ps_set (i := 2) S.nd rfl (by first | exact .inl rfl | exact .inr rfl) (pe_lst pa_nil))
      (pss_cons (ps_for PassesOwn.never rfl (pi_range1 (by rfl) T.z_range (pa_cons (pe_op op_mul (pv 0) (pv 1)) pa_nil)) (pg_name (i := 3) S.nd rfl (by first | exact .inl rfl | exact .inr rfl)) (pss_one (ps_for PassesOwn.never rfl (pi_range2 (by rfl) T.z_range (pa_cons (pe_op op_add (pv 3) pe_int) (pa_cons (pe_op op_mul (pv 0) (pv 1)) pa_nil))) (pg_name (i := 4) S.nd rfl (by first | exact .inl rfl | exact .inr rfl)) (pss_cons (ps_set (i := 5) S.nd rfl (by first | exact .inl rfl | exact .inr rfl) (pe_op op_fdivN (pv 3) (pv 1)))
      (pss_cons (ps_set (i := 6) S.nd rfl (by first | exact .inl rfl | exact .inr rfl) (pe_op op_fdivN (pv 4) (pv 1)))
      (pss_cons (ps_set (i := 7) S.nd rfl (by first | exact .inl rfl | exact .inr rfl) (pe_cmpR op_eq (pv 5) (pv 6) (nomark _)))
      (pss_cons (ps_set (i := 8) S.nd rfl (by first | exact .inl rfl | exact .inr rfl) (pe_and (pe_cmpR op_lt (pv 5) (pv 6) (nomark _)) (pe_and (pe_cmpR op_eq (pe_op op_sub (pv 3) (pe_op op_mul (pv 5) (pv 1))) (pe_op op_modN (pe_op op_sub (pv 6) pe_int) (pv 1)) (nomark _)) (pe_one (pe_cmpR op_eq (pe_op op_sub (pv 4) (pe_op op_mul (pv 6) (pv 1))) (pe_op op_modN (pv 5) (pv 1)) (nomark _))))))
      (pss_one (ps_if (PW.pt (pw_or (pt_val (pv 7)) (pw_or1 (pt_val (pv 8))))) (pss_one (ps_expr (pe_bm PySem.F.plainAttrs_list PySem.F.slot_list_append PySem.F.type_list_append mt_append (pv 2) (pa_cons (pe_tup (pa_cons (pv 3) (pa_cons (pv 4) pa_nil))) pa_nil)))) pss_nil)))))))))
      (pss_one (ps_ret (pe_callTy (call_tupK (K := K) rfl) (by rfl) T.z_tuple (by decide +kernel) (pa_cons (pv 2) pa_nil)))))), ?_⟩
  rintro ⟨count, size, _⟩
  show SimB _ _ _ _ _ _ [.sl (fz K (eI count)), .sl (fz K (eI size)), .un, .un, .un, .un, .un, .un, .un] (l_group_links count size)
  unfold l_group_links
  exact (sb_seq (sb_setN (S := fun r => ls K (List.map (e2 eI eI) r)) (EvG.is (w' := (ret ([] : List (Int × Int)))) (ev_lstS (fun _ => ([] : List (Int × Int))) (e2 eI eI) es_nil (fun _ => AllF.nil) (fun _ => rfl) (fun _ => rfl)) rfl) (ltb rfl) (fun links_1 => (la_in (sb_seq (sb_for (S := ((List (Int × Int)))) (e := eI) (Γh := fun s4 => [.sl (fz K (eI count)), .sl (fz K (eI size)), .sl (ls K (List.map (e2 eI eI) s4)), .un, .un, .un, .un, .un, .un]) links_1 (ItG.is (w' := (bnd (grd (CMul count size) (ret (count * size))) fun x2 => grd (Rng x2) (ret (span 0 (x2).toNat)))) (it_range1 (ev_opF (ev_f (e := eI) count rfl) (ev_f (e := eI) size rfl) (fun _ _ => o_mul _ _))) rfl) (fun _ h => nomatch h) (wk_mask [true, true, true, true, true, true, true, true, true] _) (fun x3 s4 => (tg_name (ltb rfl))) (fun x3 s4 kc5 => (sb_for (S := ((List (Int × Int)))) (e := eI) (Γh := fun s9 => [.sl (fz K (eI count)), .sl (fz K (eI size)), .sl (ls K (List.map (e2 eI eI) s9)), .sl (fz K (eI x3)), .un, .un, .un, .un, .un]) s4 (ItG.is (w' := (bnd (grd (CMul count size) (ret (count * size))) fun x7 => grd (Rng (x3 + (1 : Int)) ∧ Rng x7) (ret (span (x3 + (1 : Int)) (x7 - (x3 + (1 : Int))).toNat)))) (it_range2 (ev_opF (ev_f (e := eI) x3 rfl) ev_int (fun _ _ => o_add _ _)) (ev_opF (ev_f (e := eI) count rfl) (ev_f (e := eI) size rfl) (fun _ _ => o_mul _ _))) rfl) (fun _ h => nomatch h) (wk_mask [true, true, true, true, true, true, true, true, true] _) (fun x8 s9 => (tg_name (ltb rfl))) (fun x8 s9 kc10 => (sb_seq (sb_set (e := eI) (EvG.is (w' := (grd (CDivN x3 size) (ret (Int.fdiv x3 size)))) (ev_opF (ev_f (e := eI) x3 rfl) (ev_f (e := eI) size rfl) (fun _ _ => o_fdiv _ _)) rfl) (ltb rfl) (fun h_12 => (la_in (sb_seq (sb_set (e := eI) (EvG.is (w' := (grd (CDivN x8 size) (ret (Int.fdiv x8 size)))) (ev_opF (ev_f (e := eI) x8 rfl) (ev_f (e := eI) size rfl) (fun _ _ => o_fdiv _ _)) rfl) (ltb rfl) (fun i_13 => (la_in (sb_seq (sb_set (e := eB) (EvG.is (w' := (ret (decide (h_12 = i_13)))) (ev_opF (ev_f (e := eI) h_12 rfl) (ev_f (e := eI) i_13 rfl) (fun _ _ => o_eqI _ _)) rfl) (ltb rfl) (fun inside_14 => (la_in (sb_seq (sb_set (e := eB) (EvG.is (w' := (sel (decide (h_12 < i_13)) (bnd (bnd (bnd (grd (CMul h_12 size) (ret (h_12 * size))) fun x15 => ret (x3 - x15)) fun x16 => bnd (grd (size ≠ 0) (ret (Int.fmod (i_13 - (1 : Int)) size))) fun x17 => ret (decide (x16 = x17))) fun x21 => sel x21 (bnd (bnd (grd (CMul i_13 size) (ret (i_13 * size))) fun x18 => ret (x8 - x18)) fun x19 => bnd (grd (size ≠ 0) (ret (Int.fmod h_12 size))) fun x20 => ret (decide (x19 = x20))) (ret false)) (ret false))) (ev_andV (ev_opF (ev_f (e := eI) h_12 rfl) (ev_f (e := eI) i_13 rfl) (fun _ _ => o_lt _ _)) (ev_andV (ev_opF (ev_opF (ev_f (e := eI) x3 rfl) (ev_opF (ev_f (e := eI) h_12 rfl) (ev_f (e := eI) size rfl) (fun _ _ => o_mul _ _)) (fun _ _ => o_sub _ _)) (ev_opF (ev_opF (ev_f (e := eI) i_13 rfl) ev_int (fun _ _ => o_sub _ _)) (ev_f (e := eI) size rfl) (fun _ _ => o_mod _ _)) (fun _ _ => o_eqI _ _)) (ev_opF (ev_opF (ev_f (e := eI) x8 rfl) (ev_opF (ev_f (e := eI) i_13 rfl) (ev_f (e := eI) size rfl) (fun _ _ => o_mul _ _)) (fun _ _ => o_sub _ _)) (ev_opF (ev_f (e := eI) h_12 rfl) (ev_f (e := eI) size rfl) (fun _ _ => o_mod _ _)) (fun _ _ => o_eqI _ _)))) (by simp only [ret_bnd, bnd_bnd, mapW_bnd, mapW_ret] <;> rfl)) (ltb rfl) (fun between_22 => (la_in (sb_if (EvT.is (w' := (sel inside_14 (ret true) (ret between_22))) (et_or (et_B (ev_f (e := eB) inside_14 rfl)) (et_B (ev_f (e := eB) between_22 rfl))) rfl) (sb_appendK (e := (e2 eI eI)) (xs := s9) rfl (EvG.is (w' := (ret (x3, x8))) (ev_tupS (fun x => (x.1, x.2.1)) (e2 eI eI) (es_f (ev_f (e := eI) x3 rfl) (es_f (ev_f (e := eI) x8 rfl) es_nil)) (fun _ => (AllF.cons (AllF.cons AllF.nil))) (fun _ => rfl) (fun _ => rfl)) rfl) (fun s24 => (Lands.wk (la_at s24) (wk_mask [true, true, true, true, false, false, false, false, false] _)))) (sb_next (Lands.wk (la_at s9) (wk_mask [true, true, true, true, false, false, false, false, false] _))))))))))))))))))))) (fun s9 => (Lands.wk (la_at s9) (wk_mask [true, true, true, false, true, true, true, true, true] _))))) (fun s4 => (la_in (sb_retF (EvG.is (w' := (ret s4)) (ev_b1L (ev_l (e := (e2 eI eI)) s4 rfl) (fun _ => c_tupL _)) rfl) (fun _ => rfl))))))))))

end
end Cf
namespace Cf
open PySem PySem.Spec PyProof.Rows L2 WL
section
variable {P : Program} {w : World} {K : PySem.W.Frag} {mg : Str → Option Value} {base : Heap}
set_option maxHeartbeats 4000000
theorem ok_l_due20 (T : Tx K mg) : FnOk P w K mg base CX0 2 T.f_l_due20 T.d_l_due20 ["_law_word", "_law_first", "_law_second"] (spN K (fun x : Str × PyData × Int × Unit => [.d (eS x.1), .d (eD x.2.1), .d (eI x.2.2.1)]) (fun x => l_due20 x.1 x.2.1 x.2.2.1) (fun r : PyData => .fz (eD r))) := by
  have S := sc_l_due20
  refine fn_n (N := nn_l_due20) T.F_l_due20 S (fun _ => rfl) (fun cdv A outer s H E hr => ?_)
  refine ⟨_, (pss_cons (ps_set (i := 3) S.nd rfl (by first | exact .inl rfl | exact .inr rfl) (pe_tup (pa_cons pe_str (pa_cons pe_bl pa_nil))))
      (pss_cons (ps_if (pt_cmpR op_eq (pv 0) pe_str (nomark _)) (pss_cons (ps_if (PW.pt (pw_or (pt_not (pt_chain op_le op_le pe_int (pe_callB (call_lenK (K := K) rfl) (by rfl) T.z_len (by decide +kernel) (pa_cons (pv 1) pa_nil)) pe_int)) (pw_or1 (pt_val (pe_callB (cr_anyK (K := K) rfl rfl) (by rfl) T.z_any (by decide +kernel) (pa_cons (pe_lc (own := [("_law_at", 8)]) rfl S.nd (pi_range1 (by rfl) T.z_range (pa_cons (pe_callB (call_lenK (K := K) rfl) (by rfl) T.z_len (by decide +kernel) (pa_cons (pv 1) pa_nil)) pa_nil)) (blkOk_by (N := nn_l_due20) (sc := (defScope s_l_due20)) (own := [("_law_at", 8)]) (by decide +kernel)) (fun _ _ _ _ _ => (pg_name (i := 8) S.nd rfl (by first | exact .inl rfl | exact .inr rfl))) (fun _ _ _ _ _ => pts_nil) (fun _ _ _ _ _ => (pe_not (pe_chain op_le op_le pe_int (pe_ix (ix_tupK (K := K) rfl) (pv 1) (pv 8) (fun _ _ => rfl)) (pv 8))))) pa_nil)))))) (pss_one (ps_ret (pv 3))) pss_nil)
      (pss_one (ps_ret (pe_tup (pa_cons (pe_op op_add (pe_callB (call_lenK (K := K) rfl) (by rfl) T.z_len (by decide +kernel) (pa_cons (pv 1) pa_nil)) pe_int) (pa_cons (pe_callTy (call_tupK (K := K) rfl) (by rfl) T.z_tuple (by decide +kernel) (pa_cons (pe_callB (cr_sortDK (K := K) rfl hr.units) (by rfl) T.z_sorted (by decide +kernel) (pa_cons (pe_lc (own := [("_law_at", 8)]) rfl S.nd (pi_range1 (by rfl) T.z_range (pa_cons (pe_callB (call_lenK (K := K) rfl) (by rfl) T.z_len (by decide +kernel) (pa_cons (pv 1) pa_nil)) pa_nil)) (blkOk_by (N := nn_l_due20) (sc := (defScope s_l_due20)) (own := [("_law_at", 8)]) (by decide +kernel)) (fun _ _ _ _ _ => (pg_name (i := 8) S.nd rfl (by first | exact .inl rfl | exact .inr rfl))) (fun _ _ _ _ _ => pts_nil) (fun _ _ _ _ _ => (pe_tup (pa_cons (pe_ix (ix_tupK (K := K) rfl) (pv 1) (pv 8) (fun _ _ => rfl)) (pa_cons (pe_op op_add (pv 8) pe_int) pa_nil))))) pa_nil)) pa_nil)) pa_nil)))))) pss_nil)
      (pss_cons (ps_if (pt_cmpR op_eq (pv 0) pe_str (nomark _)) (pss_cons (ps_if (PW.pt (pw_or (pt_cmpR op_lt (pv 1) pe_int (nomark _)) (pw_or (pt_cmpR op_lt (pv 2) pe_int (nomark _)) (pw_or1 (pt_cmpR op_gt (pe_op op_mul (pv 1) (pv 2)) pe_int (nomark _)))))) (pss_one (ps_ret (pv 3))) pss_nil)
      (pss_cons (ps_set (i := 4) S.nd rfl (by first | exact .inl rfl | exact .inr rfl) (pe_call (ok_l_group_links T) (hr.mono (by decide)) (by rfl) T.g_l_group_links T.F_l_group_links.kp T.b_l_group_links .nil pass0 (pa_cons (pv 1) (pa_cons (pv 2) pa_nil))))
      (pss_one (ps_ret (pe_ifExp (pt_cmpR op_le (pe_callB (call_lenK (K := K) rfl) (by rfl) T.z_len (by decide +kernel) (pa_cons (pv 4) pa_nil)) pe_int (nomark _)) (pe_tup (pa_cons (pe_op op_mul (pv 1) (pv 2)) (pa_cons (pv 4) pa_nil))) (pv 3)))))) pss_nil)
      (pss_cons (ps_if (PW.pt (pw_or (pt_cmpR op_lt (pv 1) (pe_ifExp (pt_cmpR op_eq (pv 0) pe_str (nomark _)) pe_int pe_int) (nomark _)) (pw_or1 (pt_cmpR op_gt (pv 1) pe_int (nomark _))))) (pss_one (ps_ret (pv 3))) pss_nil)
      (pss_cons (ps_set (i := 4) S.nd rfl (by first | exact .inl rfl | exact .inr rfl) (pe_lst pa_nil))
      (pss_cons (ps_for PassesOwn.never rfl (pi_range1 (by rfl) T.z_range (pa_cons (pv 1) pa_nil)) (pg_name (i := 5) S.nd rfl (by first | exact .inl rfl | exact .inr rfl)) (pss_one (ps_for PassesOwn.never rfl (pi_range2 (by rfl) T.z_range (pa_cons (pe_op op_add (pv 5) pe_int) (pa_cons (pv 1) pa_nil))) (pg_name (i := 6) S.nd rfl (by first | exact .inl rfl | exact .inr rfl)) (pss_cons (ps_set (i := 7) S.nd rfl (by first | exact .inl rfl | exact .inr rfl) (pe_cmpR op_eq (pv 6) (pe_op op_add (pv 5) pe_int) (nomark _)))
      (pss_one (ps_if (PW.pt (pw_or (pt_cmpR op_eq (pv 0) pe_str (nomark _)) (pw_or (PW.pt (pw_and (pt_cmpR op_eq (pv 0) pe_str (nomark _)) (pw_and1 (pt_cmpR op_eq (pv 5) pe_int (nomark _))))) (pw_or (PW.pt (pw_and (pt_cmpR (op_inTDK (K := K) rfl (units65 hr)) (pv 0) (pe_tup (pa_cons pe_str (pa_cons pe_str pa_nil))) (by rfl)) (pw_and1 (pt_val (pv 7))))) (pw_or1 (PW.pt (pw_and (pt_cmpR op_eq (pv 0) pe_str (nomark _)) (pw_and1 (pt_cmpR (op_eqDK (K := K) rfl hr.units) (pe_tup (pa_cons (pv 5) (pa_cons (pv 6) pa_nil))) (pe_tup (pa_cons pe_int (pa_cons (pe_op op_sub (pv 1) pe_int) pa_nil))) (nomark _)))))))))) (pss_one (ps_expr (pe_bm PySem.F.plainAttrs_list PySem.F.slot_list_append PySem.F.type_list_append mt_append (pv 4) (pa_cons (pe_tup (pa_cons (pv 5) (pa_cons (pv 6) pa_nil))) pa_nil)))) pss_nil))))))
      (pss_one (ps_ret (pe_ifExp (pt_cmpR op_le (pe_callB (call_lenK (K := K) rfl) (by rfl) T.z_len (by decide +kernel) (pa_cons (pv 4) pa_nil)) pe_int (nomark _)) (pe_tup (pa_cons (pv 1) (pa_cons (pe_callTy (call_tupK (K := K) rfl) (by rfl) T.z_tuple (by decide +kernel) (pa_cons (pv 4) pa_nil)) pa_nil))) (pv 3)))))))))), ?_⟩
  rintro ⟨word, first, second, _⟩
  show SimB _ _ _ _ _ _ [.sl (fz K (eS word)), .sl (fz K (eD first)), .sl (fz K (eI second)), .un, .un, .un, .un, .un, .un] (l_due20 word first second)
  unfold l_due20
  exact (sb_seq (sb_set (e := (e2 eS eB)) (EvG.is (w' := (ret (("refused" : Str), true))) (ev_tupS (fun x => (x.1, x.2.1)) (e2 eS eB) (es_f ev_str (es_f ev_bl es_nil)) (fun _ => (AllF.cons (AllF.cons AllF.nil))) (fun _ => rfl) (fun _ => rfl)) rfl) (ltb rfl) (fun refused_1 => (la_in (sb_seq (sb_if (EvT.is (w' := (ret (decide (word = ("tree" : Str))))) (et_test (ev_opF (ev_f (e := eS) word rfl) ev_str (fun _ _ => o_eqS _ _))) rfl) (sb_seq (sb_if (EvT.is (w' := (bnd (bnd (bnd (bnd (opt (asT first)) fun x3 => ret (x3.length : Int)) fun x4 => sel (decide ((1 : Int) ≤ x4)) (ret (decide (x4 ≤ (63 : Int)))) (ret false)) fun x5 => ret (!x5)) fun x15 => sel x15 (ret true) (bnd (bnd (bnd (bnd (opt (asT first)) fun x6 => ret (x6.length : Int)) fun x7 => grd (Rng x7) (ret (span 0 (x7).toNat))) fun l13 => lcG (fun c8 => (ret true)) (fun c8 => (bnd (bnd (bnd (bnd (opt (asT first)) fun x9 => opt (atI x9 c8)) fun x10 => opt (asI x10)) fun x11 => sel (decide ((0 : Int) ≤ x11)) (ret (decide (x11 ≤ c8))) (ret false)) fun x12 => ret (!x12))) l13) fun x14 => ret (List.any x14 id)))) (et_or (et_not (et_test (ev_chainI ev_int (ev_b1F (ev_as (f := asT) (e := (eT eD)) (ev_f (e := eD) first rfl) as_T) (fun _ => c_lenT _)) ev_int (fun _ _ => o_le _ _) (fun _ _ => o_le _ _)))) (et_B (ev_b1L (EvG.rl (ev_lc (e := eI) (c := fun c8 => (ret true)) (f := fun c8 => (bnd (bnd (bnd (bnd (opt (asT first)) fun x9 => opt (atI x9 c8)) fun x10 => opt (asI x10)) fun x11 => sel (decide ((0 : Int) ≤ x11)) (ret (decide (x11 ≤ c8))) (ret false)) fun x12 => ret (!x12))) (ItG.is (w' := (bnd (bnd (opt (asT first)) fun x6 => ret (x6.length : Int)) fun x7 => grd (Rng x7) (ret (span 0 (x7).toNat)))) (it_range1 (ev_b1F (ev_as (f := asT) (e := (eT eD)) (ev_f (e := eD) first rfl) as_T) (fun _ => c_lenT _))) rfl) (fun c8 => (tg_name (ltb rfl))) (fun c8 => (EvT.is (w' := (ret true)) et_yes rfl)) (fun c8 => (EvG.is (w' := (bnd (bnd (bnd (bnd (opt (asT first)) fun x9 => opt (atI x9 c8)) fun x10 => opt (asI x10)) fun x11 => sel (decide ((0 : Int) ≤ x11)) (ret (decide (x11 ≤ c8))) (ret false)) fun x12 => ret (!x12))) (ev_notV (ev_chainI ev_int (ev_as (f := asI) (e := eI) (ev_opF (ev_as (f := asT) (e := (eT eD)) (ev_f (e := eD) first rfl) as_T) (ev_f (e := eI) c8 rfl) (fun _ _ => o_ixT _ _)) as_I) (ev_f (e := eI) c8 rfl) (fun _ _ => o_le _ _) (fun _ _ => o_le _ _))) (by simp only [ret_bnd, bnd_bnd, mapW_bnd, mapW_ret] <;> rfl))))) (fun _ => c_any _)))) (by simp only [ret_bnd, bnd_bnd, mapW_bnd, mapW_ret] <;> rfl)) (sb_retF (EvG.is (w' := (ret ((e2 eS eB) refused_1))) (ev_data (e := (e2 eS eB)) (ev_f (e := (e2 eS eB)) refused_1 rfl)) rfl) (fun _ => rfl)) (sb_next (la_in (sb_retF (EvG.is (w' := (bnd (bnd (bnd (bnd (opt (asT first)) fun x17 => ret (x17.length : Int)) fun x18 => ret (x18 + (1 : Int))) fun x27 => bnd (bnd (bnd (bnd (bnd (opt (asT first)) fun x19 => ret (x19.length : Int)) fun x20 => grd (Rng x20) (ret (span 0 (x20).toNat))) fun l25 => lcG (fun c21 => (ret true)) (fun c21 => (bnd (bnd (bnd (opt (asT first)) fun x22 => opt (atI x22 c21)) fun x23 => opt (asI x23)) fun x24 => ret (x24, (c21 + (1 : Int))))) l25) fun x26 => sortW (e2 eI eI) x26) fun x28 => ret (x27, x28)) fun y => ret ((e2 eI (eT (e2 eI eI))) y))) (ev_data (e := (e2 eI (eT (e2 eI eI)))) (ev_tupS (fun x => (x.1, x.2.1)) (e2 eI (eT (e2 eI eI))) (es_f (ev_opF (ev_b1F (ev_as (f := asT) (e := (eT eD)) (ev_f (e := eD) first rfl) as_T) (fun _ => c_lenT _)) ev_int (fun _ _ => o_add _ _)) (es_f (ev_b1L (EvG.rl (ev_b1L (EvG.rl (ev_lc (e := eI) (c := fun c21 => (ret true)) (f := fun c21 => (bnd (bnd (bnd (opt (asT first)) fun x22 => opt (atI x22 c21)) fun x23 => opt (asI x23)) fun x24 => ret (x24, (c21 + (1 : Int))))) (ItG.is (w' := (bnd (bnd (opt (asT first)) fun x19 => ret (x19.length : Int)) fun x20 => grd (Rng x20) (ret (span 0 (x20).toNat)))) (it_range1 (ev_b1F (ev_as (f := asT) (e := (eT eD)) (ev_f (e := eD) first rfl) as_T) (fun _ => c_lenT _))) rfl) (fun c21 => (tg_name (ltb rfl))) (fun c21 => (EvT.is (w' := (ret true)) et_yes rfl)) (fun c21 => (EvG.is (w' := (bnd (bnd (bnd (opt (asT first)) fun x22 => opt (atI x22 c21)) fun x23 => opt (asI x23)) fun x24 => ret (x24, (c21 + (1 : Int))))) (ev_tupS (fun x => (x.1, x.2.1)) (e2 eI eI) (es_f (ev_as (f := asI) (e := eI) (ev_opF (ev_as (f := asT) (e := (eT eD)) (ev_f (e := eD) first rfl) as_T) (ev_f (e := eI) c21 rfl) (fun _ _ => o_ixT _ _)) as_I) (es_f (ev_opF (ev_f (e := eI) c21 rfl) ev_int (fun _ _ => o_add _ _)) es_nil)) (fun _ => (AllF.cons (AllF.cons AllF.nil))) (fun _ => rfl) (fun _ => rfl)) (by simp only [ret_bnd, bnd_bnd, mapW_bnd, mapW_ret] <;> rfl))))) (fun _ => c_sortD _))) (fun _ => c_tupL _)) es_nil)) (fun _ => (AllF.cons (AllF.cons AllF.nil))) (fun _ => rfl) (fun _ => rfl))) (by simp only [ret_bnd, bnd_bnd, mapW_bnd, mapW_ret] <;> rfl)) (fun _ => rfl)))))) (sb_next (la_in (sb_seq (sb_if (EvT.is (w' := (ret (decide (word = ("groups" : Str))))) (et_test (ev_opF (ev_f (e := eS) word rfl) ev_str (fun _ _ => o_eqS _ _))) rfl) (sb_seq (sb_if (EvT.is (w' := (bnd (bnd (opt (asI first)) fun x30 => ret (decide (x30 < (2 : Int)))) fun x33 => sel x33 (ret true) (sel (decide (second < (1 : Int))) (ret true) (bnd (bnd (opt (asI first)) fun x31 => grd (CMul x31 second) (ret (x31 * second))) fun x32 => ret (decide ((64 : Int) < x32)))))) (et_or (et_test (ev_opF (ev_as (f := asI) (e := eI) (ev_f (e := eD) first rfl) as_I) ev_int (fun _ _ => o_lt _ _))) (et_or (et_test (ev_opF (ev_f (e := eI) second rfl) ev_int (fun _ _ => o_lt _ _))) (et_test (ev_opF (ev_opF (ev_as (f := asI) (e := eI) (ev_f (e := eD) first rfl) as_I) (ev_f (e := eI) second rfl) (fun _ _ => o_mul _ _)) ev_int (fun _ _ => o_gt _ _))))) (by simp only [ret_bnd, bnd_bnd, mapW_bnd, mapW_ret] <;> rfl)) (sb_retF (EvG.is (w' := (ret ((e2 eS eB) refused_1))) (ev_data (e := (e2 eS eB)) (ev_f (e := (e2 eS eB)) refused_1 rfl)) rfl) (fun _ => rfl)) (sb_next (la_in (sb_seq (sb_set (e := (eT (e2 eI eI))) (EvG.is (w' := (bnd (opt (asI first)) fun x35 => noX (l_group_links x35 second))) (ev_callS (eT (e2 eI eI)) (es_f (ev_as (f := asI) (e := eI) (ev_f (e := eD) first rfl) as_I) (es_f (ev_f (e := eI) second rfl) es_nil)) (fun _ => rfl)) rfl) (ltb rfl) (fun links_36 => (la_in (sb_retF (EvG.is (w' := (sel (decide ((links_36.length : Int) ≤ (200 : Int))) (bnd (bnd (bnd (opt (asI first)) fun x37 => grd (CMul x37 second) (ret (x37 * second))) fun x38 => ret (x38, links_36)) fun y => ret ((e2 eI (eT (e2 eI eI))) y)) (ret ((e2 eS eB) refused_1)))) (ev_ifF (et_test (ev_opF (ev_b1F (ev_f (e := (eT (e2 eI eI))) links_36 rfl) (fun _ => c_lenT _)) ev_int (fun _ _ => o_le _ _))) (ev_data (e := (e2 eI (eT (e2 eI eI)))) (ev_tupS (fun x => (x.1, x.2.1)) (e2 eI (eT (e2 eI eI))) (es_f (ev_opF (ev_as (f := asI) (e := eI) (ev_f (e := eD) first rfl) as_I) (ev_f (e := eI) second rfl) (fun _ _ => o_mul _ _)) (es_f (ev_f (e := (eT (e2 eI eI))) links_36 rfl) es_nil)) (fun _ => (AllF.cons (AllF.cons AllF.nil))) (fun _ => rfl) (fun _ => rfl))) (ev_data (e := (e2 eS eB)) (ev_f (e := (e2 eS eB)) refused_1 rfl))) (by simp only [ret_bnd, bnd_bnd, mapW_bnd, mapW_ret] <;> rfl)) (fun _ => rfl)))))))))) (sb_next (la_in (sb_seq (sb_if (EvT.is (w' := (bnd (bnd (opt (asI first)) fun x39 => bnd (sel (decide (word = ("ring" : Str))) (ret (3 : Int)) (ret (2 : Int))) fun x40 => ret (decide (x39 < x40))) fun x42 => sel x42 (ret true) (bnd (opt (asI first)) fun x41 => ret (decide ((64 : Int) < x41))))) (et_or (et_test (ev_opF (ev_as (f := asI) (e := eI) (ev_f (e := eD) first rfl) as_I) (ev_ifF (et_test (ev_opF (ev_f (e := eS) word rfl) ev_str (fun _ _ => o_eqS _ _))) ev_int ev_int) (fun _ _ => o_lt _ _))) (et_test (ev_opF (ev_as (f := asI) (e := eI) (ev_f (e := eD) first rfl) as_I) ev_int (fun _ _ => o_gt _ _)))) (by simp only [ret_bnd, bnd_bnd, mapW_bnd, mapW_ret] <;> rfl)) (sb_retF (EvG.is (w' := (ret ((e2 eS eB) refused_1))) (ev_data (e := (e2 eS eB)) (ev_f (e := (e2 eS eB)) refused_1 rfl)) rfl) (fun _ => rfl)) (sb_next (la_in (sb_seq (sb_setN (S := fun r => ls K (List.map (e2 eI eI) r)) (EvG.is (w' := (ret ([] : List (Int × Int)))) (ev_lstS (fun _ => ([] : List (Int × Int))) (e2 eI eI) es_nil (fun _ => AllF.nil) (fun _ => rfl) (fun _ => rfl)) rfl) (ltb rfl) (fun links_44 => (la_in (sb_seq (sb_for (S := ((List (Int × Int)))) (e := eI) (Γh := fun s47 => [.sl (fz K (eS word)), .sl (fz K (eD first)), .sl (fz K (eI second)), .sl (fz K ((e2 eS eB) refused_1)), .sl (ls K (List.map (e2 eI eI) s47)), .un, .un, .un, .un]) links_44 (ItG.is (w' := (bnd (opt (asI first)) fun x45 => grd (Rng x45) (ret (span 0 (x45).toNat)))) (it_range1 (ev_as (f := asI) (e := eI) (ev_f (e := eD) first rfl) as_I)) rfl) (fun _ h => nomatch h) (wk_mask [true, true, true, true, true, true, true, true, true] _) (fun x46 s47 => (tg_name (ltb rfl))) (fun x46 s47 kc48 => (sb_for (S := ((List (Int × Int)))) (e := eI) (Γh := fun s52 => [.sl (fz K (eS word)), .sl (fz K (eD first)), .sl (fz K (eI second)), .sl (fz K ((e2 eS eB) refused_1)), .sl (ls K (List.map (e2 eI eI) s52)), .sl (fz K (eI x46)), .un, .un, .un]) s47 (ItG.is (w' := (bnd (opt (asI first)) fun x50 => grd (Rng (x46 + (1 : Int)) ∧ Rng x50) (ret (span (x46 + (1 : Int)) (x50 - (x46 + (1 : Int))).toNat)))) (it_range2 (ev_opF (ev_f (e := eI) x46 rfl) ev_int (fun _ _ => o_add _ _)) (ev_as (f := asI) (e := eI) (ev_f (e := eD) first rfl) as_I)) rfl) (fun _ h => nomatch h) (wk_mask [true, true, true, true, true, true, true, true, true] _) (fun x51 s52 => (tg_name (ltb rfl))) (fun x51 s52 kc53 => (sb_seq (sb_set (e := eB) (EvG.is (w' := (ret (decide (x51 = (x46 + (1 : Int)))))) (ev_opF (ev_f (e := eI) x51 rfl) (ev_opF (ev_f (e := eI) x46 rfl) ev_int (fun _ _ => o_add _ _)) (fun _ _ => o_eqI _ _)) rfl) (ltb rfl) (fun near_55 => (la_in (sb_if (EvT.is (w' := (sel (decide (word = ("complete" : Str))) (ret true) (bnd (sel (decide (word = ("star" : Str))) (ret (decide (x46 = (0 : Int)))) (ret false)) fun x61 => sel x61 (ret true) (bnd (bnd (inD (eS word) (List.map eS [("line" : Str), ("ring" : Str)])) fun x56 => sel x56 (ret near_55) (ret false)) fun x60 => sel x60 (ret true) (sel (decide (word = ("ring" : Str))) (bnd (bnd (bnd (opt (asI first)) fun x57 => ret (x57 - (1 : Int))) fun x58 => ret ((0 : Int), x58)) fun x59 => eqW ((e2 eI eI) (x46, x51)) ((e2 eI eI) x59)) (ret false)))))) (et_or (et_test (ev_opF (ev_f (e := eS) word rfl) ev_str (fun _ _ => o_eqS _ _))) (et_or (et_and (et_test (ev_opF (ev_f (e := eS) word rfl) ev_str (fun _ _ => o_eqS _ _))) (et_test (ev_opF (ev_f (e := eI) x46 rfl) ev_int (fun _ _ => o_eqI _ _)))) (et_or (et_and (et_test (ev_opF (ev_f (e := eS) word rfl) (ev_tupS (fun x => [x.1, x.2.1]) (eT eS) (es_f ev_str (es_f ev_str es_nil)) (fun _ => (AllF.cons (AllF.cons AllF.nil))) (fun _ => rfl) (fun _ => rfl)) (fun _ _ => o_inTD _ _))) (et_B (ev_f (e := eB) near_55 rfl))) (et_and (et_test (ev_opF (ev_f (e := eS) word rfl) ev_str (fun _ _ => o_eqS _ _))) (et_test (ev_opF (ev_tupS (fun x => (x.1, x.2.1)) (e2 eI eI) (es_f (ev_f (e := eI) x46 rfl) (es_f (ev_f (e := eI) x51 rfl) es_nil)) (fun _ => (AllF.cons (AllF.cons AllF.nil))) (fun _ => rfl) (fun _ => rfl)) (ev_tupS (fun x => (x.1, x.2.1)) (e2 eI eI) (es_f ev_int (es_f (ev_opF (ev_as (f := asI) (e := eI) (ev_f (e := eD) first rfl) as_I) ev_int (fun _ _ => o_sub _ _)) es_nil)) (fun _ => (AllF.cons (AllF.cons AllF.nil))) (fun _ => rfl) (fun _ => rfl)) (fun _ _ => o_eqDW _ _))))))) (by simp only [ret_bnd, bnd_bnd, mapW_bnd, mapW_ret] <;> rfl)) (sb_appendK (e := (e2 eI eI)) (xs := s52) rfl (EvG.is (w' := (ret (x46, x51))) (ev_tupS (fun x => (x.1, x.2.1)) (e2 eI eI) (es_f (ev_f (e := eI) x46 rfl) (es_f (ev_f (e := eI) x51 rfl) es_nil)) (fun _ => (AllF.cons (AllF.cons AllF.nil))) (fun _ => rfl) (fun _ => rfl)) rfl) (fun s63 => (Lands.wk (la_at s63) (wk_mask [true, true, true, true, true, true, false, false, true] _)))) (sb_next (Lands.wk (la_at s52) (wk_mask [true, true, true, true, true, true, false, false, true] _))))))))) (fun s52 => (Lands.wk (la_at s52) (wk_mask [true, true, true, true, true, false, true, true, true] _))))) (fun s47 => (la_in (sb_retF (EvG.is (w' := (sel (decide ((s47.length : Int) ≤ (200 : Int))) (ret ((e2 eD (eT (e2 eI eI))) (first, s47))) (ret ((e2 eS eB) refused_1)))) (ev_ifF (et_test (ev_opF (ev_b1L (ev_l (e := (e2 eI eI)) s47 rfl) (fun _ => c_lenL _)) ev_int (fun _ _ => o_le _ _))) (ev_data (e := (e2 eD (eT (e2 eI eI)))) (ev_tupS (fun x => (x.1, x.2.1)) (e2 eD (eT (e2 eI eI))) (es_f (ev_f (e := eD) first rfl) (es_f (ev_b1L (ev_l (e := (e2 eI eI)) s47 rfl) (fun _ => c_tupL _)) es_nil)) (fun _ => (AllF.cons (AllF.cons AllF.nil))) (fun _ => rfl) (fun _ => rfl))) (ev_data (e := (e2 eS eB)) (ev_f (e := (e2 eS eB)) refused_1 rfl))) rfl) (fun _ => rfl))))))))))))))))))))))))))

end
end Cf
namespace Cf
open PySem PySem.Spec PyProof.Rows L2 WL
section
variable {P : Program} {w : World} {K : PySem.W.Frag} {mg : Str → Option Value} {base : Heap}
set_option maxHeartbeats 4000000
theorem ok_l_parents (T : Tx K mg) : FnOk P w K mg base CX0 3 T.f_l_parents T.d_l_parents ["_law_tape_here"] (spN K (fun x : Unit × Unit => [.t tape1]) (fun x => l_parents) (fun r : (List Int) => .fz ((eT eI) r))) := by
  have S := sc_l_parents
  refine fn_n (N := nn_l_parents) T.F_l_parents S (fun _ => rfl) (fun cdv A outer s H E hr => ?_)
  refine ⟨_, (pss_cons (ps_set (i := 1) S.nd rfl (by first | exact .inl rfl | exact .inr rfl) (pe_lst pa_nil))
      (pss_cons (ps_for PassesOwn.never rfl (pi_range1 (by rfl) T.z_range (pa_cons (pe_ix (ix_listK (K := K) rfl) (pe_lst (pa_cons (pe_call (ok_l_take T) (hr.mono (by decide)) (by rfl) T.g_l_take T.F_l_take.kp T.b_l_take .nil pass0 (pa_cons (pv 0) (pa_cons pe_int pa_nil))) (pa_cons (pe_call (ok_l_take T) (hr.mono (by decide)) (by rfl) T.g_l_take T.F_l_take.kp T.b_l_take .nil pass0 (pa_cons (pv 0) (pa_cons pe_int pa_nil))) pa_nil))) (pe_callTy call_int1 (by rfl) T.z_int (by decide +kernel) (pa_cons (pe_cmpR op_eq (pe_call (ok_l_take T) (hr.mono (by decide)) (by rfl) T.g_l_take T.F_l_take.kp T.b_l_take .nil pass0 (pa_cons (pv 0) (pa_cons pe_int pa_nil))) pe_int (nomark _)) pa_nil)) (fun _ _ => rfl)) pa_nil)) (pg_name (i := 2) S.nd rfl (by first | exact .inl rfl | exact .inr rfl)) (pss_one (ps_expr (pe_bm PySem.F.plainAttrs_list PySem.F.slot_list_append PySem.F.type_list_append mt_append (pv 1) (pa_cons (pe_ifExp (pt_cmpR op_gt (pe_call (ok_l_take T) (hr.mono (by decide)) (by rfl) T.g_l_take T.F_l_take.kp T.b_l_take .nil pass0 (pa_cons (pv 0) (pa_cons pe_int pa_nil))) pe_int (nomark _)) (pe_call (ok_l_take T) (hr.mono (by decide)) (by rfl) T.g_l_take T.F_l_take.kp T.b_l_take .nil pass0 (pa_cons (pv 0) (pa_cons (pe_op op_add (pv 2) pe_int) pa_nil))) (pe_ix (ix_listK (K := K) rfl) (pe_lst (pa_cons (pe_un un_neg pe_int) (pa_cons (pe_op op_add (pv 2) pe_int) (pa_cons pe_int pa_nil)))) (pe_call (ok_l_take T) (hr.mono (by decide)) (by rfl) T.g_l_take T.F_l_take.kp T.b_l_take .nil pass0 (pa_cons (pv 0) (pa_cons pe_int pa_nil))) (fun _ _ => rfl))) pa_nil)))))
      (pss_one (ps_ret (pe_callTy (call_tupK (K := K) rfl) (by rfl) T.z_tuple (by decide +kernel) (pa_cons (pv 1) pa_nil)))))), ?_⟩
  rintro ⟨_, _⟩
  show SimB _ _ _ _ _ _ [.tp tape1, .un, .un] (l_parents)
  unfold l_parents
  exact (sb_seq (sb_setN (S := fun r => ls K (List.map eI r)) (EvG.is (w' := (ret ([] : List Int))) (ev_lstS (fun _ => ([] : List Int)) eI es_nil (fun _ => AllF.nil) (fun _ => rfl) (fun _ => rfl)) rfl) (ltb rfl) (fun parents_here_1 => (la_in (sb_seq (sb_for (S := ((List Int))) (e := eI) (Γh := fun s10 => [.tp tape1, .sl (ls K (List.map eI s10)), .un]) parents_here_1 (ItG.is (w' := (bnd (bnd (bnd (noX (l_take (9 : Int))) fun x2 => bnd (noX (l_take (70 : Int))) fun x3 => ret [x2, x3]) fun x6 => bnd (bnd (bnd (noX (l_take (6 : Int))) fun x4 => ret (decide (x4 = (0 : Int)))) fun x5 => ret (if x5 then 1 else 0 : Int)) fun x7 => opt (atI x6 x7)) fun x8 => grd (Rng x8) (ret (span 0 (x8).toNat)))) (it_range1 (ev_opLF (EvG.rl (ev_lstS (fun x => [x.1, x.2.1]) eI (es_f (ev_callS eI (es_t (ev_t (S := tape1) rfl) (es_f ev_int es_nil)) (fun _ => rfl)) (es_f (ev_callS eI (es_t (ev_t (S := tape1) rfl) (es_f ev_int es_nil)) (fun _ => rfl)) es_nil)) (fun _ => (AllF.cons (AllF.cons AllF.nil))) (fun _ => rfl) (fun _ => rfl))) (ev_b1F (ev_opF (ev_callS eI (es_t (ev_t (S := tape1) rfl) (es_f ev_int es_nil)) (fun _ => rfl)) ev_int (fun _ _ => o_eqI _ _)) (fun _ => c_intB _)) (fun _ _ => o_ixL _ _))) (by simp only [ret_bnd, bnd_bnd, mapW_bnd, mapW_ret] <;> rfl)) (fun _ h => nomatch h) (wk_mask [true, true, true] _) (fun x9 s10 => (tg_name (ltb rfl))) (fun x9 s10 kc11 => (sb_appendK (e := eI) (xs := s10) rfl (EvG.is (w' := (bnd (bnd (noX (l_take (40 : Int))) fun x14 => ret (decide ((0 : Int) < x14))) fun b16 => sel b16 (noX (l_take (x9 + (1 : Int)))) (bnd (noX (l_take (3 : Int))) fun x15 => opt (atI [(-(1 : Int)), (x9 + (1 : Int)), (99 : Int)] x15)))) (ev_ifF (et_test (ev_opF (ev_callS eI (es_t (ev_t (S := tape1) rfl) (es_f ev_int es_nil)) (fun _ => rfl)) ev_int (fun _ _ => o_gt _ _))) (ev_callS eI (es_t (ev_t (S := tape1) rfl) (es_f (ev_opF (ev_f (e := eI) x9 rfl) ev_int (fun _ _ => o_add _ _)) es_nil)) (fun _ => rfl)) (ev_opLF (EvG.rl (ev_lstS (fun x => [x.1, x.2.1, x.2.2.1]) eI (es_f (ev_un ev_int (fun _ => u_neg _)) (es_f (ev_opF (ev_f (e := eI) x9 rfl) ev_int (fun _ _ => o_add _ _)) (es_f ev_int es_nil))) (fun _ => (AllF.cons (AllF.cons (AllF.cons AllF.nil)))) (fun _ => rfl) (fun _ => rfl))) (ev_callS eI (es_t (ev_t (S := tape1) rfl) (es_f ev_int es_nil)) (fun _ => rfl)) (fun _ _ => o_ixL _ _))) (by simp only [ret_bnd, bnd_bnd, mapW_bnd, mapW_ret] <;> rfl)) (fun s13 => (Lands.wk (la_at s13) (wk_mask [true, true, false] _))))) (fun s10 => (la_in (sb_retF (EvG.is (w' := (ret s10)) (ev_b1L (ev_l (e := eI) s10 rfl) (fun _ => c_tupL _)) rfl) (fun _ => rfl))))))))))

end
end Cf
namespace Cf
open PySem PySem.Spec PyProof.Rows L2 WL
section
variable {P : Program} {w : World} {K : PySem.W.Frag} {mg : Str → Option Value} {base : Heap}
set_option maxHeartbeats 4000000
theorem ok_l_tape (T : Tx K mg) : FnOk P w K mg base CX0 1 T.f_l_tape T.d_l_tape ["_law_script", "_law_budget"] (spTape K) := by
  have S := sc_l_tape
  refine T.F_l_tape.ok S (fun vs H Q E h => by obtain ⟨p, ns, z, rfl, _⟩ := h; rfl) (fun cdv A outer s H vs Q E hr h => ?_)
  obtain ⟨p, ns, z, rfl, hs, q⟩ := h
  refine ⟨_, pss_one (ps_ret (pe_lst (pa_cons (pe_callTy (call_lstK (K := K) rfl) (by rfl) T.z_list (by decide +kernel) (pa_cons (pv 0) pa_nil)) (pa_cons pe_int (pa_cons pe_int (pa_cons pe_int (pa_cons (pv 1) pa_nil))))))), ?_⟩
  obtain ⟨p', ys, e, h1, h2⟩ := tape_new hs q
  exact ⟨_, rfl, p', ys, e, h1, fun l hl => ⟨_, rfl, (show (5 : Nat) ≤ 16777216 by decide), h2 l hl⟩⟩

end
end Cf
namespace Cf
open PySem PySem.Spec PyProof.Rows L2 WL
section
variable {P : Program} {w : World} {K : PySem.W.Frag} {mg : Str → Option Value} {base : Heap}
set_option maxHeartbeats 4000000
theorem ok_p_is_numberI (T : Tx K mg) : FnOk P w K mg base CX0 1 T.f_p_is_numberD T.d_p_is_numberD ["value", "least", "most"] (spN K (fun x : Int × Int × Int × Unit => [.d (eI x.1), .d (eI x.2.1), .d (eI x.2.2.1)]) (fun x => p_is_numberI x.1 x.2.1 x.2.2.1) (fun r : Bool => .fz (eB r))) := by
  have S := sc_p_is_numberD
  refine fn_n (N := nn_p_is_numberD) T.F_p_is_numberD S (fun _ => rfl) (fun cdv A outer s H E hr => ?_)
  refine ⟨_, (pss_one (ps_ret (pe_and (pe_callB (cr_isaInt (K := K) rfl) (by rfl) T.z_isinstance (by decide +kernel) (pa_cons (pv 0) (pa_cons (pe_bltn (v := .ty "int") (by rfl) T.z_int (by decide +kernel) rfl) pa_nil))) (pe_and (pe_not (pe_callB (cr_isaBool (K := K) rfl) (by rfl) T.z_isinstance (by decide +kernel) (pa_cons (pv 0) (pa_cons (pe_bltn (v := .ty "bool") (by rfl) T.z_bool (by decide +kernel) rfl) pa_nil)))) (pe_one (pe_chain op_le op_le (pv 1) (pv 0) (pv 2))))))), ?_⟩
  rintro ⟨value, least, most, _⟩
  show SimB _ _ _ _ _ _ [.sl (fz K (eI value)), .sl (fz K (eI least)), .sl (fz K (eI most))] (p_is_numberI value least most)
  unfold p_is_numberI
  exact (sb_retF (EvG.is (w' := (sel true (sel (!false) (sel (decide (least ≤ value)) (ret (decide (value ≤ most))) (ret false)) (ret false)) (ret false))) (ev_andV (ev_isa (f := PyData.isInt) (ev_f (e := eI) value rfl)) (ev_andV (ev_notV (ev_isa (f := PyData.isBool) (ev_f (e := eI) value rfl))) (ev_chainI (ev_f (e := eI) least rfl) (ev_f (e := eI) value rfl) (ev_f (e := eI) most rfl) (fun _ _ => o_le _ _) (fun _ _ => o_le _ _)))) (by simp only [ret_bnd, bnd_bnd, mapW_bnd, mapW_ret] <;> rfl)) (fun _ => rfl))

end
end Cf
namespace Cf
open PySem PySem.Spec PyProof.Rows L2 WL
section
variable {P : Program} {w : World} {K : PySem.W.Frag} {mg : Str → Option Value} {base : Heap}
set_option maxHeartbeats 4000000
theorem ok_p_made (T : Tx K mg) : FnOk P w K mg base (L2.CX P w) 2 T.f_p_made T.d_p_made ["n", "links"] (spX K (ctOf [T.xa_NotAllowed]) (fun x : Int × (List (Int × Int)) × Unit => [.d (eI x.1), .l (List.map (e2 eI eI) x.2.1)]) (fun x => p_made x.1 x.2.1) (fun r : (Int × (List (Int × Int))) => .fz ((e2 eI (eT (e2 eI eI))) r))) := by
  have S := sc_p_made
  refine fn_x (N := nn_p_made) T.F_p_made S (fun _ => rfl) (fun cdv A outer s H E hr => ?_)
  refine ⟨_, (pss_cons (ps_if (PW.pt (pw_or (pt_not (pt_val (pe_call (ok_p_is_numberI T) (hr.mono (by decide)) (by rfl) T.g_p_is_numberD T.F_p_is_numberD.kp T.b_p_is_numberD .nil pass0 (pa_cons (pv 0) (pa_cons pe_int (pa_cons (pe_glob (by rfl) T.c_p_MAX_NODES (show RelV (.int 64) _ from ⟨_, rfl⟩)) pa_nil)))))) (pw_or (pt_not (pt_truthK (K := K) rfl (pv 1) (by intro _; rfl))) (pw_or1 (pt_cmpR op_gt (pe_op op_mul pe_int (pe_callB (call_lenK (K := K) rfl) (by rfl) T.z_len (by decide +kernel) (pa_cons (pv 1) pa_nil))) (pe_glob (by rfl) T.c_p_MAX_CHANNELS (show RelV (.int 400) _ from ⟨_, rfl⟩)) (nomark _)))))) (pss_one (ps_raiseC (K := K) rfl T.xc_NotAllowed rfl (takes_of rfl rfl rfl rfl) (by exact rfl))) pss_nil)
      (pss_one (ps_ret (pe_tup (pa_cons (pv 0) (pa_cons (pe_callTy (call_tupK (K := K) rfl) (by rfl) T.z_tuple (by decide +kernel) (pa_cons (pe_callB (cr_sortDK (K := K) rfl hr.units) (by rfl) T.z_sorted (by decide +kernel) (pa_cons (pv 1) pa_nil)) pa_nil)) pa_nil)))))), ?_⟩
  rintro ⟨n, links, _⟩
  show SimB _ _ _ _ _ _ [.sl (fz K (eI n)), .rd K (List.map (e2 eI eI) links)] (p_made n links)
  unfold p_made
  exact (sb_seq (sb_if (EvT.is (w' := (bnd (bnd (noX (p_is_numberI n (2 : Int) (64 : Int))) fun x1 => ret (!x1)) fun x2 => sel x2 (ret true) (sel (!(!links.isEmpty)) (ret true) (ret (decide ((400 : Int) < ((2 : Int) * (links.length : Int)))))))) (et_or (et_not (et_B (ev_callS eB (es_f (ev_f (e := eI) n rfl) (es_f ev_int (es_f ev_int es_nil))) (fun _ => rfl)))) (et_or (et_not (et_truL (ev_r (e := (e2 eI eI)) links rfl))) (et_test (ev_opF (ev_mulL (by decide) (ev_b1L (ev_r (e := (e2 eI eI)) links rfl) (fun _ => c_lenL _))) ev_int (fun _ _ => o_gt _ _))))) rfl) (sb_raise 0 rfl) (sb_next (la_in (sb_retF (EvG.is (w' := (bnd (sortW (e2 eI eI) links) fun x4 => ret (n, x4))) (ev_tupS (fun x => (x.1, x.2.1)) (e2 eI (eT (e2 eI eI))) (es_f (ev_f (e := eI) n rfl) (es_f (ev_b1L (EvG.rl (ev_b1L (ev_r (e := (e2 eI eI)) links rfl) (fun _ => c_sortD _))) (fun _ => c_tupL _)) es_nil)) (fun _ => (AllF.cons (AllF.cons AllF.nil))) (fun _ => rfl) (fun _ => rfl)) rfl) (fun _ => rfl))))))

end
end Cf
namespace Cf
open PySem PySem.Spec PyProof.Rows L2 WL
section
variable {P : Program} {w : World} {K : PySem.W.Frag} {mg : Str → Option Value} {base : Heap}
set_option maxHeartbeats 4000000
theorem ok_p_complete (T : Tx K mg) : FnOk P w K mg base (L2.CX P w) 3 T.f_p_complete T.d_p_complete ["n"] (spX K (ctOf [T.xa_NotAllowed]) (fun x : Int × Unit => [.d (eI x.1)]) (fun x => p_complete x.1) (fun r : (Int × (List (Int × Int))) => .fz ((e2 eI (eT (e2 eI eI))) r))) := by
  have S := sc_p_complete
  refine fn_x (N := nn_p_complete) T.F_p_complete S (fun _ => rfl) (fun cdv A outer s H E hr => ?_)
  refine ⟨_, (pss_cons (ps_if (pt_not (pt_val (pe_call (ok_p_is_numberI T) (hr.mono (by decide)) (by rfl) T.g_p_is_numberD T.F_p_is_numberD.kp T.b_p_is_numberD .nil pass0 (pa_cons (pv 0) (pa_cons pe_int (pa_cons (pe_glob (by rfl) T.c_p_MAX_NODES (show RelV (.int 64) _ from ⟨_, rfl⟩)) pa_nil)))))) (pss_one (ps_raiseC (K := K) rfl T.xc_NotAllowed rfl (takes_of rfl rfl rfl rfl) (by exact rfl))) pss_nil)
      (pss_one (ps_ret (pe_callS (ok_p_made T) (hr.mono (by decide)) (by rfl) T.g_p_made T.F_p_made.kp T.b_p_made (fun σ => passAt (takes_of rfl rfl rfl rfl) σ) (pa_cons (pv 0) (pa_cons (pe_lc2 (own := [("low", 1), ("high", 2)]) (vs1 := [2]) rfl S.nd (pi_range1 (by rfl) T.z_range (pa_cons (pv 0) pa_nil)) (blkOk_by (N := nn_p_complete) (sc := (defScope s_p_complete)) (own := [("low", 1), ("high", 2)]) (by decide +kernel)) (by decide) (fun _ _ _ _ _ => (pg_name (i := 1) S.nd rfl (by first | exact .inl rfl | exact .inr rfl))) (fun _ _ _ _ _ => pts_nil) (fun _ _ _ _ _ => (pi_range2 (by rfl) T.z_range (pa_cons (pe_op op_add (pv 1) pe_int) (pa_cons (pv 0) pa_nil)))) (fun _ _ _ _ _ => (pg_name (i := 2) S.nd rfl (by first | exact .inl rfl | exact .inr rfl))) (fun _ _ _ _ _ => pts_nil) (fun _ _ _ _ _ => (pe_tup (pa_cons (pv 1) (pa_cons (pv 2) pa_nil))))) pa_nil)))))), ?_⟩
  rintro ⟨n, _⟩
  show SimB _ _ _ _ _ _ [.sl (fz K (eI n)), .un, .un] (p_complete n)
  unfold p_complete
  exact (sb_seq (sb_if (EvT.is (w' := (bnd (noX (p_is_numberI n (2 : Int) (64 : Int))) fun x1 => ret (!x1))) (et_not (et_B (ev_callS eB (es_f (ev_f (e := eI) n rfl) (es_f ev_int (es_f ev_int es_nil))) (fun _ => rfl)))) rfl) (sb_raise 0 rfl) (sb_next (la_in (sb_retF (EvG.is (w' := (bnd (bnd (grd (Rng n) (ret (span 0 (n).toNat))) fun l5 => lc2G (fun c3 => (ret true)) (fun c3 => (grd (Rng (c3 + (1 : Int)) ∧ Rng n) (ret (span (c3 + (1 : Int)) (n - (c3 + (1 : Int))).toNat)))) (fun c3 c4 => (ret true)) (fun c3 c4 => (ret (c3, c4))) l5) fun x7 => p_made n x7)) (ev_callXS (e2 eI (eT (e2 eI eI))) (es_f (ev_f (e := eI) n rfl) (es_l (EvG.rl (ev_lc2 (Γb := fun c3 => [.sl (fz K (eI n)), .sl (fz K (eI c3)), .un]) (Γc := fun c3 c4 => [.sl (fz K (eI n)), .sl (fz K (eI c3)), .sl (fz K (eI c4))]) (e := eI) (e1 := eI) (c := fun c3 => (ret true)) (w1 := fun c3 => (grd (Rng (c3 + (1 : Int)) ∧ Rng n) (ret (span (c3 + (1 : Int)) (n - (c3 + (1 : Int))).toNat)))) (c1 := fun c3 c4 => (ret true)) (f := fun c3 c4 => (ret (c3, c4))) (ItG.is (w' := (grd (Rng n) (ret (span 0 (n).toNat)))) (it_range1 (ev_f (e := eI) n rfl)) rfl) (fun c3 => (tg_wide (tg_name (ltb rfl)) (by decide))) (fun c3 => (EvT.is (w' := (ret true)) et_yes rfl)) (fun c3 => (ItG.is (w' := (grd (Rng (c3 + (1 : Int)) ∧ Rng n) (ret (span (c3 + (1 : Int)) (n - (c3 + (1 : Int))).toNat)))) (it_range2 (ev_opF (ev_f (e := eI) c3 rfl) ev_int (fun _ _ => o_add _ _)) (ev_f (e := eI) n rfl)) rfl)) (fun c3 c4 => (tg_name (ltb rfl))) (fun c3 c4 => (EvT.is (w' := (ret true)) et_yes rfl)) (fun c3 c4 => (EvG.is (w' := (ret (c3, c4))) (ev_tupS (fun x => (x.1, x.2.1)) (e2 eI eI) (es_f (ev_f (e := eI) c3 rfl) (es_f (ev_f (e := eI) c4 rfl) es_nil)) (fun _ => (AllF.cons (AllF.cons AllF.nil))) (fun _ => rfl) (fun _ => rfl)) rfl)))) es_nil)) (fun _ => rfl)) rfl) (fun _ => rfl))))))

end
end Cf
namespace Cf
open PySem PySem.Spec PyProof.Rows L2 WL
section
variable {P : Program} {w : World} {K : PySem.W.Frag} {mg : Str → Option Value} {base : Heap}
set_option maxHeartbeats 4000000
theorem ok_p_groups (T : Tx K mg) : FnOk P w K mg base (L2.CX P w) 3 T.f_p_groups T.d_p_groups ["count", "size"] (spX K (ctOf [T.xa_NotAllowed]) (fun x : Int × Int × Unit => [.d (eI x.1), .d (eI x.2.1)]) (fun x => p_groups x.1 x.2.1) (fun r : (Int × (List (Int × Int))) => .fz ((e2 eI (eT (e2 eI eI))) r))) := by
  have S := sc_p_groups
  refine fn_x (N := nn_p_groups) T.F_p_groups S (fun _ => rfl) (fun cdv A outer s H E hr => ?_)
  refine ⟨_, (pss_cons (ps_if (PW.pt (pw_or (pt_not (pt_val (pe_call (ok_p_is_numberI T) (hr.mono (by decide)) (by rfl) T.g_p_is_numberD T.F_p_is_numberD.kp T.b_p_is_numberD .nil pass0 (pa_cons (pv 0) (pa_cons pe_int (pa_cons (pe_glob (by rfl) T.c_p_MAX_NODES (show RelV (.int 64) _ from ⟨_, rfl⟩)) pa_nil)))))) (pw_or (pt_not (pt_val (pe_call (ok_p_is_numberI T) (hr.mono (by decide)) (by rfl) T.g_p_is_numberD T.F_p_is_numberD.kp T.b_p_is_numberD .nil pass0 (pa_cons (pv 1) (pa_cons pe_int (pa_cons (pe_glob (by rfl) T.c_p_MAX_NODES (show RelV (.int 64) _ from ⟨_, rfl⟩)) pa_nil)))))) (pw_or1 (pt_cmpR op_gt (pe_op op_mul (pv 0) (pv 1)) (pe_glob (by rfl) T.c_p_MAX_NODES (show RelV (.int 64) _ from ⟨_, rfl⟩)) (nomark _)))))) (pss_one (ps_raiseC (K := K) rfl T.xc_NotAllowed rfl (takes_of rfl rfl rfl rfl) (by exact rfl))) pss_nil)
      (pss_cons (ps_set (i := 2) S.nd rfl (by first | exact .inl rfl | exact .inr rfl) (pe_lst pa_nil))
      (pss_cons (ps_for (passes_of rfl) rfl (pi_range1 (by rfl) T.z_range (pa_cons (pv 0) pa_nil)) (pg_name (i := 3) S.nd rfl (by first | exact .inl rfl | exact .inr rfl)) (pss_cons (ps_set (i := 4) S.nd rfl (by first | exact .inl rfl | exact .inr rfl) (pe_callTy cr_rng2 (by rfl) T.z_range (by decide +kernel) (pa_cons (pe_op op_mul (pv 3) (pv 1)) (pa_cons (pe_op op_add (pe_op op_mul (pv 3) (pv 1)) (pv 1)) pa_nil))))
      (pss_cons (ps_expr (pe_bm PySem.F.plainAttrs_list PySem.F.slot_list_extend PySem.F.type_list_extend mt_extend (pv 2) (pa_cons (pe_lc2 (own := [("low", 6), ("high", 7)]) (vs1 := [7]) rfl S.nd (pi_rgN2 (pv 4)) (blkOk_by (N := nn_p_groups) (sc := (defScope s_p_groups)) (own := [("low", 6), ("high", 7)]) (by decide +kernel)) (by decide) (fun _ _ _ _ _ => (pg_name (i := 6) S.nd rfl (by first | exact .inl rfl | exact .inr rfl))) (fun _ _ _ _ _ => pts_nil) (fun _ _ _ _ _ => (pi_rgN2 (pv 4))) (fun _ _ _ _ _ => (pg_name (i := 7) S.nd rfl (by first | exact .inl rfl | exact .inr rfl))) (fun _ _ _ _ _ => (pts_one (pt_cmpR op_lt (pv 6) (pv 7) (nomark _)))) (fun _ _ _ _ _ => (pe_tup (pa_cons (pv 6) (pa_cons (pv 7) pa_nil))))) pa_nil)))
      (pss_one (ps_for (passes_of rfl) rfl (pi_range1 (by rfl) T.z_range (pa_cons (pv 3) pa_nil)) (pg_name (i := 5) S.nd rfl (by first | exact .inl rfl | exact .inr rfl)) (pss_one (ps_expr (pe_bm PySem.F.plainAttrs_list PySem.F.slot_list_append PySem.F.type_list_append mt_append (pv 2) (pa_cons (pe_tup (pa_cons (pe_op op_add (pe_op op_mul (pv 5) (pv 1)) (pe_op op_modN (pe_op op_sub (pv 3) pe_int) (pv 1))) (pa_cons (pe_op op_add (pe_op op_mul (pv 3) (pv 1)) (pe_op op_modN (pv 5) (pv 1))) pa_nil))) pa_nil)))))))))
      (pss_one (ps_ret (pe_callS (ok_p_made T) (hr.mono (by decide)) (by rfl) T.g_p_made T.F_p_made.kp T.b_p_made (fun σ => passAt (takes_of rfl rfl rfl rfl) σ) (pa_cons (pe_op op_mul (pv 0) (pv 1)) (pa_cons (pv 2) pa_nil)))))))), ?_⟩
  rintro ⟨count, size, _⟩
  show SimB _ _ _ _ _ _ [.sl (fz K (eI count)), .sl (fz K (eI size)), .un, .un, .un, .un, .un, .un] (p_groups count size)
  unfold p_groups
  exact (sb_seq (sb_if (EvT.is (w' := (bnd (bnd (noX (p_is_numberI count (2 : Int) (64 : Int))) fun x1 => ret (!x1)) fun x5 => sel x5 (ret true) (bnd (bnd (noX (p_is_numberI size (1 : Int) (64 : Int))) fun x2 => ret (!x2)) fun x4 => sel x4 (ret true) (bnd (grd (CMul count size) (ret (count * size))) fun x3 => ret (decide ((64 : Int) < x3)))))) (et_or (et_not (et_B (ev_callS eB (es_f (ev_f (e := eI) count rfl) (es_f ev_int (es_f ev_int es_nil))) (fun _ => rfl)))) (et_or (et_not (et_B (ev_callS eB (es_f (ev_f (e := eI) size rfl) (es_f ev_int (es_f ev_int es_nil))) (fun _ => rfl)))) (et_test (ev_opF (ev_opF (ev_f (e := eI) count rfl) (ev_f (e := eI) size rfl) (fun _ _ => o_mul _ _)) ev_int (fun _ _ => o_gt _ _))))) (by simp only [ret_bnd, bnd_bnd, mapW_bnd, mapW_ret] <;> rfl)) (sb_raise 0 rfl) (sb_next (la_in (sb_seq (sb_setN (S := fun r => ls K (List.map (e2 eI eI) r)) (EvG.is (w' := (ret ([] : List (Int × Int)))) (ev_lstS (fun _ => ([] : List (Int × Int))) (e2 eI eI) es_nil (fun _ => AllF.nil) (fun _ => rfl) (fun _ => rfl)) rfl) (ltb rfl) (fun links_7 => (la_in (sb_seq (sb_for (S := ((List (Int × Int)))) (e := eI) (Γh := fun s9 => [.sl (fz K (eI count)), .sl (fz K (eI size)), .sl (ls K (List.map (e2 eI eI) s9)), .un, .un, .un, .un, .un]) links_7 (ItG.is (w' := (grd (Rng count) (ret (span 0 (count).toNat)))) (it_range1 (ev_f (e := eI) count rfl)) rfl) (fun _ h => nomatch h) (wk_mask [true, true, true, true, true, true, true, true] _) (fun x8 s9 => (tg_name (ltb rfl))) (fun x8 s9 kc10 => (sb_seq (sb_setN (S := fun r => rg2S r) (EvG.is (w' := (bnd (grd (CMul x8 size) (ret (x8 * size))) fun x30 => bnd (bnd (grd (CMul x8 size) (ret (x8 * size))) fun x12 => ret (x12 + size)) fun x31 => grd (Rng x30 ∧ Rng x31) (ret (x30, x31)))) (ev_rng2 (ev_opF (ev_f (e := eI) x8 rfl) (ev_f (e := eI) size rfl) (fun _ _ => o_mul _ _)) (ev_opF (ev_opF (ev_f (e := eI) x8 rfl) (ev_f (e := eI) size rfl) (fun _ _ => o_mul _ _)) (ev_f (e := eI) size rfl) (fun _ _ => o_add _ _))) (by simp only [ret_bnd, bnd_bnd, mapW_bnd, mapW_ret] <;> rfl)) (ltb rfl) (fun n13 => (la_in (sb_seq (sb_extendK (e := (e2 eI eI)) (xs := s9) rfl (ev_lc2 (Γb := fun c15 => [.sl (fz K (eI count)), .sl (fz K (eI size)), .sl (ls K (List.map (e2 eI eI) s9)), .sl (fz K (eI x8)), .sl (rg2S n13), .un, .sl (fz K (eI c15)), .un]) (Γc := fun c15 c16 => [.sl (fz K (eI count)), .sl (fz K (eI size)), .sl (ls K (List.map (e2 eI eI) s9)), .sl (fz K (eI x8)), .sl (rg2S n13), .un, .sl (fz K (eI c15)), .sl (fz K (eI c16))]) (e := eI) (e1 := eI) (c := fun c15 => (ret true)) (w1 := fun c15 => (ret (span n13.1 (n13.2 - n13.1).toNat))) (c1 := fun c15 c16 => (ret (decide (c15 < c16)))) (f := fun c15 c16 => (ret (c15, c16))) (ItG.is (w' := (ret (span n13.1 (n13.2 - n13.1).toNat))) (it_rgN2 n13 (.inl rfl)) rfl) (fun c15 => (tg_wide (tg_name (ltb rfl)) (by decide))) (fun c15 => (EvT.is (w' := (ret true)) et_yes rfl)) (fun c15 => (ItG.is (w' := (ret (span n13.1 (n13.2 - n13.1).toNat))) (it_rgN2 n13 (.inl rfl)) rfl)) (fun c15 c16 => (tg_name (ltb rfl))) (fun c15 c16 => (EvT.is (w' := (ret (decide (c15 < c16)))) (et_test (ev_opF (ev_f (e := eI) c15 rfl) (ev_f (e := eI) c16 rfl) (fun _ _ => o_lt _ _))) rfl)) (fun c15 c16 => (EvG.is (w' := (ret (c15, c16))) (ev_tupS (fun x => (x.1, x.2.1)) (e2 eI eI) (es_f (ev_f (e := eI) c15 rfl) (es_f (ev_f (e := eI) c16 rfl) es_nil)) (fun _ => (AllF.cons (AllF.cons AllF.nil))) (fun _ => rfl) (fun _ => rfl)) rfl))) (fun s14 => (la_in (sb_for (S := ((List (Int × Int)))) (e := eI) (Γh := fun s19 => [.sl (fz K (eI count)), .sl (fz K (eI size)), .sl (ls K (List.map (e2 eI eI) s19)), .sl (fz K (eI x8)), .sl (rg2S n13), .un, .un, .un]) s14 (ItG.is (w' := (grd (Rng x8) (ret (span 0 (x8).toNat)))) (it_range1 (ev_f (e := eI) x8 rfl)) rfl) (fun _ h => nomatch h) (wk_mask [true, true, true, true, true, true, true, true] _) (fun x18 s19 => (tg_name (ltb rfl))) (fun x18 s19 kc20 => (sb_appendK (e := (e2 eI eI)) (xs := s19) rfl (EvG.is (w' := (bnd (bnd (grd (CMul x18 size) (ret (x18 * size))) fun x23 => bnd (grd (size ≠ 0) (ret (Int.fmod (x8 - (1 : Int)) size))) fun x24 => ret (x23 + x24)) fun x27 => bnd (bnd (grd (CMul x8 size) (ret (x8 * size))) fun x25 => bnd (grd (size ≠ 0) (ret (Int.fmod x18 size))) fun x26 => ret (x25 + x26)) fun x28 => ret (x27, x28))) (ev_tupS (fun x => (x.1, x.2.1)) (e2 eI eI) (es_f (ev_opF (ev_opF (ev_f (e := eI) x18 rfl) (ev_f (e := eI) size rfl) (fun _ _ => o_mul _ _)) (ev_opF (ev_opF (ev_f (e := eI) x8 rfl) ev_int (fun _ _ => o_sub _ _)) (ev_f (e := eI) size rfl) (fun _ _ => o_mod _ _)) (fun _ _ => o_add _ _)) (es_f (ev_opF (ev_opF (ev_f (e := eI) x8 rfl) (ev_f (e := eI) size rfl) (fun _ _ => o_mul _ _)) (ev_opF (ev_f (e := eI) x18 rfl) (ev_f (e := eI) size rfl) (fun _ _ => o_mod _ _)) (fun _ _ => o_add _ _)) es_nil)) (fun _ => (AllF.cons (AllF.cons AllF.nil))) (fun _ => rfl) (fun _ => rfl)) (by simp only [ret_bnd, bnd_bnd, mapW_bnd, mapW_ret] <;> rfl)) (fun s22 => (Lands.wk (la_at s22) (wk_mask [true, true, true, true, true, false, true, true] _))))) (fun s19 => (Lands.wk (la_at s19) (wk_mask [true, true, true, false, false, true, true, true] _))))))))))))) (fun s9 => (la_in (sb_retF (EvG.is (w' := (bnd (grd (CMul count size) (ret (count * size))) fun x33 => p_made x33 s9)) (ev_callXS (e2 eI (eT (e2 eI eI))) (es_f (ev_opF (ev_f (e := eI) count rfl) (ev_f (e := eI) size rfl) (fun _ _ => o_mul _ _)) (es_l (ev_l (e := (e2 eI eI)) s9 rfl) es_nil)) (fun _ => rfl)) rfl) (fun _ => rfl))))))))))))))

end
end Cf
namespace Cf
open PySem PySem.Spec PyProof.Rows L2 WL
section
variable {P : Program} {w : World} {K : PySem.W.Frag} {mg : Str → Option Value} {base : Heap}
set_option maxHeartbeats 4000000
theorem ok_p_line (T : Tx K mg) : FnOk P w K mg base (L2.CX P w) 3 T.f_p_line T.d_p_line ["n"] (spX K (ctOf [T.xa_NotAllowed]) (fun x : Int × Unit => [.d (eI x.1)]) (fun x => p_line x.1) (fun r : (Int × (List (Int × Int))) => .fz ((e2 eI (eT (e2 eI eI))) r))) := by
  have S := sc_p_line
  refine fn_x (N := nn_p_line) T.F_p_line S (fun _ => rfl) (fun cdv A outer s H E hr => ?_)
  refine ⟨_, (pss_cons (ps_if (pt_not (pt_val (pe_call (ok_p_is_numberI T) (hr.mono (by decide)) (by rfl) T.g_p_is_numberD T.F_p_is_numberD.kp T.b_p_is_numberD .nil pass0 (pa_cons (pv 0) (pa_cons pe_int (pa_cons (pe_glob (by rfl) T.c_p_MAX_NODES (show RelV (.int 64) _ from ⟨_, rfl⟩)) pa_nil)))))) (pss_one (ps_raiseC (K := K) rfl T.xc_NotAllowed rfl (takes_of rfl rfl rfl rfl) (by exact rfl))) pss_nil)
      (pss_one (ps_ret (pe_callS (ok_p_made T) (hr.mono (by decide)) (by rfl) T.g_p_made T.F_p_made.kp T.b_p_made (fun σ => passAt (takes_of rfl rfl rfl rfl) σ) (pa_cons (pv 0) (pa_cons (pe_lc (own := [("node", 1)]) rfl S.nd (pi_range1 (by rfl) T.z_range (pa_cons (pe_op op_sub (pv 0) pe_int) pa_nil)) (blkOk_by (N := nn_p_line) (sc := (defScope s_p_line)) (own := [("node", 1)]) (by decide +kernel)) (fun _ _ _ _ _ => (pg_name (i := 1) S.nd rfl (by first | exact .inl rfl | exact .inr rfl))) (fun _ _ _ _ _ => pts_nil) (fun _ _ _ _ _ => (pe_tup (pa_cons (pv 1) (pa_cons (pe_op op_add (pv 1) pe_int) pa_nil))))) pa_nil)))))), ?_⟩
  rintro ⟨n, _⟩
  show SimB _ _ _ _ _ _ [.sl (fz K (eI n)), .un] (p_line n)
  unfold p_line
  exact (sb_seq (sb_if (EvT.is (w' := (bnd (noX (p_is_numberI n (2 : Int) (64 : Int))) fun x1 => ret (!x1))) (et_not (et_B (ev_callS eB (es_f (ev_f (e := eI) n rfl) (es_f ev_int (es_f ev_int es_nil))) (fun _ => rfl)))) rfl) (sb_raise 0 rfl) (sb_next (la_in (sb_retF (EvG.is (w' := (bnd (bnd (grd (Rng (n - (1 : Int))) (ret (span 0 ((n - (1 : Int))).toNat))) fun l4 => lcG (fun c3 => (ret true)) (fun c3 => (ret (c3, (c3 + (1 : Int))))) l4) fun x6 => p_made n x6)) (ev_callXS (e2 eI (eT (e2 eI eI))) (es_f (ev_f (e := eI) n rfl) (es_l (EvG.rl (ev_lc (e := eI) (c := fun c3 => (ret true)) (f := fun c3 => (ret (c3, (c3 + (1 : Int))))) (ItG.is (w' := (grd (Rng (n - (1 : Int))) (ret (span 0 ((n - (1 : Int))).toNat)))) (it_range1 (ev_opF (ev_f (e := eI) n rfl) ev_int (fun _ _ => o_sub _ _))) rfl) (fun c3 => (tg_name (ltb rfl))) (fun c3 => (EvT.is (w' := (ret true)) et_yes rfl)) (fun c3 => (EvG.is (w' := (ret (c3, (c3 + (1 : Int))))) (ev_tupS (fun x => (x.1, x.2.1)) (e2 eI eI) (es_f (ev_f (e := eI) c3 rfl) (es_f (ev_opF (ev_f (e := eI) c3 rfl) ev_int (fun _ _ => o_add _ _)) es_nil)) (fun _ => (AllF.cons (AllF.cons AllF.nil))) (fun _ => rfl) (fun _ => rfl)) rfl)))) es_nil)) (fun _ => rfl)) rfl) (fun _ => rfl))))))

end
end Cf
namespace Cf
open PySem PySem.Spec PyProof.Rows L2 WL
section
variable {P : Program} {w : World} {K : PySem.W.Frag} {mg : Str → Option Value} {base : Heap}
set_option maxHeartbeats 4000000
theorem ok_p_ring (T : Tx K mg) : FnOk P w K mg base (L2.CX P w) 3 T.f_p_ring T.d_p_ring ["n"] (spX K (ctOf [T.xa_NotAllowed]) (fun x : Int × Unit => [.d (eI x.1)]) (fun x => p_ring x.1) (fun r : (Int × (List (Int × Int))) => .fz ((e2 eI (eT (e2 eI eI))) r))) := by
  have S := sc_p_ring
  refine fn_x (N := nn_p_ring) T.F_p_ring S (fun _ => rfl) (fun cdv A outer s H E hr => ?_)
  refine ⟨_, (pss_cons (ps_if (pt_not (pt_val (pe_call (ok_p_is_numberI T) (hr.mono (by decide)) (by rfl) T.g_p_is_numberD T.F_p_is_numberD.kp T.b_p_is_numberD .nil pass0 (pa_cons (pv 0) (pa_cons pe_int (pa_cons (pe_glob (by rfl) T.c_p_MAX_NODES (show RelV (.int 64) _ from ⟨_, rfl⟩)) pa_nil)))))) (pss_one (ps_raiseC (K := K) rfl T.xc_NotAllowed rfl (takes_of rfl rfl rfl rfl) (by exact rfl))) pss_nil)
      (pss_one (ps_ret (pe_callS (ok_p_made T) (hr.mono (by decide)) (by rfl) T.g_p_made T.F_p_made.kp T.b_p_made (fun σ => passAt (takes_of rfl rfl rfl rfl) σ) (pa_cons (pv 0) (pa_cons (pe_op op_cat (pe_lc (own := [("node", 1)]) rfl S.nd (pi_range1 (by rfl) T.z_range (pa_cons (pe_op op_sub (pv 0) pe_int) pa_nil)) (blkOk_by (N := nn_p_ring) (sc := (defScope s_p_ring)) (own := [("node", 1)]) (by decide +kernel)) (fun _ _ _ _ _ => (pg_name (i := 1) S.nd rfl (by first | exact .inl rfl | exact .inr rfl))) (fun _ _ _ _ _ => pts_nil) (fun _ _ _ _ _ => (pe_tup (pa_cons (pv 1) (pa_cons (pe_op op_add (pv 1) pe_int) pa_nil))))) (pe_lst (pa_cons (pe_tup (pa_cons pe_int (pa_cons (pe_op op_sub (pv 0) pe_int) pa_nil))) pa_nil))) pa_nil)))))), ?_⟩
  rintro ⟨n, _⟩
  show SimB _ _ _ _ _ _ [.sl (fz K (eI n)), .un] (p_ring n)
  unfold p_ring
  exact (sb_seq (sb_if (EvT.is (w' := (bnd (noX (p_is_numberI n (3 : Int) (64 : Int))) fun x1 => ret (!x1))) (et_not (et_B (ev_callS eB (es_f (ev_f (e := eI) n rfl) (es_f ev_int (es_f ev_int es_nil))) (fun _ => rfl)))) rfl) (sb_raise 0 rfl) (sb_next (la_in (sb_retF (EvG.is (w' := (bnd (bnd (bnd (grd (Rng (n - (1 : Int))) (ret (span 0 ((n - (1 : Int))).toNat))) fun l4 => lcG (fun c3 => (ret true)) (fun c3 => (ret (c3, (c3 + (1 : Int))))) l4) fun x5 => grd (x5.length + [((0 : Int), (n - (1 : Int)))].length ≤ 16777216) (ret (x5 ++ [((0 : Int), (n - (1 : Int)))]))) fun x7 => p_made n x7)) (ev_callXS (e2 eI (eT (e2 eI eI))) (es_f (ev_f (e := eI) n rfl) (es_l (EvG.rl (ev_opNN (ev_lc (e := eI) (c := fun c3 => (ret true)) (f := fun c3 => (ret (c3, (c3 + (1 : Int))))) (ItG.is (w' := (grd (Rng (n - (1 : Int))) (ret (span 0 ((n - (1 : Int))).toNat)))) (it_range1 (ev_opF (ev_f (e := eI) n rfl) ev_int (fun _ _ => o_sub _ _))) rfl) (fun c3 => (tg_name (ltb rfl))) (fun c3 => (EvT.is (w' := (ret true)) et_yes rfl)) (fun c3 => (EvG.is (w' := (ret (c3, (c3 + (1 : Int))))) (ev_tupS (fun x => (x.1, x.2.1)) (e2 eI eI) (es_f (ev_f (e := eI) c3 rfl) (es_f (ev_opF (ev_f (e := eI) c3 rfl) ev_int (fun _ _ => o_add _ _)) es_nil)) (fun _ => (AllF.cons (AllF.cons AllF.nil))) (fun _ => rfl) (fun _ => rfl)) rfl))) (ev_lstS (fun x => [x.1]) (e2 eI eI) (es_f (ev_tupS (fun x => (x.1, x.2.1)) (e2 eI eI) (es_f ev_int (es_f (ev_opF (ev_f (e := eI) n rfl) ev_int (fun _ _ => o_sub _ _)) es_nil)) (fun _ => (AllF.cons (AllF.cons AllF.nil))) (fun _ => rfl) (fun _ => rfl)) es_nil) (fun _ => (AllF.cons AllF.nil)) (fun _ => rfl) (fun _ => rfl)) (fun _ _ => o_cat _ _))) es_nil)) (fun _ => rfl)) (by simp only [ret_bnd, bnd_bnd, mapW_bnd, mapW_ret] <;> rfl)) (fun _ => rfl))))))

end
end Cf
namespace Cf
open PySem PySem.Spec PyProof.Rows L2 WL
section
variable {P : Program} {w : World} {K : PySem.W.Frag} {mg : Str → Option Value} {base : Heap}
set_option maxHeartbeats 4000000
theorem ok_p_star (T : Tx K mg) : FnOk P w K mg base (L2.CX P w) 3 T.f_p_star T.d_p_star ["n"] (spX K (ctOf [T.xa_NotAllowed]) (fun x : Int × Unit => [.d (eI x.1)]) (fun x => p_star x.1) (fun r : (Int × (List (Int × Int))) => .fz ((e2 eI (eT (e2 eI eI))) r))) := by
  have S := sc_p_star
  refine fn_x (N := nn_p_star) T.F_p_star S (fun _ => rfl) (fun cdv A outer s H E hr => ?_)
  refine ⟨_, (pss_cons (ps_if (pt_not (pt_val (pe_call (ok_p_is_numberI T) (hr.mono (by decide)) (by rfl) T.g_p_is_numberD T.F_p_is_numberD.kp T.b_p_is_numberD .nil pass0 (pa_cons (pv 0) (pa_cons pe_int (pa_cons (pe_glob (by rfl) T.c_p_MAX_NODES (show RelV (.int 64) _ from ⟨_, rfl⟩)) pa_nil)))))) (pss_one (ps_raiseC (K := K) rfl T.xc_NotAllowed rfl (takes_of rfl rfl rfl rfl) (by exact rfl))) pss_nil)
      (pss_one (ps_ret (pe_callS (ok_p_made T) (hr.mono (by decide)) (by rfl) T.g_p_made T.F_p_made.kp T.b_p_made (fun σ => passAt (takes_of rfl rfl rfl rfl) σ) (pa_cons (pv 0) (pa_cons (pe_lc (own := [("node", 1)]) rfl S.nd (pi_range2 (by rfl) T.z_range (pa_cons pe_int (pa_cons (pv 0) pa_nil))) (blkOk_by (N := nn_p_star) (sc := (defScope s_p_star)) (own := [("node", 1)]) (by decide +kernel)) (fun _ _ _ _ _ => (pg_name (i := 1) S.nd rfl (by first | exact .inl rfl | exact .inr rfl))) (fun _ _ _ _ _ => pts_nil) (fun _ _ _ _ _ => (pe_tup (pa_cons pe_int (pa_cons (pv 1) pa_nil))))) pa_nil)))))), ?_⟩
  rintro ⟨n, _⟩
  show SimB _ _ _ _ _ _ [.sl (fz K (eI n)), .un] (p_star n)
  unfold p_star
  exact (sb_seq (sb_if (EvT.is (w' := (bnd (noX (p_is_numberI n (2 : Int) (64 : Int))) fun x1 => ret (!x1))) (et_not (et_B (ev_callS eB (es_f (ev_f (e := eI) n rfl) (es_f ev_int (es_f ev_int es_nil))) (fun _ => rfl)))) rfl) (sb_raise 0 rfl) (sb_next (la_in (sb_retF (EvG.is (w' := (bnd (bnd (grd (Rng (1 : Int) ∧ Rng n) (ret (span (1 : Int) (n - (1 : Int)).toNat))) fun l4 => lcG (fun c3 => (ret true)) (fun c3 => (ret ((0 : Int), c3))) l4) fun x6 => p_made n x6)) (ev_callXS (e2 eI (eT (e2 eI eI))) (es_f (ev_f (e := eI) n rfl) (es_l (EvG.rl (ev_lc (e := eI) (c := fun c3 => (ret true)) (f := fun c3 => (ret ((0 : Int), c3))) (ItG.is (w' := (grd (Rng (1 : Int) ∧ Rng n) (ret (span (1 : Int) (n - (1 : Int)).toNat)))) (it_range2 ev_int (ev_f (e := eI) n rfl)) rfl) (fun c3 => (tg_name (ltb rfl))) (fun c3 => (EvT.is (w' := (ret true)) et_yes rfl)) (fun c3 => (EvG.is (w' := (ret ((0 : Int), c3))) (ev_tupS (fun x => (x.1, x.2.1)) (e2 eI eI) (es_f ev_int (es_f (ev_f (e := eI) c3 rfl) es_nil)) (fun _ => (AllF.cons (AllF.cons AllF.nil))) (fun _ => rfl) (fun _ => rfl)) rfl)))) es_nil)) (fun _ => rfl)) rfl) (fun _ => rfl))))))

end
end Cf
namespace Cf
open PySem PySem.Spec PyProof.Rows L2 WL
section
variable {P : Program} {w : World} {K : PySem.W.Frag} {mg : Str → Option Value} {base : Heap}
set_option maxHeartbeats 4000000
theorem ok_p_tree (T : Tx K mg) : FnOk P w K mg base (L2.CX P w) 3 T.f_p_tree T.d_p_tree ["parents"] (spX K (ctOf [T.xa_NotAllowed]) (fun x : (List Int) × Unit => [.d ((eT eI) x.1)]) (fun x => p_tree x.1) (fun r : (Int × (List (Int × Int))) => .fz ((e2 eI (eT (e2 eI eI))) r))) := by
  have S := sc_p_tree
  refine fn_x (N := nn_p_tree) T.F_p_tree S (fun _ => rfl) (fun cdv A outer s H E hr => ?_)
  refine ⟨_, (pss_cons (ps_if (pt_not (pt_chain op_le op_lt pe_int (pe_callB (call_lenK (K := K) rfl) (by rfl) T.z_len (by decide +kernel) (pa_cons (pv 0) pa_nil)) (pe_glob (by rfl) T.c_p_MAX_NODES (show RelV (.int 64) _ from ⟨_, rfl⟩)))) (pss_one (ps_raiseC (K := K) rfl T.xc_NotAllowed rfl (takes_of rfl rfl rfl rfl) (by exact rfl))) pss_nil)
      (pss_cons (ps_for (passes_of rfl) rfl (pi_enumT (K := K) rfl (by rfl) T.z_enumerate (pa_cons (pv 0) pa_nil)) (pg_tupK (n := 2) (K := K) rfl rfl (pgs_cons (pg_name (i := 1) S.nd rfl (by first | exact .inl rfl | exact .inr rfl)) (pgs_cons (pg_name (i := 2) S.nd rfl (by first | exact .inl rfl | exact .inr rfl)) pgs_nil))) (pss_one (ps_if (pt_not (pt_val (pe_call (ok_p_is_numberI T) (hr.mono (by decide)) (by rfl) T.g_p_is_numberD T.F_p_is_numberD.kp T.b_p_is_numberD .nil pass0 (pa_cons (pv 2) (pa_cons pe_int (pa_cons (pv 1) pa_nil)))))) (pss_one (ps_raiseC (K := K) rfl T.xc_NotAllowed rfl (takes_of rfl rfl rfl rfl) (by exact rfl))) pss_nil)))
      (pss_one (ps_ret (pe_callS (ok_p_made T) (hr.mono (by decide)) (by rfl) T.g_p_made T.F_p_made.kp T.b_p_made (fun σ => passAt (takes_of rfl rfl rfl rfl) σ) (pa_cons (pe_op op_add (pe_callB (call_lenK (K := K) rfl) (by rfl) T.z_len (by decide +kernel) (pa_cons (pv 0) pa_nil)) pe_int) (pa_cons (pe_lc (own := [("at", 1), ("parent", 2)]) rfl S.nd (pi_enumT (K := K) rfl (by rfl) T.z_enumerate (pa_cons (pv 0) pa_nil)) (blkOk_by (N := nn_p_tree) (sc := (defScope s_p_tree)) (own := [("at", 1), ("parent", 2)]) (by decide +kernel)) (fun _ _ _ _ _ => (pg_tupK (n := 2) (K := K) rfl rfl (pgs_cons (pg_name (i := 1) S.nd rfl (by first | exact .inl rfl | exact .inr rfl)) (pgs_cons (pg_name (i := 2) S.nd rfl (by first | exact .inl rfl | exact .inr rfl)) pgs_nil)))) (fun _ _ _ _ _ => pts_nil) (fun _ _ _ _ _ => (pe_tup (pa_cons (pv 2) (pa_cons (pe_op op_add (pv 1) pe_int) pa_nil))))) pa_nil))))))), ?_⟩
  rintro ⟨parents, _⟩
  show SimB _ _ _ _ _ _ [.sl (fz K ((eT eI) parents)), .un, .un] (p_tree parents)
  unfold p_tree
  exact (sb_seq (sb_if (EvT.is (w' := (bnd (sel (decide ((1 : Int) ≤ (parents.length : Int))) (ret (decide ((parents.length : Int) < (64 : Int)))) (ret false)) fun x1 => ret (!x1))) (et_not (et_test (ev_chainI ev_int (ev_b1F (ev_f (e := (eT eI)) parents rfl) (fun _ => c_lenT _)) ev_int (fun _ _ => o_le _ _) (fun _ _ => o_lt _ _)))) rfl) (sb_raise 0 rfl) (sb_next (la_in (sb_seq (sb_for (S := Unit) (e := (e2 eI eI)) (Γh := fun s4 => [.sl (fz K ((eT eI) parents)), .un, .un]) () (ItG.is (w' := (ret (enumI parents))) (it_enumT (ev_f (e := (eT eI)) parents rfl)) rfl) (fun _ h => nomatch h) (wk_mask [true, true, true] _) (fun x3 s4 => (tg_tup (ds := [eI (x3.1), eI (x3.2)]) (ts_cons (tg_name (ltb rfl)) (ts_cons (tg_name (ltb rfl)) ts_nil)) rfl rfl)) (fun x3 s4 kc5 => (sb_if (EvT.is (w' := (bnd (noX (p_is_numberI (x3.2) (0 : Int) (x3.1))) fun x7 => ret (!x7))) (et_not (et_B (ev_callS eB (es_f (ev_f (e := eI) (x3.2) rfl) (es_f ev_int (es_f (ev_f (e := eI) (x3.1) rfl) es_nil))) (fun _ => rfl)))) rfl) (sb_raise 0 rfl) (sb_next (Lands.wk (la_at ()) (wk_mask [true, false, false] _))))) (fun s4 => (la_in (sb_retF (EvG.is (w' := (bnd (bnd (ret (enumI parents)) fun l10 => lcG (fun c9 => (ret true)) (fun c9 => (ret ((c9.2), ((c9.1) + (1 : Int))))) l10) fun x12 => p_made ((parents.length : Int) + (1 : Int)) x12)) (ev_callXS (e2 eI (eT (e2 eI eI))) (es_f (ev_opF (ev_b1F (ev_f (e := (eT eI)) parents rfl) (fun _ => c_lenT _)) ev_int (fun _ _ => o_add _ _)) (es_l (EvG.rl (ev_lc (e := (e2 eI eI)) (c := fun c9 => (ret true)) (f := fun c9 => (ret ((c9.2), ((c9.1) + (1 : Int))))) (ItG.is (w' := (ret (enumI parents))) (it_enumT (ev_f (e := (eT eI)) parents rfl)) rfl) (fun c9 => (tg_tup (ds := [eI (c9.1), eI (c9.2)]) (ts_cons (tg_name (ltb rfl)) (ts_cons (tg_name (ltb rfl)) ts_nil)) rfl rfl)) (fun c9 => (EvT.is (w' := (ret true)) et_yes rfl)) (fun c9 => (EvG.is (w' := (ret ((c9.2), ((c9.1) + (1 : Int))))) (ev_tupS (fun x => (x.1, x.2.1)) (e2 eI eI) (es_f (ev_f (e := eI) (c9.2) rfl) (es_f (ev_opF (ev_f (e := eI) (c9.1) rfl) ev_int (fun _ _ => o_add _ _)) es_nil)) (fun _ => (AllF.cons (AllF.cons AllF.nil))) (fun _ => rfl) (fun _ => rfl)) rfl)))) es_nil)) (fun _ => rfl)) rfl) (fun _ => rfl))))))))))

end
end Cf
namespace Cf
open PySem PySem.Spec PyProof.Rows L2 WL
section
variable {P : Program} {w : World} {K : PySem.W.Frag} {mg : Str → Option Value} {base : Heap}
set_option maxHeartbeats 4000000
theorem ok_l_told (T : Tx K mg) : FnOk P w K mg base CX0 4 T.f_l_told T.d_l_told ["_law_word", "_law_first", "_law_second"] (spN K (fun x : Str × PyData × Int × Unit => [.d (eS x.1), .d (eD x.2.1), .d (eI x.2.2.1)]) (fun x => l_told x.1 x.2.1 x.2.2.1) (fun r : PyData => .fz (eD r))) := by
  have S := sc_l_told
  refine fn_n (N := nn_l_told) T.F_l_told S (fun _ => rfl) (fun cdv A outer s H E hr => ?_)
  refine ⟨_, (pss_one (ps_tryA (K := K) (Dc := T.xa_NotAllowed) (i := 3) rfl rfl rfl S.nd rfl (by rfl) ⟨by exact rfl, by decide, Or.inl T.xc_NotAllowed.g⟩ (fun W pn xe tk => (pss_cons (ps_if (pt_cmpR op_eq (pv 0) pe_str (nomark _)) (pss_one (ps_ret (pe_callS (ok_p_line T) (hr.mono (by decide)) (by rfl) T.g_p_line T.F_p_line.kp T.b_p_line (fun σ => passAt tk σ) (pa_cons (pv 1) pa_nil)))) pss_nil)
      (pss_cons (ps_if (pt_cmpR op_eq (pv 0) pe_str (nomark _)) (pss_one (ps_ret (pe_callS (ok_p_ring T) (hr.mono (by decide)) (by rfl) T.g_p_ring T.F_p_ring.kp T.b_p_ring (fun σ => passAt tk σ) (pa_cons (pv 1) pa_nil)))) pss_nil)
      (pss_cons (ps_if (pt_cmpR op_eq (pv 0) pe_str (nomark _)) (pss_one (ps_ret (pe_callS (ok_p_complete T) (hr.mono (by decide)) (by rfl) T.g_p_complete T.F_p_complete.kp T.b_p_complete (fun σ => passAt tk σ) (pa_cons (pv 1) pa_nil)))) pss_nil)
      (pss_cons (ps_if (pt_cmpR op_eq (pv 0) pe_str (nomark _)) (pss_one (ps_ret (pe_callS (ok_p_star T) (hr.mono (by decide)) (by rfl) T.g_p_star T.F_p_star.kp T.b_p_star (fun σ => passAt tk σ) (pa_cons (pv 1) pa_nil)))) pss_nil)
      (pss_cons (ps_if (pt_cmpR op_eq (pv 0) pe_str (nomark _)) (pss_one (ps_ret (pe_callS (ok_p_tree T) (hr.mono (by decide)) (by rfl) T.g_p_tree T.F_p_tree.kp T.b_p_tree (fun σ => passAt tk σ) (pa_cons (pv 1) pa_nil)))) pss_nil)
      (pss_one (ps_ret (pe_callS (ok_p_groups T) (hr.mono (by decide)) (by rfl) T.g_p_groups T.F_p_groups.kp T.b_p_groups (fun σ => passAt tk σ) (pa_cons (pv 1) (pa_cons (pv 2) pa_nil))))))))))) (fun a oe pn hz hf => (pss_one (ps_ret (pe_tup (pa_cons pe_str (pa_cons (pe_callB (call_isEK (K := K) rfl T.xq_NotAllowed hz hf) (by rfl) T.z_isinstance (by decide +kernel) (pa_cons (pv 3) (pa_cons (pe_glob (by rfl) T.xc_FabricError.g (show RelV (.ref T.xa_FabricError) _ from rfl)) pa_nil))) pa_nil)))))))), ?_⟩
  rintro ⟨word, first, second, _⟩
  show SimB _ _ _ _ _ _ [.sl (fz K (eS word)), .sl (fz K (eD first)), .sl (fz K (eI second)), .un] (l_told word first second)
  unfold l_told
  exact (SimB.is (m' := tryW (bnd (ret (decide (word = ("line" : Str)))) fun b1 => sel b1
  (bnd (bnd (opt (asI first)) fun x3 => p_line x3) fun y => ret ((e2 eI (eT (e2 eI eI))) y))
  (bnd (ret (decide (word = ("ring" : Str)))) fun b4 => sel b4
  (bnd (bnd (opt (asI first)) fun x6 => p_ring x6) fun y => ret ((e2 eI (eT (e2 eI eI))) y))
  (bnd (ret (decide (word = ("complete" : Str)))) fun b7 => sel b7
  (bnd (bnd (opt (asI first)) fun x9 => p_complete x9) fun y => ret ((e2 eI (eT (e2 eI eI))) y))
  (bnd (ret (decide (word = ("star" : Str)))) fun b10 => sel b10
  (bnd (bnd (opt (asI first)) fun x12 => p_star x12) fun y => ret ((e2 eI (eT (e2 eI eI))) y))
  (bnd (ret (decide (word = ("tree" : Str)))) fun b13 => sel b13
  (bnd (bnd (opt ((asAll asI) first)) fun x15 => p_tree x15) fun y => ret ((e2 eI (eT (e2 eI eI))) y))
  (bnd (bnd (opt (asI first)) fun x17 => p_groups x17 second) fun y => ret ((e2 eI (eT (e2 eI eI))) y))))))) (ret ((e2 eS eB) (("refused" : Str), true)))) (sb_tryA (ct := ctOf [T.xa_NotAllowed]) (ltb rfl) (af_cons fe_fz (af_cons fe_fz (af_cons fe_fz (af_cons fe_un af_nil)))) (fun _ => ⟨_, rfl⟩) (ct1 T.xc_NotAllowed.e) (ctOf1 _) (WInv.eq (wi_if (wi_if (wi_if (wi_if (wi_if wi_ret)))))) (fun E' => (sb_seq (sb_if (EvT.is (w' := (ret (decide (word = ("line" : Str))))) (et_test (ev_opF (ev_f (e := eS) word rfl) ev_str (fun _ _ => o_eqS _ _))) rfl) (sb_retF (EvG.is (w' := (bnd (bnd (opt (asI first)) fun x3 => p_line x3) fun y => ret ((e2 eI (eT (e2 eI eI))) y))) (ev_data (e := (e2 eI (eT (e2 eI eI)))) (ev_callXS (e2 eI (eT (e2 eI eI))) (es_f (ev_as (f := asI) (e := eI) (ev_f (e := eD) first rfl) as_I) es_nil) (fun _ => rfl))) rfl) (fun _ => rfl)) (sb_next (la_in (sb_seq (sb_if (EvT.is (w' := (ret (decide (word = ("ring" : Str))))) (et_test (ev_opF (ev_f (e := eS) word rfl) ev_str (fun _ _ => o_eqS _ _))) rfl) (sb_retF (EvG.is (w' := (bnd (bnd (opt (asI first)) fun x6 => p_ring x6) fun y => ret ((e2 eI (eT (e2 eI eI))) y))) (ev_data (e := (e2 eI (eT (e2 eI eI)))) (ev_callXS (e2 eI (eT (e2 eI eI))) (es_f (ev_as (f := asI) (e := eI) (ev_f (e := eD) first rfl) as_I) es_nil) (fun _ => rfl))) rfl) (fun _ => rfl)) (sb_next (la_in (sb_seq (sb_if (EvT.is (w' := (ret (decide (word = ("complete" : Str))))) (et_test (ev_opF (ev_f (e := eS) word rfl) ev_str (fun _ _ => o_eqS _ _))) rfl) (sb_retF (EvG.is (w' := (bnd (bnd (opt (asI first)) fun x9 => p_complete x9) fun y => ret ((e2 eI (eT (e2 eI eI))) y))) (ev_data (e := (e2 eI (eT (e2 eI eI)))) (ev_callXS (e2 eI (eT (e2 eI eI))) (es_f (ev_as (f := asI) (e := eI) (ev_f (e := eD) first rfl) as_I) es_nil) (fun _ => rfl))) rfl) (fun _ => rfl)) (sb_next (la_in (sb_seq (sb_if (EvT.is (w' := (ret (decide (word = ("star" : Str))))) (et_test (ev_opF (ev_f (e := eS) word rfl) ev_str (fun _ _ => o_eqS _ _))) rfl) (sb_retF (EvG.is (w' := (bnd (bnd (opt (asI first)) fun x12 => p_star x12) fun y => ret ((e2 eI (eT (e2 eI eI))) y))) (ev_data (e := (e2 eI (eT (e2 eI eI)))) (ev_callXS (e2 eI (eT (e2 eI eI))) (es_f (ev_as (f := asI) (e := eI) (ev_f (e := eD) first rfl) as_I) es_nil) (fun _ => rfl))) rfl) (fun _ => rfl)) (sb_next (la_in (sb_seq (sb_if (EvT.is (w' := (ret (decide (word = ("tree" : Str))))) (et_test (ev_opF (ev_f (e := eS) word rfl) ev_str (fun _ _ => o_eqS _ _))) rfl) (sb_retF (EvG.is (w' := (bnd (bnd (opt ((asAll asI) first)) fun x15 => p_tree x15) fun y => ret ((e2 eI (eT (e2 eI eI))) y))) (ev_data (e := (e2 eI (eT (e2 eI eI)))) (ev_callXS (e2 eI (eT (e2 eI eI))) (es_f (ev_as (f := (asAll asI)) (e := (eT eI)) (ev_f (e := eD) first rfl) (as_all as_I)) es_nil) (fun _ => rfl))) rfl) (fun _ => rfl)) (sb_next (la_in (sb_retF (EvG.is (w' := (bnd (bnd (opt (asI first)) fun x17 => p_groups x17 second) fun y => ret ((e2 eI (eT (e2 eI eI))) y))) (ev_data (e := (e2 eI (eT (e2 eI eI)))) (ev_callXS (e2 eI (eT (e2 eI eI))) (es_f (ev_as (f := asI) (e := eI) (ev_f (e := eD) first rfl) as_I) (es_f (ev_f (e := eI) second rfl) es_nil)) (fun _ => rfl))) rfl) (fun _ => rfl))))))))))))))))))))))) (fun a => (sb_retF (EvG.is (w' := (ret ((e2 eS eB) (("refused" : Str), true)))) (ev_data (e := (e2 eS eB)) (ev_tupS (fun x => (x.1, x.2.1)) (e2 eS eB) (es_f ev_str (es_f (ev_isE rfl T.xi_NotAllowed_FabricError) es_nil)) (fun _ => (AllF.cons (AllF.cons AllF.nil))) (fun _ => rfl) (fun _ => rfl))) rfl) (fun _ => rfl)))) rfl)

end
end Cf
namespace Cf
open PySem PySem.Spec PyProof.Rows L2 WL
section
variable {P : Program} {w : World} {K : PySem.W.Frag} {mg : Str → Option Value} {base : Heap}
set_option maxHeartbeats 4000000
theorem ok_p_is_numberD (T : Tx K mg) : FnOk P w K mg base CX0 1 T.f_p_is_numberD T.d_p_is_numberD ["value", "least", "most"] (spN K (fun x : PyData × Int × Int × Unit => [.d (eD x.1), .d (eI x.2.1), .d (eI x.2.2.1)]) (fun x => p_is_numberD x.1 x.2.1 x.2.2.1) (fun r : Bool => .fz (eB r))) := by
  have S := sc_p_is_numberD
  refine fn_n (N := nn_p_is_numberD) T.F_p_is_numberD S (fun _ => rfl) (fun cdv A outer s H E hr => ?_)
  refine ⟨_, (pss_one (ps_ret (pe_and (pe_callB (cr_isaInt (K := K) rfl) (by rfl) T.z_isinstance (by decide +kernel) (pa_cons (pv 0) (pa_cons (pe_bltn (v := .ty "int") (by rfl) T.z_int (by decide +kernel) rfl) pa_nil))) (pe_and (pe_not (pe_callB (cr_isaBool (K := K) rfl) (by rfl) T.z_isinstance (by decide +kernel) (pa_cons (pv 0) (pa_cons (pe_bltn (v := .ty "bool") (by rfl) T.z_bool (by decide +kernel) rfl) pa_nil)))) (pe_one (pe_chain op_le op_le (pv 1) (pv 0) (pv 2))))))), ?_⟩
  rintro ⟨value, least, most, _⟩
  show SimB _ _ _ _ _ _ [.sl (fz K (eD value)), .sl (fz K (eI least)), .sl (fz K (eI most))] (p_is_numberD value least most)
  unfold p_is_numberD
  exact (sb_retF (EvG.is (w' := (sel (PyData.isInt (eD value)) (sel (!(PyData.isBool (eD value))) (bnd (opt (asI value)) fun x1 => sel (decide (least ≤ x1)) (ret (decide (x1 ≤ most))) (ret false)) (ret false)) (ret false))) (ev_andV (ev_isa (f := PyData.isInt) (ev_f (e := eD) value rfl)) (ev_andV (ev_notV (ev_isa (f := PyData.isBool) (ev_f (e := eD) value rfl))) (ev_chainI (ev_f (e := eI) least rfl) (ev_as (f := asI) (e := eI) (ev_f (e := eD) value rfl) as_I) (ev_f (e := eI) most rfl) (fun _ _ => o_le _ _) (fun _ _ => o_le _ _)))) (by simp only [ret_bnd, bnd_bnd, mapW_bnd, mapW_ret] <;> rfl)) (fun _ => rfl))

end
end Cf
namespace Cf
open PySem PySem.Spec PyProof.Rows L2 WL
section
variable {P : Program} {w : World} {K : PySem.W.Frag} {mg : Str → Option Value} {base : Heap}
set_option maxHeartbeats 4000000
theorem ok_p_is_link (T : Tx K mg) : FnOk P w K mg base CX0 2 T.f_p_is_link T.d_p_is_link ["value", "n"] (spN K (fun x : PyData × Int × Unit => [.d (eD x.1), .d (eI x.2.1)]) (fun x => p_is_link x.1 x.2.1) (fun r : Bool => .fz (eB r))) := by
  have S := sc_p_is_link
  refine fn_n (N := nn_p_is_link) T.F_p_is_link S (fun _ => rfl) (fun cdv A outer s H E hr => ?_)
  refine ⟨_, (pss_cons (ps_if (PW.pt (pw_or (pt_not (pt_val (pe_callB (cr_isaTuple (K := K) rfl) (by rfl) T.z_isinstance (by decide +kernel) (pa_cons (pv 0) (pa_cons (pe_bltn (v := .ty "tuple") (by rfl) T.z_tuple (by decide +kernel) rfl) pa_nil))))) (pw_or1 (pt_cmpR op_ne (pe_callB (call_lenK (K := K) rfl) (by rfl) T.z_len (by decide +kernel) (pa_cons (pv 0) pa_nil)) pe_int (nomark _))))) (pss_one (ps_ret pe_bl)) pss_nil)
      (pss_one (ps_ret (pe_and (pe_callB (cr_allK (K := K) rfl rfl) (by rfl) T.z_all (by decide +kernel) (pa_cons (pe_lc (own := [("node", 2)]) rfl S.nd (pi_tupK (K := K) rfl (pv 0)) (blkOk_by (N := nn_p_is_link) (sc := (defScope s_p_is_link)) (own := [("node", 2)]) (by decide +kernel)) (fun _ _ _ _ _ => (pg_name (i := 2) S.nd rfl (by first | exact .inl rfl | exact .inr rfl))) (fun _ _ _ _ _ => pts_nil) (fun _ _ _ _ _ => (pe_call (ok_p_is_numberD T) (hr.mono (by decide)) (by rfl) T.g_p_is_numberD T.F_p_is_numberD.kp T.b_p_is_numberD .nil pass0 (pa_cons (pv 2) (pa_cons pe_int (pa_cons (pe_op op_sub (pv 1) pe_int) pa_nil)))))) pa_nil)) (pe_one (pe_cmpR op_lt (pe_ix (ix_tupK (K := K) rfl) (pv 0) pe_int (fun _ _ => rfl)) (pe_ix (ix_tupK (K := K) rfl) (pv 0) pe_int (fun _ _ => rfl)) (nomark _))))))), ?_⟩
  rintro ⟨value, n, _⟩
  show SimB _ _ _ _ _ _ [.sl (fz K (eD value)), .sl (fz K (eI n)), .un] (p_is_link value n)
  unfold p_is_link
  exact (sb_seq (sb_if (EvT.is (w' := (sel (!(PyData.isTuple (eD value))) (ret true) (bnd (bnd (opt (asT value)) fun x1 => ret (x1.length : Int)) fun x2 => ret (!decide (x2 = (2 : Int)))))) (et_or (et_not (et_B (ev_isa (f := PyData.isTuple) (ev_f (e := eD) value rfl)))) (et_test (ev_opF (ev_b1F (ev_as (f := asT) (e := (eT eD)) (ev_f (e := eD) value rfl) as_T) (fun _ => c_lenT _)) ev_int (fun _ _ => o_neI _ _)))) rfl) (sb_retF (EvG.is (w' := (ret false)) ev_bl rfl) (fun _ => rfl)) (sb_next (la_in (sb_retF (EvG.is (w' := (bnd (bnd (bnd (opt (asT value)) fun l5 => lcG (fun c4 => (ret true)) (fun c4 => (noX (p_is_numberD c4 (0 : Int) (n - (1 : Int))))) l5) fun x6 => ret (List.all x6 id)) fun x13 => sel x13 (bnd (bnd (bnd (opt (asT value)) fun x7 => opt (atI x7 (0 : Int))) fun x9 => opt (asI x9)) fun x11 => bnd (bnd (bnd (opt (asT value)) fun x8 => opt (atI x8 (1 : Int))) fun x10 => opt (asI x10)) fun x12 => ret (decide (x11 < x12))) (ret false))) (ev_andV (ev_b1L (EvG.rl (ev_lc (e := eD) (c := fun c4 => (ret true)) (f := fun c4 => (noX (p_is_numberD c4 (0 : Int) (n - (1 : Int))))) (ItG.is (w' := (opt (asT value))) (it_tup (ev_as (f := asT) (e := (eT eD)) (ev_f (e := eD) value rfl) as_T)) rfl) (fun c4 => (tg_name (ltb rfl))) (fun c4 => (EvT.is (w' := (ret true)) et_yes rfl)) (fun c4 => (EvG.is (w' := (noX (p_is_numberD c4 (0 : Int) (n - (1 : Int))))) (ev_callS eB (es_f (ev_f (e := eD) c4 rfl) (es_f ev_int (es_f (ev_opF (ev_f (e := eI) n rfl) ev_int (fun _ _ => o_sub _ _)) es_nil))) (fun _ => rfl)) rfl)))) (fun _ => c_all _)) (ev_opF (ev_as (f := asI) (e := eI) (ev_opF (ev_as (f := asT) (e := (eT eD)) (ev_f (e := eD) value rfl) as_T) ev_int (fun _ _ => o_ixT _ _)) as_I) (ev_as (f := asI) (e := eI) (ev_opF (ev_as (f := asT) (e := (eT eD)) (ev_f (e := eD) value rfl) as_T) ev_int (fun _ _ => o_ixT _ _)) as_I) (fun _ _ => o_lt _ _))) (by simp only [ret_bnd, bnd_bnd, mapW_bnd, mapW_ret] <;> rfl)) (fun _ => rfl))))))

end
end Cf
namespace Cf
open PySem PySem.Spec PyProof.Rows L2 WL
section
variable {P : Program} {w : World} {K : PySem.W.Frag} {mg : Str → Option Value} {base : Heap}
set_option maxHeartbeats 4000000
theorem ok_p_is_frame (T : Tx K mg) : FnOk P w K mg base CX0 3 T.f_p_is_frame T.d_p_is_frame ["value"] (spN K (fun x : PyData × Unit => [.d (eD x.1)]) (fun x => p_is_frame x.1) (fun r : Bool => .fz (eB r))) := by
  have S := sc_p_is_frame
  refine fn_n (N := nn_p_is_frame) T.F_p_is_frame S (fun _ => rfl) (fun cdv A outer s H E hr => ?_)
  refine ⟨_, (pss_cons (ps_if (PW.pt (pw_or (pt_not (pt_val (pe_callB (cr_isaTuple (K := K) rfl) (by rfl) T.z_isinstance (by decide +kernel) (pa_cons (pv 0) (pa_cons (pe_bltn (v := .ty "tuple") (by rfl) T.z_tuple (by decide +kernel) rfl) pa_nil))))) (pw_or (pt_cmpR op_ne (pe_callB (call_lenK (K := K) rfl) (by rfl) T.z_len (by decide +kernel) (pa_cons (pv 0) pa_nil)) pe_int (nomark _)) (pw_or1 (pt_not (pt_val (pe_call (ok_p_is_numberD T) (hr.mono (by decide)) (by rfl) T.g_p_is_numberD T.F_p_is_numberD.kp T.b_p_is_numberD .nil pass0 (pa_cons (pe_ix (ix_tupK (K := K) rfl) (pv 0) pe_int (fun _ _ => rfl)) (pa_cons pe_int (pa_cons (pe_glob (by rfl) T.c_p_MAX_NODES (show RelV (.int 64) _ from ⟨_, rfl⟩)) pa_nil)))))))))) (pss_one (ps_ret pe_bl)) pss_nil)
      (pss_cons (ps_set (i := 1) S.nd rfl (by first | exact .inl rfl | exact .inr rfl) (pe_ix (ix_tupK (K := K) rfl) (pv 0) pe_int (fun _ _ => rfl)))
      (pss_cons (ps_if (PW.pt (pw_or (pt_not (pt_val (pe_callB (cr_isaTuple (K := K) rfl) (by rfl) T.z_isinstance (by decide +kernel) (pa_cons (pv 1) (pa_cons (pe_bltn (v := .ty "tuple") (by rfl) T.z_tuple (by decide +kernel) rfl) pa_nil))))) (pw_or (pt_cmpR op_eq (pe_callB (call_lenK (K := K) rfl) (by rfl) T.z_len (by decide +kernel) (pa_cons (pv 1) pa_nil)) pe_int (nomark _)) (pw_or1 (pt_not (pt_val (pe_callB (cr_allK (K := K) rfl rfl) (by rfl) T.z_all (by decide +kernel) (pa_cons (pe_lc (own := [("link", 2)]) rfl S.nd (pi_tupK (K := K) rfl (pv 1)) (blkOk_by (N := nn_p_is_frame) (sc := (defScope s_p_is_frame)) (own := [("link", 2)]) (by decide +kernel)) (fun _ _ _ _ _ => (pg_name (i := 2) S.nd rfl (by first | exact .inl rfl | exact .inr rfl))) (fun _ _ _ _ _ => pts_nil) (fun _ _ _ _ _ => (pe_call (ok_p_is_link T) (hr.mono (by decide)) (by rfl) T.g_p_is_link T.F_p_is_link.kp T.b_p_is_link .nil pass0 (pa_cons (pv 2) (pa_cons (pe_ix (ix_tupK (K := K) rfl) (pv 0) pe_int (fun _ _ => rfl)) pa_nil))))) pa_nil)))))))) (pss_one (ps_ret pe_bl)) pss_nil)
      (pss_one (ps_ret (pe_callB (cr_allK (K := K) rfl rfl) (by rfl) T.z_all (by decide +kernel) (pa_cons (pe_lc (own := [("at", 3)]) rfl S.nd (pi_range1 (by rfl) T.z_range (pa_cons (pe_op op_sub (pe_callB (call_lenK (K := K) rfl) (by rfl) T.z_len (by decide +kernel) (pa_cons (pv 1) pa_nil)) pe_int) pa_nil)) (blkOk_by (N := nn_p_is_frame) (sc := (defScope s_p_is_frame)) (own := [("at", 3)]) (by decide +kernel)) (fun _ _ _ _ _ => (pg_name (i := 3) S.nd rfl (by first | exact .inl rfl | exact .inr rfl))) (fun _ _ _ _ _ => pts_nil) (fun _ _ _ _ _ => (pe_cmpR (op_ltDK (K := K) rfl hr.units) (pe_ix (ix_tupK (K := K) rfl) (pv 1) (pv 3) (fun _ _ => rfl)) (pe_ix (ix_tupK (K := K) rfl) (pv 1) (pe_op op_add (pv 3) pe_int) (fun _ _ => rfl)) (nomark _)))) pa_nil))))))), ?_⟩
  rintro ⟨value, _⟩
  show SimB _ _ _ _ _ _ [.sl (fz K (eD value)), .un, .un, .un] (p_is_frame value)
  unfold p_is_frame
  exact (sb_seq (sb_if (EvT.is (w' := (sel (!(PyData.isTuple (eD value))) (ret true) (bnd (bnd (bnd (opt (asT value)) fun x1 => ret (x1.length : Int)) fun x2 => ret (!decide (x2 = (2 : Int)))) fun x6 => sel x6 (ret true) (bnd (bnd (bnd (opt (asT value)) fun x3 => opt (atI x3 (0 : Int))) fun x4 => noX (p_is_numberD x4 (2 : Int) (64 : Int))) fun x5 => ret (!x5))))) (et_or (et_not (et_B (ev_isa (f := PyData.isTuple) (ev_f (e := eD) value rfl)))) (et_or (et_test (ev_opF (ev_b1F (ev_as (f := asT) (e := (eT eD)) (ev_f (e := eD) value rfl) as_T) (fun _ => c_lenT _)) ev_int (fun _ _ => o_neI _ _))) (et_not (et_B (ev_callS eB (es_f (ev_opF (ev_as (f := asT) (e := (eT eD)) (ev_f (e := eD) value rfl) as_T) ev_int (fun _ _ => o_ixT _ _)) (es_f ev_int (es_f ev_int es_nil))) (fun _ => rfl)))))) (by simp only [ret_bnd, bnd_bnd, mapW_bnd, mapW_ret] <;> rfl)) (sb_retF (EvG.is (w' := (ret false)) ev_bl rfl) (fun _ => rfl)) (sb_next (la_in (sb_seq (sb_set (e := eD) (EvG.is (w' := (bnd (opt (asT value)) fun x8 => opt (atI x8 (1 : Int)))) (ev_opF (ev_as (f := asT) (e := (eT eD)) (ev_f (e := eD) value rfl) as_T) ev_int (fun _ _ => o_ixT _ _)) rfl) (ltb rfl) (fun links_9 => (la_in (sb_seq (sb_if (EvT.is (w' := (sel (!(PyData.isTuple (eD links_9))) (ret true) (bnd (bnd (bnd (opt (asT links_9)) fun x10 => ret (x10.length : Int)) fun x11 => ret (decide (x11 = (0 : Int)))) fun x19 => sel x19 (ret true) (bnd (bnd (bnd (opt (asT links_9)) fun l16 => lcG (fun c12 => (ret true)) (fun c12 => (bnd (bnd (bnd (opt (asT value)) fun x13 => opt (atI x13 (0 : Int))) fun x14 => opt (asI x14)) fun x15 => noX (p_is_link c12 x15))) l16) fun x17 => ret (List.all x17 id)) fun x18 => ret (!x18))))) (et_or (et_not (et_B (ev_isa (f := PyData.isTuple) (ev_f (e := eD) links_9 rfl)))) (et_or (et_test (ev_opF (ev_b1F (ev_as (f := asT) (e := (eT eD)) (ev_f (e := eD) links_9 rfl) as_T) (fun _ => c_lenT _)) ev_int (fun _ _ => o_eqI _ _))) (et_not (et_B (ev_b1L (EvG.rl (ev_lc (e := eD) (c := fun c12 => (ret true)) (f := fun c12 => (bnd (bnd (bnd (opt (asT value)) fun x13 => opt (atI x13 (0 : Int))) fun x14 => opt (asI x14)) fun x15 => noX (p_is_link c12 x15))) (ItG.is (w' := (opt (asT links_9))) (it_tup (ev_as (f := asT) (e := (eT eD)) (ev_f (e := eD) links_9 rfl) as_T)) rfl) (fun c12 => (tg_name (ltb rfl))) (fun c12 => (EvT.is (w' := (ret true)) et_yes rfl)) (fun c12 => (EvG.is (w' := (bnd (bnd (bnd (opt (asT value)) fun x13 => opt (atI x13 (0 : Int))) fun x14 => opt (asI x14)) fun x15 => noX (p_is_link c12 x15))) (ev_callS eB (es_f (ev_f (e := eD) c12 rfl) (es_f (ev_as (f := asI) (e := eI) (ev_opF (ev_as (f := asT) (e := (eT eD)) (ev_f (e := eD) value rfl) as_T) ev_int (fun _ _ => o_ixT _ _)) as_I) es_nil)) (fun _ => rfl)) (by simp only [ret_bnd, bnd_bnd, mapW_bnd, mapW_ret] <;> rfl))))) (fun _ => c_all _)))))) (by simp only [ret_bnd, bnd_bnd, mapW_bnd, mapW_ret] <;> rfl)) (sb_retF (EvG.is (w' := (ret false)) ev_bl rfl) (fun _ => rfl)) (sb_next (la_in (sb_retF (EvG.is (w' := (bnd (bnd (bnd (bnd (bnd (opt (asT links_9)) fun x21 => ret (x21.length : Int)) fun x22 => ret (x22 - (1 : Int))) fun x23 => grd (Rng x23) (ret (span 0 (x23).toNat))) fun l31 => lcG (fun c24 => (ret true)) (fun c24 => (bnd (bnd (bnd (opt (asT links_9)) fun x25 => opt (atI x25 c24)) fun x27 => opt ((asQ2 asI asI) x27)) fun x29 => bnd (bnd (bnd (opt (asT links_9)) fun x26 => opt (atI x26 (c24 + (1 : Int)))) fun x28 => opt ((asQ2 asI asI) x28)) fun x30 => ltW ((e2 eI eI) x29) ((e2 eI eI) x30))) l31) fun x32 => ret (List.all x32 id))) (ev_b1L (EvG.rl (ev_lc (e := eI) (c := fun c24 => (ret true)) (f := fun c24 => (bnd (bnd (bnd (opt (asT links_9)) fun x25 => opt (atI x25 c24)) fun x27 => opt ((asQ2 asI asI) x27)) fun x29 => bnd (bnd (bnd (opt (asT links_9)) fun x26 => opt (atI x26 (c24 + (1 : Int)))) fun x28 => opt ((asQ2 asI asI) x28)) fun x30 => ltW ((e2 eI eI) x29) ((e2 eI eI) x30))) (ItG.is (w' := (bnd (bnd (bnd (opt (asT links_9)) fun x21 => ret (x21.length : Int)) fun x22 => ret (x22 - (1 : Int))) fun x23 => grd (Rng x23) (ret (span 0 (x23).toNat)))) (it_range1 (ev_opF (ev_b1F (ev_as (f := asT) (e := (eT eD)) (ev_f (e := eD) links_9 rfl) as_T) (fun _ => c_lenT _)) ev_int (fun _ _ => o_sub _ _))) (by simp only [ret_bnd, bnd_bnd, mapW_bnd, mapW_ret] <;> rfl)) (fun c24 => (tg_name (ltb rfl))) (fun c24 => (EvT.is (w' := (ret true)) et_yes rfl)) (fun c24 => (EvG.is (w' := (bnd (bnd (bnd (opt (asT links_9)) fun x25 => opt (atI x25 c24)) fun x27 => opt ((asQ2 asI asI) x27)) fun x29 => bnd (bnd (bnd (opt (asT links_9)) fun x26 => opt (atI x26 (c24 + (1 : Int)))) fun x28 => opt ((asQ2 asI asI) x28)) fun x30 => ltW ((e2 eI eI) x29) ((e2 eI eI) x30))) (ev_opF (ev_as (f := (asQ2 asI asI)) (e := (e2 eI eI)) (ev_opF (ev_as (f := asT) (e := (eT eD)) (ev_f (e := eD) links_9 rfl) as_T) (ev_f (e := eI) c24 rfl) (fun _ _ => o_ixT _ _)) (as_Q2 as_I as_I)) (ev_as (f := (asQ2 asI asI)) (e := (e2 eI eI)) (ev_opF (ev_as (f := asT) (e := (eT eD)) (ev_f (e := eD) links_9 rfl) as_T) (ev_opF (ev_f (e := eI) c24 rfl) ev_int (fun _ _ => o_add _ _)) (fun _ _ => o_ixT _ _)) (as_Q2 as_I as_I)) (fun _ _ => o_ltDW _ _)) (by simp only [ret_bnd, bnd_bnd, mapW_bnd, mapW_ret] <;> rfl))))) (fun _ => c_all _)) (by simp only [ret_bnd, bnd_bnd, mapW_bnd, mapW_ret] <;> rfl)) (fun _ => rfl))))))))))))))

end
end Cf
namespace Cf
open PySem PySem.Spec PyProof.Rows L2 WL
section
variable {P : Program} {w : World} {K : PySem.W.Frag} {mg : Str → Option Value} {base : Heap}
set_option maxHeartbeats 4000000
theorem ok_law20 (T : Tx K mg) (hm : law20 (fun b => b = true) (fun _ => False)) : FnOk P w K mg base CX0 5 T.f_law20 T.d_law20 ["_law_script"] (spLaw K) := by
  have S := sc_law20
  refine T.F_law20.ok S (fun vs H Q E h => by obtain ⟨p, ns, rfl, _⟩ := h; rfl) (fun cdv A outer s H vs Q E hr h => ?_)
  obtain ⟨p, ns, rfl, hs, q⟩ := h
  refine ⟨_, (pss_cons (ps_set (i := 1) S.nd rfl (by first | exact .inl rfl | exact .inr rfl) (pe_call (ok_l_tape T) (hr.mono (by decide)) (by rfl) T.g_l_tape T.F_l_tape.kp T.b_l_tape .nil pass0 (pa_cons (pv 0) (pa_cons pe_int pa_nil))))
    (pss_cons (ps_for PassesOwn.never rfl (pi_range1 (by rfl) T.z_range (pa_cons pe_int pa_nil)) (pg_name (i := 2) S.nd rfl (by first | exact .inl rfl | exact .inr rfl)) (pss_cons (ps_set (i := 3) S.nd rfl (by first | exact .inl rfl | exact .inr rfl) (pe_ix (ix_listK (K := K) rfl) (pe_lst (pa_cons pe_str (pa_cons pe_str (pa_cons pe_str (pa_cons pe_str (pa_cons pe_str (pa_cons pe_str pa_nil))))))) (pe_call (ok_l_take T) (hr.mono (by decide)) (by rfl) T.g_l_take T.F_l_take.kp T.b_l_take .nil pass0 (pa_cons (pv 1) (pa_cons pe_int pa_nil))) (fun _ _ => rfl)))
      (pss_cons (ps_set (i := 4) S.nd rfl (by first | exact .inl rfl | exact .inr rfl) (pe_ifExp (pt_cmpR op_eq (pv 3) pe_str (nomark _)) (pe_call (ok_l_parents T) (hr.mono (by decide)) (by rfl) T.g_l_parents T.F_l_parents.kp T.b_l_parents .nil pass0 (pa_cons (pv 1) pa_nil)) (pe_ifExp (pt_cmpR op_eq (pe_call (ok_l_take T) (hr.mono (by decide)) (by rfl) T.g_l_take T.F_l_take.kp T.b_l_take .nil pass0 (pa_cons (pv 1) (pa_cons pe_int pa_nil))) pe_int (nomark _)) (pe_call (ok_l_take T) (hr.mono (by decide)) (by rfl) T.g_l_take T.F_l_take.kp T.b_l_take .nil pass0 (pa_cons (pv 1) (pa_cons pe_int pa_nil))) (pe_op op_sub (pe_call (ok_l_take T) (hr.mono (by decide)) (by rfl) T.g_l_take T.F_l_take.kp T.b_l_take .nil pass0 (pa_cons (pv 1) (pa_cons pe_int pa_nil))) pe_int))))
      (pss_cons (ps_set (i := 5) S.nd rfl (by first | exact .inl rfl | exact .inr rfl) (pe_ifExp (pt_cmpR op_gt (pe_call (ok_l_take T) (hr.mono (by decide)) (by rfl) T.g_l_take T.F_l_take.kp T.b_l_take .nil pass0 (pa_cons (pv 1) (pa_cons pe_int pa_nil))) pe_int (nomark _)) (pe_op op_sub (pe_call (ok_l_take T) (hr.mono (by decide)) (by rfl) T.g_l_take T.F_l_take.kp T.b_l_take .nil pass0 (pa_cons (pv 1) (pa_cons pe_int pa_nil))) pe_int) (pe_call (ok_l_take T) (hr.mono (by decide)) (by rfl) T.g_l_take T.F_l_take.kp T.b_l_take .nil pass0 (pa_cons (pv 1) (pa_cons pe_int pa_nil)))))
      (pss_cons (ps_set (i := 6) S.nd rfl (by first | exact .inl rfl | exact .inr rfl) (pe_call (ok_l_told T) (hr.mono (by decide)) (by rfl) T.g_l_told T.F_l_told.kp T.b_l_told .nil pass0 (pa_cons (pv 3) (pa_cons (pv 4) (pa_cons (pv 5) pa_nil)))))
      (pss_cons (ps_if (pt_cmpR (op_neDK (K := K) rfl hr.units) (pv 6) (pe_call (ok_l_due20 T) (hr.mono (by decide)) (by rfl) T.g_l_due20 T.F_l_due20.kp T.b_l_due20 .nil pass0 (pa_cons (pv 3) (pa_cons (pv 4) (pa_cons (pv 5) pa_nil)))) (nomark _)) (pss_one (ps_ret pe_bl)) pss_nil)
      (pss_one (ps_if (PW.pt (pw_and (pt_cmpR (op_neDK (K := K) rfl hr.units) (pe_ix (ix_tupK (K := K) rfl) (pv 6) pe_int (fun _ _ => rfl)) pe_str (nomark _)) (pw_and1 (PW.pt (pw_or (pt_cmpR op_notBl (pe_call (ok_p_is_frame T) (hr.mono (by decide)) (by rfl) T.g_p_is_frame T.F_p_is_frame.kp T.b_p_is_frame .nil pass0 (pa_cons (pv 6) pa_nil)) pe_bl (nomark _)) (pw_or1 (pt_cmpR op_notBl (pe_call (ok_p_is_frame T) (hr.mono (by decide)) (by rfl) T.g_p_is_frame T.F_p_is_frame.kp T.b_p_is_frame .nil pass0 (pa_cons (pe_call (ok_l_bad T) (hr.mono (by decide)) (by rfl) T.g_l_bad T.F_l_bad.kp T.b_l_bad .nil pass0 (pa_cons (pv 1) (pa_cons (pv 6) pa_nil))) pa_nil)) pe_bl (nomark _)))))))) (pss_one (ps_ret pe_bl)) pss_nil))))))))
      (pss_cons (ps_set (i := 7) S.nd rfl (by first | exact .inl rfl | exact .inr rfl) (pe_op op_add pe_int (pe_call (ok_l_take T) (hr.mono (by decide)) (by rfl) T.g_l_take T.F_l_take.kp T.b_l_take .nil pass0 (pa_cons (pv 1) (pa_cons pe_int pa_nil)))))
      (pss_cons (ps_set (i := 8) S.nd rfl (by first | exact .inl rfl | exact .inr rfl) (pe_lst pa_nil))
      (pss_cons (ps_for PassesOwn.never rfl (pi_range1 (by rfl) T.z_range (pa_cons (pv 7) pa_nil)) (pg_name (i := 9) S.nd rfl (by first | exact .inl rfl | exact .inr rfl)) (pss_one (ps_for PassesOwn.never rfl (pi_range2 (by rfl) T.z_range (pa_cons (pe_op op_add (pv 9) pe_int) (pa_cons (pv 7) pa_nil))) (pg_name (i := 10) S.nd rfl (by first | exact .inl rfl | exact .inr rfl)) (pss_one (ps_if (pt_cmpR op_eq (pe_call (ok_l_take T) (hr.mono (by decide)) (by rfl) T.g_l_take T.F_l_take.kp T.b_l_take .nil pass0 (pa_cons (pv 1) (pa_cons pe_int pa_nil))) pe_int (nomark _)) (pss_one (ps_expr (pe_bm PySem.F.plainAttrs_list PySem.F.slot_list_append PySem.F.type_list_append mt_append (pv 8) (pa_cons (pe_tup (pa_cons (pv 9) (pa_cons (pv 10) pa_nil))) pa_nil)))) pss_nil)))))
      (pss_cons (ps_if (pt_cmpR op_eq (pe_callB (call_lenK (K := K) rfl) (by rfl) T.z_len (by decide +kernel) (pa_cons (pv 8) pa_nil)) pe_int (nomark _)) (pss_one (ps_ret (pe_cmpR op_isBl (pe_call (ok_p_is_frame T) (hr.mono (by decide)) (by rfl) T.g_p_is_frame T.F_p_is_frame.kp T.b_p_is_frame .nil pass0 (pa_cons (pe_tup (pa_cons (pv 7) (pa_cons (pe_tup pa_nil) pa_nil))) pa_nil)) pe_bl (nomark _)))) pss_nil)
      (pss_cons (ps_if (PW.pt (pw_and (pt_cmpR op_gt (pe_callB (call_lenK (K := K) rfl) (by rfl) T.z_len (by decide +kernel) (pa_cons (pv 8) pa_nil)) pe_int (nomark _)) (pw_and1 (pt_cmpR op_notBl (pe_call (ok_p_is_frame T) (hr.mono (by decide)) (by rfl) T.g_p_is_frame T.F_p_is_frame.kp T.b_p_is_frame .nil pass0 (pa_cons (pe_tup (pa_cons (pv 7) (pa_cons (pe_callTy (call_tupK (K := K) rfl) (by rfl) T.z_tuple (by decide +kernel) (pa_cons (pe_revLK (K := K) rfl (pv 8)) pa_nil)) pa_nil))) pa_nil)) pe_bl (nomark _))))) (pss_one (ps_ret pe_bl)) pss_nil)
      (pss_one (ps_ret (pe_and (pe_cmpR op_isBl (pe_call (ok_p_is_frame T) (hr.mono (by decide)) (by rfl) T.g_p_is_frame T.F_p_is_frame.kp T.b_p_is_frame .nil pass0 (pa_cons (pe_tup (pa_cons (pv 7) (pa_cons (pe_callTy (call_tupK (K := K) rfl) (by rfl) T.z_tuple (by decide +kernel) (pa_cons (pv 8) pa_nil)) pa_nil))) pa_nil)) pe_bl (nomark _)) (pe_and (pe_cmpR op_isBl (pe_call (ok_p_is_frame T) (hr.mono (by decide)) (by rfl) T.g_p_is_frame T.F_p_is_frame.kp T.b_p_is_frame .nil pass0 (pa_cons (pe_call (ok_l_bad T) (hr.mono (by decide)) (by rfl) T.g_l_bad T.F_l_bad.kp T.b_l_bad .nil pass0 (pa_cons (pv 1) (pa_cons (pe_tup (pa_cons (pv 7) (pa_cons (pe_callTy (call_tupK (K := K) rfl) (by rfl) T.z_tuple (by decide +kernel) (pa_cons (pv 8) pa_nil)) pa_nil))) pa_nil))) pa_nil)) pe_bl (nomark _)) (pe_one (pe_cmpR op_eq (pe_glob (by rfl) T.c_p_MAX_LANES (show RelV (.int 8) _ from ⟨_, rfl⟩)) pe_int (nomark _)))))))))))))), ?_⟩
  refine seq_via (fun σ' H' => ∃ a b, σ' = some (.ref p) :: some (.ref a) :: List.replicate 9 none ∧ tape1.own H' (.ref a) [a, b]) (fun N hN => ⟨_, rfl, p, ns, (0 : Int), rfl, hs, fun H' a b _ ho => hN _ _ ⟨a, b, rfl, ho⟩⟩) ?_
  rintro σ' H' ⟨a, b, rfl, ho⟩
  refine law_run (K := K) (n := 9) (m := law20) ?_ hm ho q
  show SimB _ _ _ _ _ _ [.un, .tp tape1, .un, .un, .un, .un, .un, .un, .un, .un, .un] (law20)
  unfold law20
  exact (sb_seq (sb_for (S := Unit) (e := eI) (Γh := fun s2 => [.un, .tp tape1, .un, .un, .un, .un, .un, .un, .un, .un, .un]) () (ItG.is (w' := (grd (Rng (4 : Int)) (ret (span 0 ((4 : Int)).toNat)))) (it_range1 ev_int) rfl) (fun _ h => nomatch h) (wk_mask [true, true, true, true, true, true, true, true, true, true, true] _) (fun x1 s2 => (tg_name (ltb rfl))) (fun x1 s2 kc3 => (sb_seq (sb_set (e := eS) (EvG.is (w' := (bnd (noX (l_take (6 : Int))) fun x5 => opt (atI [("line" : Str), ("ring" : Str), ("complete" : Str), ("star" : Str), ("tree" : Str), ("groups" : Str)] x5))) (ev_opLF (EvG.rl (ev_lstS (fun x => [x.1, x.2.1, x.2.2.1, x.2.2.2.1, x.2.2.2.2.1, x.2.2.2.2.2.1]) eS (es_f ev_str (es_f ev_str (es_f ev_str (es_f ev_str (es_f ev_str (es_f ev_str es_nil)))))) (fun _ => (AllF.cons (AllF.cons (AllF.cons (AllF.cons (AllF.cons (AllF.cons AllF.nil))))))) (fun _ => rfl) (fun _ => rfl))) (ev_callS eI (es_t (ev_t (S := tape1) rfl) (es_f ev_int es_nil)) (fun _ => rfl)) (fun _ _ => o_ixL _ _)) rfl) (ltb rfl) (fun word_6 => (la_in (sb_seq (sb_set (e := eD) (EvG.is (w' := (sel (decide (word_6 = ("tree" : Str))) (bnd (noX (l_parents)) fun y => ret ((eT eI) y)) (bnd (bnd (noX (l_take (2 : Int))) fun x7 => ret (decide (x7 = (0 : Int)))) fun b9 => sel b9 (bnd (noX (l_take (9 : Int))) fun y => ret (eI y)) (bnd (bnd (noX (l_take (72 : Int))) fun x8 => ret (x8 - (1 : Int))) fun y => ret (eI y))))) (ev_ifF (et_test (ev_opF (ev_f (e := eS) word_6 rfl) ev_str (fun _ _ => o_eqS _ _))) (ev_data (e := (eT eI)) (ev_callS (eT eI) (es_t (ev_t (S := tape1) rfl) es_nil) (fun _ => rfl))) (ev_ifF (et_test (ev_opF (ev_callS eI (es_t (ev_t (S := tape1) rfl) (es_f ev_int es_nil)) (fun _ => rfl)) ev_int (fun _ _ => o_eqI _ _))) (ev_data (e := eI) (ev_callS eI (es_t (ev_t (S := tape1) rfl) (es_f ev_int es_nil)) (fun _ => rfl))) (ev_data (e := eI) (ev_opF (ev_callS eI (es_t (ev_t (S := tape1) rfl) (es_f ev_int es_nil)) (fun _ => rfl)) ev_int (fun _ _ => o_sub _ _))))) (by simp only [ret_bnd, bnd_bnd, mapW_bnd, mapW_ret] <;> rfl)) (ltb rfl) (fun first_10 => (la_in (sb_seq (sb_set (e := eI) (EvG.is (w' := (bnd (bnd (noX (l_take (3 : Int))) fun x11 => ret (decide ((0 : Int) < x11))) fun b13 => sel b13 (bnd (noX (l_take (7 : Int))) fun x12 => ret (x12 - (1 : Int))) (noX (l_take (70 : Int))))) (ev_ifF (et_test (ev_opF (ev_callS eI (es_t (ev_t (S := tape1) rfl) (es_f ev_int es_nil)) (fun _ => rfl)) ev_int (fun _ _ => o_gt _ _))) (ev_opF (ev_callS eI (es_t (ev_t (S := tape1) rfl) (es_f ev_int es_nil)) (fun _ => rfl)) ev_int (fun _ _ => o_sub _ _)) (ev_callS eI (es_t (ev_t (S := tape1) rfl) (es_f ev_int es_nil)) (fun _ => rfl))) (by simp only [ret_bnd, bnd_bnd, mapW_bnd, mapW_ret] <;> rfl)) (ltb rfl) (fun second_14 => (la_in (sb_seq (sb_set (e := eD) (EvG.is (w' := (noX (l_told word_6 first_10 second_14))) (ev_callS eD (es_f (ev_f (e := eS) word_6 rfl) (es_f (ev_f (e := eD) first_10 rfl) (es_f (ev_f (e := eI) second_14 rfl) es_nil))) (fun _ => rfl)) rfl) (ltb rfl) (fun told_here_15 => (la_in (sb_seq (sb_if (EvT.is (w' := (bnd (noX (l_due20 word_6 first_10 second_14)) fun x16 => eqWN (eD told_here_15) (eD x16))) (et_test (ev_opF (ev_f (e := eD) told_here_15 rfl) (ev_callS eD (es_f (ev_f (e := eS) word_6 rfl) (es_f (ev_f (e := eD) first_10 rfl) (es_f (ev_f (e := eI) second_14 rfl) es_nil))) (fun _ => rfl)) (fun _ _ => o_neDW _ _))) rfl) (sb_retF (EvG.is (w' := (ret false)) ev_bl rfl) (fun _ => rfl)) (sb_next (la_in (sb_if (EvT.is (w' := (bnd (bnd (bnd (opt (asT told_here_15)) fun x18 => opt (atI x18 (0 : Int))) fun x19 => eqWN (eD x19) (eS ("refused" : Str))) fun x25 => sel x25 (bnd (bnd (noX (p_is_frame told_here_15)) fun x20 => ret (!decide (x20 = true))) fun x24 => sel x24 (ret true) (bnd (bnd (bnd (opt ((asQ2 asI (asAll (asQ2 asI asI))) told_here_15)) fun x21 => noX (l_bad x21)) fun x22 => noX (p_is_frame x22)) fun x23 => ret (!decide (x23 = false)))) (ret false))) (et_and (et_test (ev_opF (ev_opF (ev_as (f := asT) (e := (eT eD)) (ev_f (e := eD) told_here_15 rfl) as_T) ev_int (fun _ _ => o_ixT _ _)) ev_str (fun _ _ => o_neDW _ _))) (et_or (et_test (ev_opF (ev_callS eB (es_f (ev_f (e := eD) told_here_15 rfl) es_nil) (fun _ => rfl)) ev_bl (fun _ _ => o_notB _ _))) (et_test (ev_opF (ev_callS eB (es_f (ev_callS eD (es_t (ev_t (S := tape1) rfl) (es_f (ev_as (f := (asQ2 asI (asAll (asQ2 asI asI)))) (e := (e2 eI (eT (e2 eI eI)))) (ev_f (e := eD) told_here_15 rfl) (as_Q2 as_I (as_all (as_Q2 as_I as_I)))) es_nil)) (fun _ => rfl)) es_nil) (fun _ => rfl)) ev_bl (fun _ _ => o_notB _ _))))) (by simp only [ret_bnd, bnd_bnd, mapW_bnd, mapW_ret] <;> rfl)) (sb_retF (EvG.is (w' := (ret false)) ev_bl rfl) (fun _ => rfl)) (sb_next (Lands.wk (la_at ()) (wk_mask [true, true, false, false, false, false, false, true, true, true, true] _))))))))))))))))))))))))) (fun s2 => (la_in (sb_seq (sb_set (e := eI) (EvG.is (w' := (bnd (noX (l_take (9 : Int))) fun x27 => ret ((2 : Int) + x27))) (ev_opF ev_int (ev_callS eI (es_t (ev_t (S := tape1) rfl) (es_f ev_int es_nil)) (fun _ => rfl)) (fun _ _ => o_add _ _)) rfl) (ltb rfl) (fun n_28 => (la_in (sb_seq (sb_setN (S := fun r => ls K (List.map (e2 eI eI) r)) (EvG.is (w' := (ret ([] : List (Int × Int)))) (ev_lstS (fun _ => ([] : List (Int × Int))) (e2 eI eI) es_nil (fun _ => AllF.nil) (fun _ => rfl) (fun _ => rfl)) rfl) (ltb rfl) (fun links_29 => (la_in (sb_seq (sb_for (S := ((List (Int × Int)))) (e := eI) (Γh := fun s31 => [.un, .tp tape1, .un, .un, .un, .un, .un, .sl (fz K (eI n_28)), .sl (ls K (List.map (e2 eI eI) s31)), .un, .un]) links_29 (ItG.is (w' := (grd (Rng n_28) (ret (span 0 (n_28).toNat)))) (it_range1 (ev_f (e := eI) n_28 rfl)) rfl) (fun _ h => nomatch h) (wk_mask [true, true, true, true, true, true, true, true, true, true, true] _) (fun x30 s31 => (tg_name (ltb rfl))) (fun x30 s31 kc32 => (sb_for (S := ((List (Int × Int)))) (e := eI) (Γh := fun s35 => [.un, .tp tape1, .un, .un, .un, .un, .un, .sl (fz K (eI n_28)), .sl (ls K (List.map (e2 eI eI) s35)), .sl (fz K (eI x30)), .un]) s31 (ItG.is (w' := (grd (Rng (x30 + (1 : Int)) ∧ Rng n_28) (ret (span (x30 + (1 : Int)) (n_28 - (x30 + (1 : Int))).toNat)))) (it_range2 (ev_opF (ev_f (e := eI) x30 rfl) ev_int (fun _ _ => o_add _ _)) (ev_f (e := eI) n_28 rfl)) rfl) (fun _ h => nomatch h) (wk_mask [true, true, true, true, true, true, true, true, true, true, true] _) (fun x34 s35 => (tg_name (ltb rfl))) (fun x34 s35 kc36 => (sb_if (EvT.is (w' := (bnd (noX (l_take (3 : Int))) fun x38 => ret (decide (x38 = (0 : Int))))) (et_test (ev_opF (ev_callS eI (es_t (ev_t (S := tape1) rfl) (es_f ev_int es_nil)) (fun _ => rfl)) ev_int (fun _ _ => o_eqI _ _))) rfl) (sb_appendK (e := (e2 eI eI)) (xs := s35) rfl (EvG.is (w' := (ret (x30, x34))) (ev_tupS (fun x => (x.1, x.2.1)) (e2 eI eI) (es_f (ev_f (e := eI) x30 rfl) (es_f (ev_f (e := eI) x34 rfl) es_nil)) (fun _ => (AllF.cons (AllF.cons AllF.nil))) (fun _ => rfl) (fun _ => rfl)) rfl) (fun s40 => (Lands.wk (la_at s40) (wk_mask [true, true, true, true, true, true, true, true, true, true, false] _)))) (sb_next (Lands.wk (la_at s35) (wk_mask [true, true, true, true, true, true, true, true, true, true, false] _))))) (fun s35 => (Lands.wk (la_at s35) (wk_mask [true, true, true, true, true, true, true, true, true, false, true] _))))) (fun s31 => (la_in (sb_seq (sb_if (EvT.is (w' := (ret (decide ((s31.length : Int) = (0 : Int))))) (et_test (ev_opF (ev_b1L (ev_l (e := (e2 eI eI)) s31 rfl) (fun _ => c_lenL _)) ev_int (fun _ _ => o_eqI _ _))) rfl) (sb_retF (EvG.is (w' := (bnd (noX (p_is_frame ((e2 eI e0) (n_28, ())))) fun x43 => ret (decide (x43 = false)))) (ev_opF (ev_callS eB (es_f (ev_data (e := (e2 eI e0)) (ev_tupS (fun x => (x.1, x.2.1)) (e2 eI e0) (es_f (ev_f (e := eI) n_28 rfl) (es_f (ev_tupS (fun x => ()) e0 es_nil (fun _ => AllF.nil) (fun _ => rfl) (fun _ => rfl)) es_nil)) (fun _ => (AllF.cons (AllF.cons AllF.nil))) (fun _ => rfl) (fun _ => rfl))) es_nil) (fun _ => rfl)) ev_bl (fun _ _ => o_isB _ _)) rfl) (fun _ => rfl)) (sb_next (la_in (sb_seq (sb_if (EvT.is (w' := (sel (decide ((1 : Int) < (s31.length : Int))) (bnd (noX (p_is_frame ((e2 eI (eT (e2 eI eI))) (n_28, (List.reverse s31))))) fun x44 => ret (!decide (x44 = false))) (ret false))) (et_and (et_test (ev_opF (ev_b1L (ev_l (e := (e2 eI eI)) s31 rfl) (fun _ => c_lenL _)) ev_int (fun _ _ => o_gt _ _))) (et_test (ev_opF (ev_callS eB (es_f (ev_data (e := (e2 eI (eT (e2 eI eI)))) (ev_tupS (fun x => (x.1, x.2.1)) (e2 eI (eT (e2 eI eI))) (es_f (ev_f (e := eI) n_28 rfl) (es_f (ev_b1L (EvG.rl (ev_revL (ev_l (e := (e2 eI eI)) s31 rfl))) (fun _ => c_tupL _)) es_nil)) (fun _ => (AllF.cons (AllF.cons AllF.nil))) (fun _ => rfl) (fun _ => rfl))) es_nil) (fun _ => rfl)) ev_bl (fun _ _ => o_notB _ _)))) rfl) (sb_retF (EvG.is (w' := (ret false)) ev_bl rfl) (fun _ => rfl)) (sb_next (la_in (sb_retF (EvG.is (w' := (bnd (bnd (noX (p_is_frame ((e2 eI (eT (e2 eI eI))) (n_28, s31)))) fun x46 => ret (decide (x46 = true))) fun x50 => sel x50 (bnd (bnd (bnd (noX (l_bad (n_28, s31))) fun x47 => noX (p_is_frame x47)) fun x48 => ret (decide (x48 = false))) fun x49 => sel x49 (ret (decide ((8 : Int) = (8 : Int)))) (ret false)) (ret false))) (ev_andV (ev_opF (ev_callS eB (es_f (ev_data (e := (e2 eI (eT (e2 eI eI)))) (ev_tupS (fun x => (x.1, x.2.1)) (e2 eI (eT (e2 eI eI))) (es_f (ev_f (e := eI) n_28 rfl) (es_f (ev_b1L (ev_l (e := (e2 eI eI)) s31 rfl) (fun _ => c_tupL _)) es_nil)) (fun _ => (AllF.cons (AllF.cons AllF.nil))) (fun _ => rfl) (fun _ => rfl))) es_nil) (fun _ => rfl)) ev_bl (fun _ _ => o_isB _ _)) (ev_andV (ev_opF (ev_callS eB (es_f (ev_callS eD (es_t (ev_t (S := tape1) rfl) (es_f (ev_tupS (fun x => (x.1, x.2.1)) (e2 eI (eT (e2 eI eI))) (es_f (ev_f (e := eI) n_28 rfl) (es_f (ev_b1L (ev_l (e := (e2 eI eI)) s31 rfl) (fun _ => c_tupL _)) es_nil)) (fun _ => (AllF.cons (AllF.cons AllF.nil))) (fun _ => rfl) (fun _ => rfl)) es_nil)) (fun _ => rfl)) es_nil) (fun _ => rfl)) ev_bl (fun _ _ => o_isB _ _)) (ev_opF ev_int ev_int (fun _ _ => o_eqI _ _)))) (by simp only [ret_bnd, bnd_bnd, mapW_bnd, mapW_ret] <;> rfl)) (fun _ => rfl))))))))))))))))))))))))))

end
end Cf
namespace Cf
open PySem PySem.Spec PyProof.Rows L2 WL
/-! nested lists of the def's own, at their addresses -/
theorem All2.snoc {α β : Type} {R : α → β → Prop} : ∀ {a : List α} {b : List β} {x : α} {y : β}, All2 R a b → R x y → All2 R (a ++ [x]) (b ++ [y])
  | _, _, _, _, .nil, h => .cons h .nil
  | _, _, _, _, .cons h t, h' => .cons h (All2.snoc t h')
theorem All2.mono {α β : Type} {R R' : α → β → Prop} (m : ∀ x y, R x y → R' x y) : ∀ {a : List α} {b : List β}, All2 R a b → All2 R' a b
  | _, _, .nil => .nil
  | _, _, .cons h t => .cons (m _ _ h) (All2.mono m t)
theorem All2.length {α β : Type} {R : α → β → Prop} : ∀ {a : List α} {b : List β}, All2 R a b → a.length = b.length
  | _, _, .nil => rfl
  | _, _, .cons _ t => congrArg Nat.succ (All2.length t)
theorem All2.get {α β : Type} {R : α → β → Prop} : ∀ {a : List α} {b : List β} {i : Nat} {y : β}, All2 R a b → b[i]? = some y → ∃ x, a[i]? = some x ∧ R x y
  | _, _, 0, _, .cons h _, e => ⟨_, rfl, by cases e; exact h⟩
  | _, _, i + 1, _, .cons _ t, e => All2.get (i := i) t e
  | _, _, 0, _, .nil, e => by cases e
  | _, _, _ + 1, _, .nil, e => by cases e
theorem All2.getL {α β : Type} {R : α → β → Prop} : ∀ {a : List α} {b : List β} {i : Nat} {x : α}, All2 R a b → a[i]? = some x → ∃ y, b[i]? = some y ∧ R x y
  | _, _, 0, _, .cons h _, e => ⟨_, rfl, by cases e; exact h⟩
  | _, _, i + 1, _, .cons _ t, e => All2.getL (i := i) t e
  | _, _, 0, _, .nil, e => by cases e
  | _, _, _ + 1, _, .nil, e => by cases e
theorem take_snoc {α : Type} {l : List α} {i : Nat} {x : α} (h : l[i]? = some x) : l.take (i + 1) = l.take i ++ [x] := by
  rw [List.take_add_one, h]
  rfl
/-- a cell: a list of the def's own, with part of e -/
def Ent (H0 H : Hp) (o : Addr) (e : List Int) : Prop := H0 o = none ∧ H o = some (.lst (e.map V.int))
def RowR (H0 H : Hp) (z : Addr × List Addr) (row : List (List Int)) : Prop := H0 z.1 = none ∧ H z.1 = some (.lst (z.2.map V.ref)) ∧ All2 (Ent H0 H) z.2 row
def Old (H0 H : Hp) : Prop := ∀ x o, H0 x = some o → H x = some o
theorem Ent.up {H0 H H' : Hp} {o : Addr} {e : List Int} (k : Old H H') (h : Ent H0 H o e) : Ent H0 H' o e := ⟨h.1, k _ _ h.2⟩
theorem RowR.up {H0 H H' : Hp} {z : Addr × List Addr} {e : List (List Int)} (k : Old H H') (h : RowR H0 H z e) : RowR H0 H' z e := ⟨h.1, k _ _ h.2.1, h.2.2.mono fun _ _ => Ent.up k⟩
theorem Ent.set {H0 H : Hp} {o D : Addr} {e : List Int} {ob ox : HO} (hD : H0 D = some ob) (h : Ent H0 H o e) : Ent H0 (upd H D ox) o e := ⟨h.1, by rw [upd_ne (ne_of_none hD h.1).symm]; exact h.2⟩
theorem RowR.set {H0 H : Hp} {z : Addr × List Addr} {D : Addr} {e : List (List Int)} {ob ox : HO} (hD : H0 D = some ob) (h : RowR H0 H z e) : RowR H0 (upd H D ox) z e := ⟨h.1, by rw [upd_ne (ne_of_none hD h.1).symm]; exact h.2.1, h.2.2.mono fun _ _ => Ent.set hD⟩
theorem Ent.weak {H0 H1 H : Hp} {o : Addr} {e : List Int} (w : ∀ x, H1 x = none → H0 x = none) (h : Ent H1 H o e) : Ent H0 H o e := ⟨w _ h.1, h.2⟩
theorem RowR.weak {H0 H1 H : Hp} {z : Addr × List Addr} {e : List (List Int)} (w : ∀ x, H1 x = none → H0 x = none) (h : RowR H1 H z e) : RowR H0 H z e := ⟨w _ h.1, h.2.1, h.2.2.mono fun _ _ => Ent.weak w⟩
theorem Old.new {H : Hp} {a : Addr} {o : HO} (h : H a = none) : Old H (upd H a o) := fun x o' e => by
  rw [upd_ne (ne_of_none e h)]
  exact e
theorem Old.trans {H H' H'' : Hp} (h : Old H H') (k : Old H' H'') : Old H H'' := fun x o e => k x o (h x o e)
theorem Old.stay {H H' : Hp} (h : Old H H') : Stay H H' := fun x o e _ => h x o e
theorem refs_ints : ∀ {as : List Addr} {ns : List Int}, as.map V.ref = ns.map V.int → ns = []
  | [], [], _ => rfl
  | _ :: _, [], e => by cases e
  | [], _ :: _, e => by cases e
  | _ :: _, _ :: _, e => by simp at e
theorem ints_inj : ∀ {a b : List Int}, a.map V.int = b.map V.int → a = b
  | [], [], _ => rfl
  | _ :: _, [], e => by cases e
  | [], _ :: _, e => by cases e
  | x :: xs, y :: ys, e => by
    rw [List.map_cons, List.map_cons, List.cons.injEq, V.int.injEq] at e
    rw [e.1, ints_inj e.2]
theorem nodup_inj {α : Type} : ∀ {l : List α}, l.Nodup → ∀ {i j : Nat} {x : α}, l[i]? = some x → l[j]? = some x → i = j
  | [], _, i, _, _, h, _ => by simp at h
  | a :: l, hn, 0, 0, x, h1, h2 => rfl
  | a :: l, hn, 0, j + 1, x, h1, h2 => by
    cases h1
    exact absurd (List.mem_of_getElem? (show l[j]? = some a from h2)) (List.nodup_cons.mp hn).1
  | a :: l, hn, i + 1, 0, x, h1, h2 => by
    cases h2
    exact absurd (List.mem_of_getElem? (show l[i]? = some a from h1)) (List.nodup_cons.mp hn).1
  | a :: l, hn, i + 1, j + 1, x, h1, h2 => by
    have := nodup_inj (List.nodup_cons.mp hn).2 (show l[i]? = some x from h1) (show l[j]? = some x from h2)
    omega
def flatA (zs : List (Addr × List Addr)) : List Addr := (zs.map (·.2)).flatten
theorem flat_idx : ∀ {zs : List (Addr × List Addr)}, (flatA zs).Nodup → ∀ {i j i' j' : Nat} {z z' : Addr × List Addr} {o : Addr}, zs[i]? = some z → z.2[j]? = some o → zs[i']? = some z' → z'.2[j']? = some o → i = i' ∧ j = j'
  | [], _, i, _, _, _, _, _, _, h, _, _, _ => by simp at h
  | w :: zs, hn, i, j, i', j', z, z', o, h1, h2, h3, h4 => by
    have hn : (w.2 ++ flatA zs).Nodup := hn
    rw [List.nodup_append] at hn
    obtain ⟨n1, n2, n3⟩ := hn
    have mem : ∀ {k : Nat} {x : Addr × List Addr}, zs[k]? = some x → o ∈ x.2 → o ∈ flatA zs := fun {k x} e m => List.mem_flatten.mpr ⟨x.2, List.mem_map.mpr ⟨x, List.mem_of_getElem? e, rfl⟩, m⟩
    match i, i', h1, h3 with
    | 0, 0, h1, h3 =>
      cases h1
      cases h3
      exact ⟨rfl, nodup_inj n1 h2 h4⟩
    | 0, k + 1, h1, h3 =>
      cases h1
      exact absurd rfl (n3 o (List.mem_of_getElem? h2) o (mem (k := k) h3 (List.mem_of_getElem? h4)))
    | k + 1, 0, h1, h3 =>
      cases h3
      exact absurd rfl (n3 o (List.mem_of_getElem? h4) o (mem (k := k) h1 (List.mem_of_getElem? h2)))
    | k + 1, k' + 1, h1, h3 =>
      have := flat_idx n2 (i := k) (i' := k') h1 h2 h3 h4
      exact ⟨by omega, this.2⟩
/-! tables by their cells -/
theorem getD_lt {α : Type} {l : List α} {i : Nat} {z : α} (h : i < l.length) : l.getD i z = l[i] := by
  rw [List.getD_eq_getElem?_getD, List.getElem?_eq_getElem h]
  rfl
theorem getD_set {α : Type} {l : List α} {i j : Nat} {x z : α} (h : i < l.length) : (l.set i x).getD j z = if i = j then x else l.getD j z := by
  rw [List.getD_eq_getElem?_getD, List.getElem?_set]
  by_cases e : i = j
  · rw [if_pos e, if_pos e, if_pos h]
    rfl
  · rw [if_neg e, if_neg e, List.getD_eq_getElem?_getD]
theorem Shp.rowD {n : Nat} {t : List (List (List Int))} (s : Shp n t) {i : Nat} (h : i < n) : (t.getD i []).length = n := by
  rw [getD_lt (by rw [s.len]; exact h)]
  exact s.row _ (List.getElem_mem _)
theorem cell_set {n : Nat} {t : List (List (List Int))} (s : Shp n t) {i j : Nat} (hi : i < n) (hj : j < n) (e : List Int) (i' j' : Nat) : cell (setC t i j e) i' j' = if i' = i ∧ j' = j then e else cell t i' j' := by
  unfold cell setC
  rw [getD_set (by rw [s.len]; exact hi)]
  by_cases h : i = i'
  · subst h
    rw [if_pos rfl, getD_set (by rw [s.rowD hi]; exact hj)]
    by_cases h' : j = j'
    · rw [if_pos h', if_pos ⟨rfl, h'.symm⟩]
    · rw [if_neg h', if_neg (fun z => h' z.2.symm)]
  · rw [if_neg h, if_neg (fun z => h z.1.symm)]
theorem shp_set {n : Nat} {t : List (List (List Int))} (s : Shp n t) {i : Nat} (hi : i < n) (j : Nat) (e : List Int) : Shp n (setC t i j e) := by
  refine ⟨by unfold setC; rw [List.length_set]; exact s.len, fun r hr => ?_⟩
  unfold setC at hr
  rcases List.mem_or_eq_of_mem_set hr with h | h
  · exact s.row r h
  · rw [h, List.length_set, s.rowD hi]
theorem sum_set : ∀ {l : List Nat} {i : Nat} (x : Nat) (h : i < l.length), (l.set i x).sum + l[i] = l.sum + x
  | [], i, _, h => by simp at h
  | a :: l, 0, x, h => by simp; omega
  | a :: l, i + 1, x, h => by
    have := sum_set (l := l) (i := i) x (by simpa using h)
    simp
    omega
theorem size_set {n : Nat} {t : List (List (List Int))} (s : Shp n t) {i j : Nat} (hi : i < n) (hj : j < n) (e : List Int) : sizeT (setC t i j e) + (cell t i j).length = sizeT t + e.length := by
  have hi' : i < t.length := by rw [s.len]; exact hi
  have hr : (t.getD i []) = t[i] := getD_lt hi'
  have hj' : j < t[i].length := by rw [s.row _ (List.getElem_mem _)]; exact hj
  have e1 := sum_set (l := t.map fun r => (r.map List.length).sum) (i := i) (((t[i].set j e).map List.length).sum) (by rw [List.length_map]; exact hi')
  have e2 := sum_set (l := t[i].map List.length) (i := j) e.length (by rw [List.length_map]; exact hj')
  unfold sizeT setC cell
  rw [hr, getD_lt hj', List.map_set]
  rw [List.getElem_map] at e1 e2
  rw [← List.map_set] at e2
  omega
structure Tc (n : Nat) (H0 H : Hp) (p : Addr) (zs : List (Addr × List Addr)) (cur : List (List (List Int))) : Prop where
  old : Old H0 H
  top : H p = some (.lst ((zs.map (·.1)).map V.ref))
  shp : Shp n cur
  len : zs.length = n
  row : ∀ z ∈ zs, H z.1 = some (.lst (z.2.map V.ref)) ∧ z.2.length = n
  ent : ∀ i j z o, zs[i]? = some z → z.2[j]? = some o → H0 o = none ∧ H o = some (.lst ((cell cur i j).map V.int))
  nd : (flatA zs).Nodup
theorem Tc.up {n : Nat} {H0 H H' : Hp} {p : Addr} {zs : List (Addr × List Addr)} {cur : List (List (List Int))} (h : Tc n H0 H p zs cur) (k : Old H H') : Tc n H0 H' p zs cur :=
  ⟨h.old.trans k, k _ _ h.top, h.shp, h.len, fun z hz => ⟨k _ _ (h.row z hz).1, (h.row z hz).2⟩, fun i j z o h1 h2 => ⟨(h.ent i j z o h1 h2).1, k _ _ (h.ent i j z o h1 h2).2⟩, h.nd⟩
theorem Tc.cut {n : Nat} {H0 H : Hp} {p o : Addr} {zs : List (Addr × List Addr)} {cur : List (List (List Int))} {i j : Nat} {z : Addr × List Addr} {e' : List Int} (h : Tc n H0 H p zs cur) (hi : i < n) (hj : j < n) (hz : zs[i]? = some z) (ho : z.2[j]? = some o) (hn : cell cur i j ≠ []) :
    Tc n H0 (upd H o (.lst (e'.map V.int))) p zs (setC cur i j e') := by
  obtain ⟨h0, hH⟩ := h.ent i j z o hz ho
  have no : ∀ {x : Addr} {as : List Addr}, H x = some (.lst (as.map V.ref)) → x ≠ o := fun {x as} e z => by
    subst z
    rw [hH] at e
    injection e with e
    injection e with e
    exact hn (refs_ints e.symm)
  refine ⟨fun x ob e => by rw [upd_ne (ne_of_none e h0)]; exact h.old x ob e, by rw [upd_ne (no h.top)]; exact h.top, shp_set h.shp hi j e', h.len, fun w hw => ⟨by rw [upd_ne (no (h.row w hw).1)]; exact (h.row w hw).1, (h.row w hw).2⟩, fun i' j' z' o' h1 h2 => ?_, h.nd⟩
  obtain ⟨g0, gH⟩ := h.ent i' j' z' o' h1 h2
  refine ⟨g0, ?_⟩
  rw [cell_set h.shp hi hj]
  by_cases eo : o' = o
  · subst eo
    obtain ⟨a, b⟩ := flat_idx h.nd h1 h2 hz ho
    rw [if_pos ⟨a, b⟩, upd_same]
  · rw [upd_ne eo, if_neg]
    · exact gH
    · rintro ⟨a, b⟩
      subst a
      subst b
      rw [hz] at h1
      cases h1
      rw [ho] at h2
      cases h2
      exact eo rfl
theorem first_at : ∀ {ns : List Int} {k : Int}, k ∈ ns → ∃ j : Nat, ns[j]? = some k ∧ ∀ m : Nat, m < j → ns[m]? ≠ some k
  | x :: ns, k, h => by
    by_cases e : x = k
    · exact ⟨0, by rw [e]; rfl, fun m hm => absurd hm (by omega)⟩
    · rcases List.mem_cons.mp h with h | h
      · exact absurd h.symm e
      · obtain ⟨j, h1, h2⟩ := first_at h
        refine ⟨j + 1, h1, fun m hm => ?_⟩
        cases m with
        | zero => intro e'; exact e (Option.some.inj e')
        | succ m => exact h2 m (by omega)
theorem count_erase : ∀ {ns : List Int} {k : Int} {j : Nat}, ns[j]? = some k → ∀ v : Int, List.count v ns = List.count v (ns.eraseIdx j) + if k = v then 1 else 0
  | [], _, _, h => by simp at h
  | x :: ns, k, 0, h => fun v => by
    have e : x = k := Option.some.inj h
    subst e
    rw [List.eraseIdx_cons_zero, List.count_cons]
    by_cases hv : x = v
    · subst hv; simp
    · simp [hv]
  | x :: ns, k, j + 1, h => fun v => by
    have ih := count_erase (ns := ns) (j := j) h v
    rw [List.eraseIdx_cons_succ, List.count_cons, List.count_cons, ih]
    omega
theorem fz_ints {K : PySem.W.Frag} {H : Hp} : ∀ xs : List Int, FzAll K H (xs.map V.int) (xs.map eI)
  | [] => .nil
  | x :: xs => .cons (.int x) (fz_ints xs)
theorem yes_if {σ : L2.St} {H : Hp} {A B : Hp → Prop} (h : A H) : tYes σ H fun b H3 => if b = true then A H3 else B H3 := h
end Cf
namespace Cf
open PySem WL L2
open Classical
abbrev Tab := List (List (List Int))
abbrev Chs := List (Int × Int × Int)
structure NG (n : Nat) (chs : Chs) : Prop where
  n5 : n ≤ 5
  ml : chs.length ≤ 12
  ch : ∀ c ∈ chs, 0 ≤ c.1 ∧ c.1 < n ∧ 0 ≤ c.2.1 ∧ c.2.1 < n ∧ 0 ≤ c.2.2 ∧ c.2.2 ≤ 3
structure TG (n : Nat) (chs : Chs) (t : Tab) : Prop where
  shp : Shp n t
  nd : ∀ i j, i < n → j < n → (cell t i j).Nodup
  len : ∀ i j, i < n → j < n → (cell t i j).length ≤ 12
  rng : ∀ i j, i < n → j < n → ∀ c ∈ cell t i j, 0 ≤ c ∧ c < chs.length
theorem atI_getD {α : Type} {xs : List α} {i : Int} (z : α) (h0 : 0 ≤ i) (h1 : i < xs.length) : atI xs i = some (xs.getD i.toNat z) := by
  have hi : i.toNat < xs.length := by omega
  have := atI_nat (xs := xs) (j := i.toNat) (v := xs.getD i.toNat z) (by rw [List.getD_eq_getElem?_getD, List.getElem?_eq_getElem hi]; rfl)
  rwa [show ((i.toNat : Nat) : Int) = i by omega] at this
theorem getD_mem {α : Type} {xs : List α} {i : Nat} (z : α) (h : i < xs.length) : xs.getD i z ∈ xs := by
  rw [getD_lt h]
  exact List.getElem_mem h
theorem span_at : ∀ {n : Nat} {lo x : Int} {pre post : List Int}, span lo n = pre ++ x :: post → x = lo + pre.length := fun {n lo x pre post} e => by
  have h : (span lo n)[pre.length]? = some x := by
    rw [e, List.getElem?_append_right (Nat.le_refl _)]
    simp
  unfold span at h
  rw [List.getElem?_map] at h
  have hl : pre.length < n := by
    have := congrArg List.length e
    rw [span_length, List.length_append, List.length_cons] at this
    omega
  rw [List.getElem?_range hl] at h
  exact (Option.some.inj h).symm
theorem span_nodup (lo : Int) (n : Nat) : (span lo n).Nodup := by
  unfold span
  induction n with
  | zero => simp
  | succ n ih =>
    rw [List.range_succ, List.map_append, List.nodup_append]
    refine ⟨ih, by simp, fun a ha b hb e => ?_⟩
    obtain ⟨k, hk, rfl⟩ := List.mem_map.mp ha
    rw [List.mem_range] at hk
    have : b = lo + (n : Nat) := by simpa using hb
    omega
theorem en_lcSub {α : Type} {c : α → Wp Bool} : ∀ (xs : List α), (∀ x ∈ xs, Ens (c x) (fun _ => True)) → Ens (lcW c (fun x => ret x) xs) (fun ys => ys.Sublist xs)
  | [], _ => en_ret (List.Sublist.refl _)
  | x :: xs, h1 => by
    have ih := en_lcSub xs fun y hy => h1 y (List.mem_cons_of_mem _ hy)
    exact en_bnd (h1 x List.mem_cons_self) fun b _ => en_sel (fun _ => en_bndE (en_eq x) (en_bnd ih fun ys h => en_ret (h.cons₂ x))) (fun _ => ih.mono fun ys h => h.cons x)
theorem en_lcGS {α : Type} {c : α → Wp Bool} (xs : List α) (hl : xs.length ≤ 16777216) (h1 : ∀ x ∈ xs, Ens (c x) (fun _ => True)) : Ens (lcG c (fun x => ret x) xs) (fun ys => ys.Sublist xs) := en_grd hl (en_noX (en_lcSub xs h1))
theorem sub_eq {α : Type} : ∀ {l a b : List α}, l.Nodup → a.Sublist l → b.Sublist l → (∀ x, x ∈ a ↔ x ∈ b) → a = b
  | [], a, b, _, ha, hb, _ => by
    rw [List.sublist_nil.mp ha, List.sublist_nil.mp hb]
  | x :: l, a, b, hn, ha, hb, h => by
    obtain ⟨hx, hn⟩ := List.nodup_cons.mp hn
    cases ha with
    | cons _ ha =>
      have hxa : x ∉ a := fun m => hx (ha.subset m)
      cases hb with
      | cons _ hb => exact sub_eq hn ha hb h
      | cons_cons _ hb => exact absurd ((h x).mpr List.mem_cons_self) hxa
    | cons_cons _ ha =>
      rename_i a
      cases hb with
      | cons _ hb => exact absurd (hb.subset ((h x).mp List.mem_cons_self)) hx
      | cons_cons _ hb =>
        rename_i b
        have : a = b := sub_eq hn ha hb fun y => by
          have hy := h y
          rw [List.mem_cons, List.mem_cons] at hy
          by_cases e : y = x
          · subst e
            exact ⟨fun m => absurd (ha.subset m) hx, fun m => absurd (hb.subset m) hx⟩
          · exact ⟨fun m => (hy.mp (.inr m)).resolve_left e, fun m => (hy.mpr (.inr m)).resolve_left e⟩
        rw [this]
theorem tab_ext {n : Nat} {s t : Tab} (hs : Shp n s) (ht : Shp n t) (h : ∀ i j, i < n → j < n → cell s i j = cell t i j) : s = t := by
  refine List.ext_getElem (by rw [hs.len, ht.len]) fun i h1 h2 => ?_
  have hi : i < n := by rw [← hs.len]; exact h1
  refine List.ext_getElem (by rw [hs.row _ (List.getElem_mem h1), ht.row _ (List.getElem_mem h2)]) fun j h3 h4 => ?_
  have hj : j < n := by rw [← hs.row _ (List.getElem_mem h1)]; exact h3
  have := h i j hi hj
  unfold cell at this
  rwa [getD_lt h1, getD_lt h2, getD_lt h3, getD_lt h4] at this
theorem ThMax.uniq {chs : Chs} {s t tab : Tab} (hn : ∀ i j, i < tab.length → j < tab.length → (cell tab i j).Nodup) (h : ThMax chs s tab) (h' : ThMax chs t tab) : s = t :=
  tab_ext h.shp h'.shp fun i j hi hj => sub_eq (hn i j hi hj) (h.sub i j hi hj) (h'.sub i j hi hj) fun x =>
    ⟨h'.max s (fun i j hi hj c hc => (h.sub i j hi hj).subset hc) h.live i j hi hj x, h.max t (fun i j hi hj c hc => (h'.sub i j hi hj).subset hc) h'.live i j hi hj x⟩
theorem TG.part {n : Nat} {chs : Chs} {s t : Tab} (h : TG n chs t) (hs : Shp n s) (sub : ∀ i j, i < n → j < n → (cell s i j).Sublist (cell t i j)) : TG n chs s :=
  ⟨hs, fun i j hi hj => (h.nd i j hi hj).sublist (sub i j hi hj), fun i j hi hj => Nat.le_trans (sub i j hi hj).length_le (h.len i j hi hj), fun i j hi hj c hc => h.rng i j hi hj c ((sub i j hi hj).subset hc)⟩
theorem sum_le {l : List Nat} {B : Nat} (h : ∀ x ∈ l, x ≤ B) : l.sum ≤ l.length * B := by
  induction l with
  | nil => simp
  | cons a l ih =>
    have h1 := h a List.mem_cons_self
    have h2 := ih fun x hx => h x (List.mem_cons_of_mem _ hx)
    rw [List.sum_cons, List.length_cons, Nat.succ_mul]
    omega
theorem TG.size {n : Nat} {chs : Chs} {t : Tab} (h : TG n chs t) (hn : n ≤ 5) : sizeT t ≤ 300 := by
  unfold sizeT
  have h1 := sum_le (l := t.map fun r => (r.map List.length).sum) (B := 60) fun x hx => by
    obtain ⟨r, hr, rfl⟩ := List.mem_map.mp hx
    have h2 := sum_le (l := r.map List.length) (B := 12) fun y hy => by
      obtain ⟨e, he, rfl⟩ := List.mem_map.mp hy
      obtain ⟨i, hi, rfl⟩ := List.getElem_of_mem hr
      obtain ⟨j, hj, rfl⟩ := List.getElem_of_mem he
      have h3 := h.len i j (by rw [← h.shp.len]; exact hi) (by rw [← h.shp.row _ hr]; exact hj)
      unfold cell at h3
      rwa [getD_lt hi, getD_lt hj] at h3
    rw [List.length_map, h.shp.row r hr] at h2
    have : n * 12 ≤ 60 := by omega
    omega
  rw [List.length_map, h.shp.len] at h1
  have : n * 60 ≤ 300 := by omega
  omega
theorem tab_at {n : Nat} {t : Tab} (s : Shp n t) {u d : Int} (hu0 : 0 ≤ u) (hu1 : u < n) (hd0 : 0 ≤ d) (hd1 : d < n) : ∃ row, atI t u = some row ∧ atI row d = some (cell t u.toNat d.toNat) := by
  refine ⟨t.getD u.toNat [], atI_getD [] hu0 (by rw [s.len]; exact hu1), ?_⟩
  have := s.rowD (i := u.toNat) (by omega)
  exact atI_getD [] hd0 (by omega)
theorem ch_at {n : Nat} {chs : Chs} (g : NG n chs) {c : Int} (h0 : 0 ≤ c) (h1 : c < chs.length) : ∃ ch, atI chs c = some ch ∧ ch ∈ chs ∧ ch.2.1 = tgt chs c ∧ ch.1 = (chs.getD c.toNat (0, 0, 0)).1 :=
  ⟨_, atI_getD (0, 0, 0) h0 h1, getD_mem _ (by omega), rfl, rfl⟩
theorem tgt_rng {n : Nat} {chs : Chs} (g : NG n chs) {c : Int} (h0 : 0 ≤ c) (h1 : c < chs.length) : 0 ≤ tgt chs c ∧ tgt chs c < n := by
  have := g.ch _ (getD_mem (0, 0, 0) (show c.toNat < chs.length by omega))
  exact ⟨this.2.2.1, this.2.2.2.1⟩
theorem en_eqE (x : List Int) : Ens (eqW ((eT eI) x) ((eT eI) ([] : List Int))) (fun v => v = decide (x = [])) := by
  have hs : SeqAt.shaped ((eT eI) x) = true := by
    have h1 : ∀ l : List Int, PyData.canLayAll0 (l.map eI) = true ∧ PyData.depthAll (l.map eI) = 0 := fun l => by
      induction l with
      | nil => simp [PyData.canLayAll0, PyData.depthAll]
      | cons a l ih =>
        rw [List.map_cons]
        have i1 : PyData.canLayAll0 (List.map PyData.int l) = true := ih.1
        have i2 : PyData.depthAll (List.map PyData.int l) = 0 := ih.2
        simp [PyData.canLayAll0, PyData.depthAll, i1, i2, eI, PyData.canLay0, PyData.depth]
    show (PyData.canLay0 (.tuple (x.map eI)) && decide (PyData.depth (.tuple (x.map eI)) ≤ 64)) = true
    simp only [PyData.canLay0, PyData.depth, (h1 x).1, (h1 x).2]
    decide
  refine en_grd ⟨hs, rfl⟩ (en_ret ?_)
  cases x with
  | nil => simp [eT, PyData.eqv, PyData.eqvAll]
  | cons a x => simp [eT, PyData.eqv, PyData.eqvAll]
theorem en_neE (x : List Int) : Ens (eqWN ((eT eI) x) ((eT eI) ([] : List Int))) (fun v => v = !decide (x = [])) := fun P X hp => by
  obtain ⟨h1, h2⟩ := en_eqE x (fun v => P (!v)) X fun v hv => hp _ (by rw [hv])
  exact ⟨h1, h2⟩
section
variable {n : Nat} {chs : Chs} {t : Tab} (g : NG n chs) (ht : TG n chs t)
include g ht
theorem en_is_end {c d : Int} (h0 : 0 ≤ c) (h1 : c < chs.length) (hd0 : 0 ≤ d) (hd1 : d < n) : Ens (p_is_end ((n : Int), chs) t d c) (fun v => v = !decide (OkC chs t d.toNat c)) := by
  obtain ⟨ch, e1, _, e2, _⟩ := ch_at g h0 h1
  obtain ⟨v0, v1⟩ := tgt_rng g h0 h1
  obtain ⟨row, e3, e4⟩ := tab_at ht.shp v0 v1 hd0 hd1
  refine en_bndE (en_bndE (en_optE e1) (en_eq _)) (en_sel (fun h => ?_) (fun h => en_ret ?_))
  · rw [e2] at h ⊢
    have h : tgt chs c ≠ d := by simpa using h
    refine en_bndE (en_bndE (en_optE e3) (en_optE e4)) ((en_eqE _).mono fun v hv => ?_)
    rw [hv]
    by_cases hh : cell t (tgt chs c).toNat d.toNat = []
    · rw [decide_eq_true hh, decide_eq_false]
      · rfl
      · rintro (z | z)
        · omega
        · exact z hh
    · rw [decide_eq_false hh, decide_eq_true (show OkC chs t d.toNat c from .inr hh)]
      rfl
  · rw [e2] at h
    have h : tgt chs c = d := by simpa using h
    rw [decide_eq_true (show OkC chs t d.toNat c from .inl (by omega))]
    rfl
noncomputable def dead1 (chs : Chs) (t : Tab) (u d : Int) : List (Int × Int × Int) := ((cell t u.toNat d.toNat).filter fun c => !decide (OkC chs t d.toNat c)).map fun c => (u, d, c)
noncomputable def deadL (n : Nat) (chs : Chs) (t : Tab) : List (Int × Int × Int) := (span 0 n).flatMap fun u => (span 0 n).flatMap fun d => dead1 chs t u d
omit g ht in
theorem fm_bound {α : Type} {f : Int → List α} {B : Nat} : ∀ xs : List Int, (∀ x ∈ xs, (f x).length ≤ B) → (xs.flatMap f).length ≤ xs.length * B
  | [], _ => by simp
  | x :: xs, h => by
    rw [List.flatMap_cons, List.length_append, List.length_cons, Nat.succ_mul]
    have := fm_bound xs fun y hy => h y (List.mem_cons_of_mem _ hy)
    have := h x List.mem_cons_self
    omega
theorem en_dead : Ens (p_dead_ends ((n : Int), chs) t) (fun v => v = deadL n chs t) := by
  have hn := g.n5
  have d1 : ∀ u ∈ span 0 n, ∀ d ∈ span 0 n, (dead1 chs t u d).length ≤ 12 := fun u hu d hd => by
    unfold dead1
    rw [List.length_map]
    have hu := mem_span.mp hu
    have hd := mem_span.mp hd
    exact Nat.le_trans (List.length_filter_le _ _) (ht.len _ _ (by omega) (by omega))
  have rngn : Rng (n : Int) := rng_small (by omega) (by omega)
  refine en_bndE (en_eq _) (en_bndE (en_grd rngn (en_eq _)) ?_)
  refine en_for (fun pre s => s = pre.flatMap fun u => (span 0 n).flatMap fun d => dead1 chs t u d) _ rfl (fun pre u post s k e hs hk => ?_) (fun s e => en_ret e)
  have hu : u ∈ span 0 ((n : Int)).toNat := by rw [e]; simp
  have hul := congrArg List.length e
  rw [span_length, List.length_append, List.length_cons] at hul
  have sub : ∀ x ∈ pre, x ∈ span 0 n := fun x hx => by
    have : x ∈ span 0 ((n : Int)).toNat := by rw [e]; simp [hx]
    exact this
  have hsl : s.length ≤ 300 := by
    rw [hs]
    have := fm_bound (f := fun u => (span 0 n).flatMap fun d => dead1 chs t u d) (B := 60) pre fun x hx => by
      have := fm_bound (f := fun d => dead1 chs t x d) (B := 12) (span 0 n) fun y hy => d1 x (sub x hx) y hy
      rw [span_length] at this
      show ((span 0 n).flatMap fun d => dead1 chs t x d).length ≤ 60
      omega
    have : pre.length * 60 ≤ 300 := by omega
    omega
  refine en_bndE (en_grd rngn (en_eq _)) ?_
  refine en_for (fun p2 s2 => s2 = s ++ p2.flatMap fun d => dead1 chs t u d) _ (by simp) (fun p2 d q2 s2 k2 e2 hs2 hk2 => ?_) (fun s2 hs2 => hk _ ?_)
  · have hd : d ∈ span 0 ((n : Int)).toNat := by rw [e2]; simp
    have hdl := congrArg List.length e2
    rw [span_length, List.length_append, List.length_cons] at hdl
    have hu' := mem_span.mp hu
    have hd' := mem_span.mp hd
    obtain ⟨row, e3, e4⟩ := tab_at ht.shp (u := u) (d := d) hu'.1 (by omega) hd'.1 (by omega)
    refine en_ext (R := fun v => v = dead1 chs t u d) (en_bndE (en_bndE (en_optE e3) (en_optE e4)) (en_lc (fun c => !decide (OkC chs t d.toNat c)) (fun c => (u, d, c)) _ (by have := ht.len u.toNat d.toNat (by omega) (by omega); omega) (fun c hc => ?_) (fun _ _ _ => en_eq _))) (fun ys e => ?_) (fun ys e => hk2 _ ?_)
    · have := ht.rng u.toNat d.toNat (by omega) (by omega) c hc
      exact en_noX (en_is_end g ht this.1 this.2 hd'.1 (by omega))
    · have := fm_bound (f := fun d => dead1 chs t u d) (B := 12) p2 fun y hy => d1 u hu y (by
        have : y ∈ span 0 ((n : Int)).toNat := by rw [e2]; simp [hy]
        exact this)
      have := d1 u hu d hd
      have : p2.length * 12 ≤ 60 := by omega
      rw [hs2, List.length_append, e]
      omega
    · rw [hs2, e, List.flatMap_append, List.append_assoc]
      simp
  · rw [hs2, hs, List.flatMap_append, show ((n : Int)).toNat = n by omega]
    simp
omit g in
theorem dead_mem {x : Int × Int × Int} : x ∈ deadL n chs t ↔ 0 ≤ x.1 ∧ x.1 < n ∧ 0 ≤ x.2.1 ∧ x.2.1 < n ∧ x.2.2 ∈ cell t x.1.toNat x.2.1.toNat ∧ ¬ OkC chs t x.2.1.toNat x.2.2 := by
  obtain ⟨u, d, c⟩ := x
  unfold deadL dead1
  simp only [List.mem_flatMap, List.mem_map, List.mem_filter, mem_span]
  constructor
  · rintro ⟨u', hu, d', hd, c', ⟨h1, h2⟩, e⟩
    cases e
    exact ⟨hu.1, by omega, hd.1, by omega, h1, by simpa using h2⟩
  · rintro ⟨h1, h2, h3, h4, h5, h6⟩
    exact ⟨u, ⟨h1, by omega⟩, d, ⟨h3, by omega⟩, c, ⟨h5, by simpa using h6⟩, rfl⟩
end
end Cf
namespace Cf
open PySem WL L2
open Classical
theorem cut_lo {α : Type} (xs : List α) {d : Int} (h0 : 0 ≤ d) : cutA xs none (some d) = xs.take d.toNat := by
  have e : d = ((d.toNat : Nat) : Int) := by omega
  unfold cutA
  rw [e, HT.sIx_nat, HT.sIx_none, List.drop_zero, Nat.sub_zero, Int.toNat_natCast]
  rcases Nat.le_total d.toNat xs.length with h | h
  · rw [Nat.min_eq_left h]
  · rw [Nat.min_eq_right h, List.take_length, List.take_of_length_le h]
theorem cut_hi {α : Type} (xs : List α) {d : Int} (h0 : 0 ≤ d) : cutA xs (some d) none = xs.drop d.toNat := by
  have e : d = ((d.toNat : Nat) : Int) := by omega
  unfold cutA
  rw [e, HT.sIx_nat, HT.sIx_none, Int.toNat_natCast]
  rcases Nat.le_total d.toNat xs.length with h | h
  · rw [Nat.min_eq_left h, List.take_of_length_le (by rw [List.length_drop]; exact Nat.le_refl _)]
  · rw [Nat.min_eq_right h, Nat.sub_self, List.take_zero, List.drop_of_length_le h]
theorem set_cut {α : Type} {xs : List α} {i : Nat} (h : i < xs.length) (a : α) : xs.take i ++ [a] ++ xs.drop (i + 1) = xs.set i a := by
  rw [List.set_eq_take_append_cons_drop, if_pos h, List.append_assoc]
  rfl
section
variable {n : Nat} {chs : Chs} (g : NG n chs)
include g
theorem en_with {t : Tab} (s : Shp n t) {u d : Int} {e : List Int} (hu0 : 0 ≤ u) (hu1 : u < n) (hd0 : 0 ≤ d) (hd1 : d < n) : Ens (p_with_options t u d e) (fun v => v = setC t u.toNat d.toNat e) := by
  have hn := g.n5
  obtain ⟨row, e1, _⟩ := tab_at s hu0 hu1 hd0 hd1
  have er : row = t.getD u.toNat [] := by
    have := atI_getD (xs := t) (i := u) [] hu0 (by rw [s.len]; exact hu1)
    rw [this] at e1
    exact (Option.some.inj e1).symm
  have hrl : row.length = n := by rw [er]; exact s.rowD (by omega)
  have hl := s.len
  refine en_bndE (a := row.set d.toNat e) ?_ ?_
  · refine en_bndE (a := row.take d.toNat ++ [e]) (en_bndE (a := row.take d.toNat) (en_bndE (en_optE e1) (en_ret (cut_lo row hd0))) (en_grd (by rw [List.length_take, List.length_singleton]; omega) (en_eq _))) (en_bndE (a := row.drop (d.toNat + 1)) (en_bndE (en_optE e1) (en_ret ?_)) (en_grd (by rw [List.length_append, List.length_take, List.length_drop, List.length_singleton]; omega) (en_ret (set_cut (by omega) e))))
    rw [cut_hi row (by omega), show (d + 1).toNat = d.toNat + 1 by omega]
  · refine en_bndE (a := t.take u.toNat ++ [row.set d.toNat e]) (en_grd (by rw [cut_lo t hu0, List.length_take, List.length_singleton]; omega) (en_ret (by rw [cut_lo t hu0]))) (en_grd ?_ (en_ret ?_))
    · rw [cut_hi t (by omega), List.length_append, List.length_take, List.length_drop, List.length_singleton]
      omega
    · rw [cut_hi t (by omega), show (u + 1).toNat = u.toNat + 1 by omega, set_cut (by omega)]
      unfold setC
      rw [er]
noncomputable def cutT (t : Tab) (u d c : Int) : Tab := setC t u.toNat d.toNat ((cell t u.toNat d.toNat).filter fun x => !decide (x = c))
theorem en_without {t : Tab} (s : Shp n t) {u d c : Int} (hl : ∀ i j, i < n → j < n → (cell t i j).length ≤ 12) (hu0 : 0 ≤ u) (hu1 : u < n) (hd0 : 0 ≤ d) (hd1 : d < n) : Ens (p_without_option t u d c) (fun v => v = cutT t u d c) := by
  obtain ⟨row, e1, e2⟩ := tab_at s hu0 hu1 hd0 hd1
  refine en_bndE (en_bndE (en_bndE (en_optE e1) (en_optE e2)) (en_lcF (fun x => !decide (x = c)) _ (by have := hl u.toNat d.toNat (by omega) (by omega); omega) (fun x _ => en_eq _) (fun x _ _ => en_eq _))) (en_noX (en_with g s hu0 hu1 hd0 hd1))
theorem en_neL {xs : List (Int × Int × Int)} : Ens (eqLN (List.map (e3 eI eI eI) xs) (List.map (e3 eI eI eI) ([] : List (Int × Int × Int)))) (fun v => v = !xs.isEmpty) := by
  have h1 : ∀ l : List (Int × Int × Int), PyData.canLayAll0 (l.map (e3 eI eI eI)) = true ∧ PyData.depthAll (l.map (e3 eI eI eI)) ≤ 1 := fun l => by
    induction l with
    | nil => simp [PyData.canLayAll0, PyData.depthAll]
    | cons a l ih =>
      rw [List.map_cons]
      have i1 : PyData.canLayAll0 (List.map (e3 PyData.int PyData.int PyData.int) l) = true := ih.1
      have i2 : PyData.depthAll (List.map (e3 PyData.int PyData.int PyData.int) l) ≤ 1 := ih.2
      constructor
      · simp [PyData.canLayAll0, i1, e3, eI, PyData.canLay0]
      · simp only [PyData.depthAll, e3, eI, PyData.depth]
        omega
  refine en_grd ⟨?_, rfl⟩ (en_ret ?_)
  · show (PyData.canLay0 (.list (xs.map (e3 eI eI eI))) && decide (PyData.depth (.list (xs.map (e3 eI eI eI))) ≤ 64)) = true
    have h3 : PyData.depthAll (xs.map (e3 eI eI eI)) + 1 ≤ 64 := by have := (h1 xs).2; omega
    simp only [PyData.canLay0, PyData.depth, (h1 xs).1, h3]
    decide
  · cases xs with
    | nil => simp [PyData.eqv, PyData.eqvAll]
    | cons a x => simp [PyData.eqv, PyData.eqvAll]
theorem en_p_thinned {tab : Tab} (ht : TG n chs tab) : Ens (p_thinned ((n : Int), chs) tab) (fun t => ThMax chs t tab) := by
  have hn := g.n5
  have hlen := ht.shp.len
  refine en_bnd (en_noX (en_dead g ht)) fun ends he => ?_
  refine en_while (fun s => Shp n s.1 ∧ (∀ i j, i < n → j < n → (cell s.1 i j).Sublist (cell tab i j)) ∧ (∀ s', SubT n s' tab → Live n chs s' → SubT n s' s.1) ∧ s.2 = deadL n chs s.1) (fun s => !s.2.isEmpty) (fun s => sizeT s.1)
    ⟨ht.shp, fun _ _ _ _ => List.Sublist.refl _, fun s h _ => h, he⟩ (fun s _ => en_neL g) (fun s k ⟨h1, h2, h3, h4⟩ hb hk => ?_) (fun s ⟨h1, h2, h3, h4⟩ hb => ?_)
  · obtain ⟨cur, ends⟩ := s
    have h4 : ends = deadL n chs cur := h4
    subst h4
    have hcur : TG n chs cur := ht.part h1 h2
    refine en_for (fun pre t => Shp n t ∧ (∀ i j, i < n → j < n → (cell t i j).Sublist (cell cur i j)) ∧ (∀ s', SubT n s' tab → Live n chs s' → SubT n s' t) ∧ sizeT t ≤ sizeT cur ∧ (pre = [] → t = cur) ∧ (pre ≠ [] → sizeT t < sizeT cur)) _ ⟨h1, fun _ _ _ _ => List.Sublist.refl _, h3, Nat.le_refl _, fun _ => rfl, fun h => absurd rfl h⟩ (fun pre x post t k' e ⟨i1, i2, i3, i4, i5, i6⟩ hk' => ?_) (fun t ⟨i1, i2, i3, i4, i5, i6⟩ => ?_)
    · have hx : x ∈ deadL n chs cur := by
        have : x ∈ (cur, deadL n chs cur).2 := by rw [e]; simp
        exact this
      obtain ⟨d1, d2, d3, d4, d5, d6⟩ := (dead_mem hcur).mp hx
      have htt := hcur.part i1 i2
      refine en_bndE (en_noX (en_without g i1 htt.len d1 d2 d3 d4)) (hk' _ ?_)
      have hu : x.1.toNat < n := by omega
      have hd : x.2.1.toNat < n := by omega
      have hcs := cell_set (e := (cell t x.1.toNat x.2.1.toNat).filter fun y => !decide (y = x.2.2)) i1 hu hd
      have hsz := size_set (e := (cell t x.1.toNat x.2.1.toNat).filter fun y => !decide (y = x.2.2)) i1 hu hd
      have hfl := List.length_filter_le (fun y => !decide (y = x.2.2)) (cell t x.1.toNat x.2.1.toNat)
      unfold cutT
      refine ⟨shp_set i1 hu _ _, fun i j hi hj => ?_, fun s' hs hl i j hi hj c hc => ?_, by omega, fun h => by simp at h, fun _ => ?_⟩
      · rw [hcs]
        split
        · rename_i h
          rw [h.1, h.2]
          exact List.filter_sublist.trans (i2 _ _ hu hd)
        · exact i2 i j hi hj
      · have hin := i3 s' hs hl i j hi hj c hc
        rw [hcs]
        split
        · rename_i h
          rw [List.mem_filter]
          refine ⟨by rw [← h.1, ← h.2]; exact hin, ?_⟩
          have : c ≠ x.2.2 := fun z => by
            subst z
            apply d6
            rw [← h.2]
            rcases hl i j hi hj _ hc with q | q
            · exact .inl q
            · refine .inr fun z => q ?_
              have hr := hcur.rng _ _ hu hd _ d5
              have hv := tgt_rng g hr.1 hr.2
              cases hcs2 : cell s' (tgt chs x.2.2).toNat j with
              | nil => rfl
              | cons a as =>
                have := h3 s' hs hl (tgt chs x.2.2).toNat j (by omega) hj a (by rw [hcs2]; exact List.mem_cons_self)
                have : a ∈ cell cur (tgt chs x.2.2).toNat j := this
                rw [z] at this
                cases this
          simpa using this
        · exact hin
      · by_cases hp : pre = []
        · have := i5 hp
          subst this
          have hlt : ((cell t x.1.toNat x.2.1.toNat).filter fun y => !decide (y = x.2.2)).length < (cell t x.1.toNat x.2.1.toNat).length := by
            refine List.length_filter_lt_length_iff_exists.mpr ⟨x.2.2, d5, by simp⟩
          omega
        · have := i6 hp
          omega
    · have hne : deadL n chs cur ≠ [] := fun z => by
        have hb : (!(deadL n chs cur).isEmpty) = true := hb
        rw [z] at hb
        cases hb
      exact en_bnd (en_noX (en_dead g (hcur.part i1 i2))) fun ends he => hk _ ⟨i1, fun i j hi hj => (i2 i j hi hj).trans (h2 i j hi hj), i3, he⟩ (i6 hne)
  · obtain ⟨cur, ends⟩ := s
    have h4 : ends = deadL n chs cur := h4
    subst h4
    have hcur : TG n chs cur := ht.part h1 h2
    have hb : (!(deadL n chs cur).isEmpty) = false := hb
    refine en_ret ⟨by rw [hlen]; exact h1, by rw [hlen]; exact h2, ?_, by rw [hlen]; exact h3⟩
    rw [hlen]
    intro i j hi hj c hc
    refine Classical.byContradiction fun hno => ?_
    have : ((i : Int), (j : Int), c) ∈ deadL n chs cur := (dead_mem hcur).mpr ⟨by simp, by simp; omega, by simp, by simp; omega, by simpa using hc, by simpa using hno⟩
    cases hd : deadL n chs cur with
    | nil => rw [hd] at this; cases this
    | cons a as => rw [hd] at hb; cases hb
def keptT (t : Tab) (ch : List Int) : Tab := t.map fun r => r.map fun e => e.filter fun c => !decide (c ∈ ch)
theorem en_keptW {t : Tab} (ht : TG n chs t) (ch : List Int) : Ens (bnd (ret t) fun l6 => lcG (fun c1 => (ret true)) (fun c1 => (bnd (ret c1) fun l5 => lcG (fun c2 => (ret true)) (fun c2 => (bnd (ret c2) fun l4 => lcG (fun c3 => (ret (!decide (c3 ∈ ch)))) (fun c3 => (ret c3)) l4)) l5)) l6) (fun v => v = keptT t ch) := by
  have hn := g.n5
  have hl := ht.shp.len
  have ft : ∀ {α : Type} (l : List α), l.filter (fun _ => true) = l := fun l => List.filter_eq_self.mpr fun _ _ => rfl
  refine en_bndE (en_eq _) ((en_lc (fun _ => true) (fun r => r.map fun e => e.filter fun c => !decide (c ∈ ch)) _ (by omega) (fun _ _ => en_eq _) (fun r hr _ => ?_)).mono fun v e => by rw [e, ft]; rfl)
  have hrl := ht.shp.row r hr
  refine en_bndE (en_eq _) ((en_lc (fun _ => true) (fun e => e.filter fun c => !decide (c ∈ ch)) _ (by omega) (fun _ _ => en_eq _) (fun e he _ => ?_)).mono fun v e => by rw [e, ft])
  have : e.length ≤ 12 := by
    obtain ⟨i, hi, rfl⟩ := List.getElem_of_mem hr
    obtain ⟨j, hj, rfl⟩ := List.getElem_of_mem he
    have h3 := ht.len i j (by omega) (by omega)
    unfold cell at h3
    rwa [getD_lt hi, getD_lt hj] at h3
  exact en_bndE (en_eq _) (en_lcF _ _ (by omega) (fun _ _ => en_eq _) (fun _ _ _ => en_eq _))
theorem cell_kept {t : Tab} (ht : TG n chs t) (ch : List Int) {i j : Nat} (hi : i < n) (hj : j < n) : cell (keptT t ch) i j = (cell t i j).filter fun c => !decide (c ∈ ch) := by
  have hi' : i < t.length := by rw [ht.shp.len]; exact hi
  have hj' : j < t[i].length := by rw [ht.shp.row _ (List.getElem_mem _)]; exact hj
  unfold cell keptT
  have e1 : (t.map fun r => r.map fun e => e.filter fun c => !decide (c ∈ ch)).getD i [] = t[i].map fun e => e.filter fun c => !decide (c ∈ ch) := by
    rw [getD_lt (by rw [List.length_map]; exact hi'), List.getElem_map]
  rw [e1, getD_lt hi', getD_lt hj', getD_lt (by rw [List.length_map]; exact hj'), List.getElem_map]
theorem kept_ok {t : Tab} (ht : TG n chs t) (ch : List Int) : TG n chs (keptT t ch) := by
  refine ht.part ⟨by unfold keptT; rw [List.length_map]; exact ht.shp.len, fun r hr => ?_⟩ fun i j hi hj => by rw [cell_kept g ht ch hi hj]; exact List.filter_sublist
  unfold keptT at hr
  obtain ⟨r', hr', rfl⟩ := List.mem_map.mp hr
  rw [List.length_map]
  exact ht.shp.row r' hr'
theorem en_wc {t : Tab} (ht : TG n chs t) (ch : List Int) : Ens (p_without_channels (((n : Int), chs), t) ch) (fun v => v.1 = ((n : Int), chs) ∧ ThMax chs v.2 (keptT t ch)) :=
  en_bndE (en_eq _) (en_bnd (R := fun v => ThMax chs v (keptT t ch)) (en_bndE (en_noX (en_keptW g ht ch)) (en_noX (en_p_thinned g (kept_ok g ht ch)))) fun v hv => en_ret ⟨rfl, hv⟩)
end
end Cf
namespace Cf
open PySem WL L2
open Classical
theorem en_take {n : Int} (h0 : 0 < n) (h1 : n < 1073741824) : Ens (noX (l_take n)) (fun v => 0 ≤ v ∧ v < n) := en_noX (en_grd ⟨h0, h1⟩ (en_any fun a h => h))
def ChOk (n : Int) (c : Int × Int × Int) : Prop := 0 ≤ c.1 ∧ c.1 < n ∧ 0 ≤ c.2.1 ∧ c.2.1 < n ∧ 0 ≤ c.2.2 ∧ c.2.2 ≤ 3
theorem fmod_in {a n : Int} (h : 0 < n) : 0 ≤ Int.fmod a n ∧ Int.fmod a n < n := by
  rw [Int.fmod_eq_emod_of_nonneg _ (by omega)]
  exact ⟨Int.emod_nonneg _ (by omega), Int.emod_lt_of_pos _ h⟩
def srcC (chs : Chs) (c : Int) : Int := (chs.getD c.toNat (0, 0, 0)).1
structure EnOk (chs : Chs) (u : Int) (e : List Int) : Prop where
  len : e.length ≤ 12
  nd : e.Nodup
  ok : ∀ c ∈ e, 0 ≤ c ∧ c < chs.length ∧ srcC chs c = u
structure TbOk (n : Nat) (chs : Chs) (tab : Tab) : Prop where
  row : ∀ (i : Nat) row, tab[i]? = some row → row.length = n ∧ ∀ e ∈ row, EnOk chs i e
theorem TbOk.snoc {n : Nat} {chs : Chs} {tab : Tab} {row : List (List Int)} (h : TbOk n chs tab) (hl : row.length = n) (he : ∀ e ∈ row, EnOk chs tab.length e) : TbOk n chs (tab ++ [row]) := ⟨fun i r hr => by
  by_cases hi : i < tab.length
  · rw [List.getElem?_append_left hi] at hr
    exact h.row i r hr
  · rw [List.getElem?_append_right (by omega)] at hr
    by_cases e : i = tab.length
    · subst e
      rw [Nat.sub_self] at hr
      have : row = r := by simpa using hr
      subst this
      exact ⟨hl, he⟩
    · rw [List.getElem?_eq_none (by rw [List.length_singleton]; omega)] at hr
      cases hr⟩
theorem TbOk.cell {n : Nat} {chs : Chs} {tab : Tab} (h : TbOk n chs tab) (hl : tab.length = n) {i j : Nat} (hi : i < n) (hj : j < n) : EnOk chs i (cell tab i j) := by
  have hi' : i < tab.length := by omega
  obtain ⟨h1, h2⟩ := h.row i _ (List.getElem?_eq_getElem hi')
  unfold Cf.cell
  rw [getD_lt hi', getD_lt (by omega)]
  exact h2 _ (List.getElem_mem _)
theorem TbOk.tg {n : Nat} {chs : Chs} {tab : Tab} (h : TbOk n chs tab) (hl : tab.length = n) : TG n chs tab :=
  ⟨⟨hl, fun r hr => by obtain ⟨i, hi, rfl⟩ := List.getElem_of_mem hr; exact (h.row i _ (List.getElem?_eq_getElem hi)).1⟩, fun i j hi hj => (h.cell hl hi hj).nd, fun i j hi hj => (h.cell hl hi hj).len, fun i j hi hj c hc => ⟨((h.cell hl hi hj).ok c hc).1, ((h.cell hl hi hj).ok c hc).2.1⟩⟩
theorem en_l_thinned {n : Nat} {chs : Chs} {tab : Tab} (g : NG n chs) (ht : TG n chs tab) : Ens (l_thinned ((n : Int), chs) tab) (fun t => ThMax chs t tab) := by
  have hl := ht.shp.len
  have hn := g.n5
  refine en_grd ⟨?_, by omega, fun r hr => by rw [ht.shp.row r hr, hl], fun r hr e he c hc => ?_, fun c hc => ⟨(g.ch c hc).2.2.1, (g.ch c hc).2.2.2.1⟩, by have := ht.size hn; omega⟩ (en_any fun a h => h)
  · show (tab.length : Int) = n
    omega
  · obtain ⟨i, hi, rfl⟩ := List.getElem_of_mem hr
    obtain ⟨j, hj, rfl⟩ := List.getElem_of_mem he
    have hjn : j < n := by rw [← ht.shp.row _ (List.getElem_mem hi)]; exact hj
    refine ht.rng i j (by omega) hjn c ?_
    unfold cell
    rwa [getD_lt hi, getD_lt hj]
structure FG (n : Nat) (chs : Chs) (t : Tab) : Prop where
  ng : NG n chs
  tg : TG n chs t
  src : ∀ i j, i < n → j < n → ∀ c ∈ cell t i j, srcC chs c = i
  n2 : 2 ≤ n
  m0 : 0 < chs.length
  live : Live n chs t
theorem en_fabric : Ens l_fabric (fun f => ∃ (n : Nat) (chs : Chs) (t : Tab), f = (((n : Int), chs), t) ∧ FG n chs t) := by
  refine en_bnd (R := fun n => 2 ≤ n ∧ n ≤ 5) (en_bnd (en_take (by decide) (by decide)) fun a ha => en_ret ⟨by omega, by omega⟩) fun n0 ⟨hn2, hn5⟩ => ?_
  obtain ⟨n, rfl⟩ : ∃ n : Nat, n0 = (n : Int) := ⟨n0.toNat, by omega⟩
  refine en_bndE (en_eq _) ?_
  have rngn : Rng (n : Int) := rng_small (by omega) (by omega)
  refine en_letK (I := fun s => s.length ≤ 5 ∧ ∀ c ∈ s, ChOk n c) (fun s ⟨hsl, hs⟩ => ?_) (fun k' hk' => ?_)
  · refine en_bnd (R := fun l => 1 ≤ l.length ∧ l.length ≤ 7) (en_bnd (R := fun x => 1 ≤ x ∧ x ≤ 7) (en_bnd (en_take (by decide) (by decide)) fun a ha => en_ret ⟨by omega, by omega⟩) fun x hx => en_grd (rng_small (by omega) (by omega)) (en_ret (by rw [span_length]; omega))) fun l ⟨hl1, hl⟩ => ?_
    refine en_for (fun pre s => s.length ≤ 5 + pre.length ∧ pre.length ≤ s.length ∧ ∀ c ∈ s, ChOk n c) l ⟨by simpa using hsl, Nat.zero_le _, hs⟩ (fun pre x post s k e ⟨h1, h11, h2⟩ hk => ?_) (fun chs ⟨h1, h11, h2⟩ => ?_)
    · have hpl : pre.length < 7 := by
        have := congrArg List.length e
        rw [List.length_append, List.length_cons] at this
        omega
      refine en_bnd (en_take (by omega) (by omega)) fun u hu => ?_
      refine en_app (R := ChOk n) ?_ (by omega) fun a ha => hk _ ⟨by rw [List.length_append, List.length_append, List.length_singleton, List.length_singleton]; omega, by rw [List.length_append, List.length_append, List.length_singleton, List.length_singleton]; omega, fun c hc => ?_⟩
      · refine en_bnd (R := fun v => 0 ≤ v ∧ v < (n : Int)) (en_bnd (R := fun _ => True) (en_bnd (R := fun _ => True) ((en_take (by omega) (by omega)).mono fun _ _ => trivial) fun _ _ => en_ret trivial) fun y _ => en_grd (by omega) (en_ret (fmod_in (by omega)))) fun v hv => ?_
        exact en_bnd (R := fun r => 0 ≤ r ∧ r ≤ 3) (en_bnd (en_take (by decide) (by decide)) fun a ha => en_ret ⟨by omega, by omega⟩) fun r hr => en_ret ⟨hu.1, hu.2, hv.1, hv.2, hr.1, hr.2⟩
      · rcases List.mem_append.mp hc with hc | hc
        · exact h2 c hc
        · rw [List.mem_singleton.mp hc]
          exact ha
    · have hm : chs.length ≤ 12 := by omega
      have rngm : Rng (chs.length : Int) := rng_small (by omega) (by omega)
      refine en_bndE (en_eq _) ?_
      refine en_bnd (R := fun r => 2 ≤ r ∧ r ≤ 5) (en_bnd (en_take (by decide) (by decide)) fun a ha => en_ret ⟨by omega, by omega⟩) fun rate hrate => ?_
      refine en_bndE (en_eq _) (en_bndE (en_grd rngn (en_eq _)) ?_)
      refine en_for (fun pre tab => tab.length = pre.length ∧ TbOk n chs tab) _ ⟨rfl, ⟨fun i row h => (by simp at h)⟩⟩ (fun pre u post tab k e ⟨h3, h4⟩ hk => ?_) (fun tab ⟨h3, h4⟩ => ?_)
      · have eu := span_at e
        have hul : pre.length < 5 := by
          have := congrArg List.length e
          rw [span_length, List.length_append, List.length_cons] at this
          omega
        refine en_bndE (en_eq _) (en_bndE (en_grd rngn (en_eq _)) ?_)
        refine en_for (fun pre2 row => row.length = pre2.length ∧ ∀ e ∈ row, EnOk chs u e) _ ⟨rfl, fun e he => (by cases he)⟩ (fun pre2 d post2 row k2 e2 ⟨h5, h6⟩ hk2 => ?_) (fun row ⟨h5, h6⟩ => ?_)
        · have hdl : pre2.length < 5 := by
            have := congrArg List.length e2
            rw [span_length, List.length_append, List.length_cons] at this
            omega
          refine en_bndE (a := (span 0 chs.length).filter fun c => decide (srcC chs c = u) && !decide (u = d)) (en_bndE (en_grd rngm (en_eq _)) (en_lcF _ _ (by rw [span_length]; omega) (fun c hc => ?_) (fun c _ _ => en_eq _))) ?_
          · obtain ⟨hc0, hc1⟩ := mem_span.mp hc
            refine en_bndE (en_bndE (en_bndE (en_optE (atI_getD (0, 0, 0) hc0 (by omega))) (en_eq _)) (en_eq _)) (en_sel (fun h => en_ret ?_) (fun h => en_ret ?_))
            · have : srcC chs c = u := of_decide_eq_true h
              rw [decide_eq_true this]
              rfl
            · have : ¬ srcC chs c = u := of_decide_eq_false h
              rw [decide_eq_false this]
              rfl
          · generalize hown : ((span 0 chs.length).filter fun c => decide (srcC chs c = u) && !decide (u = d)) = own
            have own1 : ∀ c ∈ own, 0 ≤ c ∧ c < chs.length ∧ srcC chs c = u := fun c hc => by
              rw [← hown, List.mem_filter, Bool.and_eq_true] at hc
              have := mem_span.mp hc.1
              exact ⟨this.1, by omega, of_decide_eq_true hc.2.1⟩
            have ownl : own.length ≤ 12 := by
              have := List.length_filter_le (fun c => decide (srcC chs c = u) && !decide (u = d)) (span 0 chs.length)
              rw [span_length, hown] at this
              exact Nat.le_trans this hm
            have ownn : own.Nodup := by
              rw [← hown]
              exact (span_nodup 0 _).sublist List.filter_sublist
            refine en_app (R := EnOk chs u) (en_bndE (en_eq _) ((en_lcGS _ (by omega) (fun c hc => ?_)).mono fun ys hy => ⟨Nat.le_trans hy.length_le ownl, ownn.sublist hy, fun c hc => own1 c (hy.subset hc)⟩)) (by omega) fun a ha => hk2 _ ⟨by rw [List.length_append, List.length_append, h5]; rfl, fun e he => ?_⟩
            · obtain ⟨hc0, hc1, _⟩ := own1 c hc
              exact en_bndE (en_bndE (en_bndE (en_optE (atI_getD (0, 0, 0) hc0 hc1)) (en_eq _)) (en_eq _)) (en_sel (fun _ => en_ret trivial) (fun _ => en_bnd ((en_take (by omega) (by omega)).mono fun _ _ => trivial) fun _ (_ : True) => en_ret trivial))
            · rcases List.mem_append.mp he with he | he
              · exact h6 e he
              · rw [List.mem_singleton.mp he]
                exact ha
        · refine en_app (R := fun r => r = row) (en_eq _) (by omega) fun a ha => hk _ ⟨by rw [List.length_append, List.length_append, h3]; rfl, ?_⟩
          subst ha
          rw [span_length] at h5
          refine h4.snoc (by omega) fun e he => ?_
          have := h6 e he
          rw [eu] at this
          rw [h3]
          rw [show (0 : Int) + (pre.length : Int) = (pre.length : Int) by omega] at this
          exact this
      · rw [span_length] at h3
        have hl : tab.length = n := by omega
        have ng : NG n chs := ⟨by omega, hm, h2⟩
        refine en_bnd (R := fun t => ThMax chs t tab) (en_noX (en_l_thinned ng (h4.tg hl))) fun t ht => en_ret ⟨n, chs, t, rfl, ng, (h4.tg hl).part (by have := ht.shp; rw [hl] at this; exact this) (fun i j hi hj => ht.sub i j (by omega) (by omega)), fun i j hi hj c hc => ((h4.cell hl hi hj).ok c ((ht.sub i j (by omega) (by omega)).subset hc)).2.2, by omega, by omega, by have := ht.live; rw [hl] at this; exact this⟩
  · refine en_bnd (R := fun _ => True) (en_bnd ((en_take (by decide) (by decide)).mono fun _ _ => trivial) fun _ (_ : True) => en_ret trivial) fun b _ => en_sel (fun _ => ?_) (fun _ => hk' _ ⟨by simp, fun c hc => (by cases hc)⟩)
    refine en_bnd (R := fun s => s.length ≤ 5 ∧ ∀ c ∈ s, ChOk n c) (en_bndE (en_grd rngn (en_eq _)) ((en_lcGR (R := fun _ y => ChOk n y) _ (by rw [span_length]; omega) (fun _ _ => en_ret trivial) (fun c hc => ?_)).mono fun ys ⟨y1, y2⟩ => ⟨by rw [span_length] at y1; omega, fun c hc => (y2 c hc).elim fun _ h => h.2⟩)) fun s hs => hk' s hs
    obtain ⟨hc0, hc1⟩ := mem_span.mp hc
    refine en_bnd (R := fun v => 0 ≤ v ∧ v < (n : Int)) (en_grd (by omega) (en_ret (fmod_in (by omega)))) fun v hv => ?_
    exact en_bnd (R := fun r => 0 ≤ r ∧ r ≤ 3) (en_bnd (en_take (by decide) (by decide)) fun a ha => en_ret ⟨by omega, by omega⟩) fun r hr => en_ret ⟨hc0, by show c < (n : Int); omega, hv.1, hv.2, hr.1, hr.2⟩
section
variable {n : Nat} {chs : Chs} {t : Tab} (g : FG n chs t)
include g
theorem en_l_placed {d : Int} (hd0 : 0 ≤ d) (hd1 : d < n) : Ens (l_placed (((n : Int), chs), t) d) (fun v => v = (span 0 chs.length).filter fun c => decide (c ∈ cell t (srcC chs c).toNat d.toNat)) := by
  have hm := g.ng.ml
  unfold l_placed
  dsimp only
  refine en_bndE (en_grd (rng_small (by omega) (by omega)) (en_eq _)) ?_
  refine en_lcF _ _ (by rw [span_length]; omega) (fun c hc => ?_) (fun c _ _ => en_eq _)
  obtain ⟨h0, h1⟩ := mem_span.mp hc
  have h1 : c < chs.length := by omega
  have hs := g.ng.ch _ (getD_mem (0, 0, 0) (show c.toNat < chs.length by omega))
  obtain ⟨row, e2, e3⟩ := tab_at g.tg.shp (u := srcC chs c) hs.1 hs.2.1 hd0 hd1
  exact en_bndE (en_bndE (en_bndE (en_bndE (en_optE (atI_getD (0, 0, 0) h0 h1)) (en_eq _)) (en_optE e2)) (en_optE e3)) (en_ret (by congr))
structure StOk (n : Nat) (chs : Chs) (t : Tab) (st : Int × List (List (Int × Int))) : Prop where
  len : st.2.length = chs.length
  row : ∀ (c : Nat) q, st.2[c]? = some q → q.length ≤ 3 ∧ ∀ p ∈ q, 0 ≤ p.2 ∧ p.2 < (n : Int) ∧ (c : Int) ∈ cell t (srcC chs c).toNat p.2.toNat
theorem en_state : Ens (l_state (((n : Int), chs), t)) (StOk n chs t) := by
  have hm := g.ng.ml
  have hn := g.ng.n5
  have rngm : Rng (chs.length : Int) := rng_small (by omega) (by omega)
  have rngn : Rng (n : Int) := rng_small (by omega) (by omega)
  unfold l_state
  dsimp only
  refine en_bndE (a := (span 0 chs.length).map fun c => (span 0 n).filter fun d => decide (c ∈ (span 0 chs.length).filter fun c => decide (c ∈ cell t (srcC chs c).toNat d.toNat))) (en_bndE (en_grd rngm (en_eq _)) ((en_lc (fun _ => true) (fun c => (span 0 n).filter fun d => decide (c ∈ (span 0 chs.length).filter fun c => decide (c ∈ cell t (srcC chs c).toNat d.toNat))) _ (by rw [span_length]; omega) (fun _ _ => en_eq _) (fun c hc _ => ?_)).mono fun v e => by rw [e, List.filter_eq_self.mpr fun _ _ => rfl]; rfl)) ?_
  · refine en_bndE (en_grd rngn (en_eq _)) (en_lcF _ _ (by rw [span_length]; omega) (fun d hd => ?_) (fun _ _ _ => en_eq _))
    obtain ⟨d0, d1⟩ := mem_span.mp hd
    exact en_bndE (en_noX (en_l_placed g d0 (by omega))) (en_ret (by congr))
  generalize hg : ((span 0 chs.length).map fun c => (span 0 n).filter fun d => decide (c ∈ (span 0 chs.length).filter fun c => decide (c ∈ cell t (srcC chs c).toNat d.toNat))) = goals
  have gl : goals.length = chs.length := by rw [← hg, List.length_map, span_length]
  have gat : ∀ c : Nat, c < chs.length → ∃ q, goals[c]? = some q ∧ ∀ d ∈ q, 0 ≤ d ∧ d < (n : Int) ∧ (c : Int) ∈ cell t (srcC chs c).toNat d.toNat := fun c hc => by
    have hs : (span 0 chs.length)[c]? = some (c : Int) := by
      unfold span
      rw [List.getElem?_map, List.getElem?_range hc]
      simp
    refine ⟨(span 0 n).filter fun d => decide ((c : Int) ∈ (span 0 chs.length).filter fun c => decide (c ∈ cell t (srcC chs c).toNat d.toNat)), by rw [← hg, List.getElem?_map, hs]; rfl, fun d hd => ?_⟩
    rw [List.mem_filter, decide_eq_true_iff, List.mem_filter, decide_eq_true_iff] at hd
    have h1 := mem_span.mp hd.1
    exact ⟨h1.1, by omega, hd.2.2⟩
  refine en_bnd (R := fun _ => True) ((en_take (by decide) (by decide)).mono fun _ _ => trivial) fun full _ => ?_
  refine en_bndE (en_eq _) (en_bndE (en_eq _) (en_bndE (en_grd (rng_small (by omega) (by omega)) (en_eq _)) ?_))
  refine en_for (fun pre s => s.2.length = pre.length ∧ ∀ (c : Nat) q, s.2[c]? = some q → q.length ≤ 3 ∧ ∀ p ∈ q, 0 ≤ p.2 ∧ p.2 < (n : Int) ∧ (c : Int) ∈ cell t (srcC chs c).toNat p.2.toNat) _ ⟨rfl, fun c q h => by simp at h⟩ (fun pre x post s k e ⟨h1, h2⟩ hk => ?_) (fun s ⟨h1, h2⟩ => ?_)
  · have ex := span_at e
    have hpl : pre.length < chs.length := by
      have := congrArg List.length e
      rw [span_length, List.length_append, List.length_cons] at this
      omega
    have ex' : x = ((pre.length : Nat) : Int) := by omega
    obtain ⟨q, eq1, eq2⟩ := gat pre.length hpl
    have eq3 : atI goals x = some q := by rw [ex']; exact atI_nat eq1
    have hroom := g.ng.ch _ (getD_mem (0, 0, 0) hpl)
    have eroom : atI chs x = some (chs.getD pre.length (0, 0, 0)) := by
      have := atI_getD (xs := chs) (i := x) (0, 0, 0) (by omega) (by omega)
      rwa [show x.toNat = pre.length by omega] at this
    refine en_bndE (en_eq _) (en_bndE (en_bndE (en_optE eroom) (en_eq _)) ?_)
    refine en_bnd (R := fun l => l.length ≤ 3 ∧ (l ≠ [] → q ≠ [])) ?_ (fun l ⟨hl3, hlq⟩ => ?_)
    · refine en_bnd (R := fun v => 0 ≤ v ∧ v ≤ 3 ∧ (v ≠ 0 → q ≠ [])) (en_bndE (en_bndE (en_bndE (en_optE eq3) (en_eq _)) (en_eq _)) (en_sel (fun h => en_ret ⟨by omega, by omega, fun z => absurd rfl z⟩) (fun h => ?_))) (fun v ⟨v0, v1, v2⟩ => en_grd (rng_small v0 (by omega)) (en_ret ⟨by rw [span_length]; omega, fun hne => v2 fun z => hne (by rw [z]; rfl)⟩))
      have hq : q ≠ [] := fun z => by
        rw [z] at h
        simp at h
      refine en_sel (fun _ => en_ret ⟨hroom.2.2.2.2.1, hroom.2.2.2.2.2, fun _ => hq⟩) (fun _ => (en_take (by omega) (by omega)).mono fun v hv => ⟨hv.1, by omega, fun _ => hq⟩)
    · refine en_for (fun p2 s2 => s2.1.length = p2.length ∧ ∀ p ∈ s2.1, 0 ≤ p.2 ∧ p.2 < (n : Int) ∧ ((pre.length : Nat) : Int) ∈ cell t (srcC chs ((pre.length : Nat) : Int)).toNat p.2.toNat) l ⟨rfl, fun p hp => (by cases hp)⟩ (fun p2 y q2 s2 k2 e2 ⟨h3, h4⟩ hk2 => ?_) (fun s2 ⟨h3, h4⟩ => ?_)
      · have hq : q ≠ [] := hlq (by rw [e2]; simp)
        have hp2 : p2.length < 3 := by
          have := congrArg List.length e2
          rw [List.length_append, List.length_cons] at this
          omega
        have hql := List.length_pos_iff.mpr hq
        have hqs : q.length ≤ 5 := by
          rw [← hg, List.getElem?_map] at eq1
          cases hz : (span 0 chs.length)[pre.length]? with
          | none => rw [hz] at eq1; cases eq1
          | some z =>
            rw [hz] at eq1
            have eq1 := Option.some.inj eq1
            rw [← eq1]
            have := List.length_filter_le (fun d => decide (z ∈ (span 0 chs.length).filter fun c => decide (c ∈ cell t (srcC chs c).toNat d.toNat))) (span 0 n)
            rw [span_length] at this
            exact Nat.le_trans this hn
        refine en_app (R := fun a => 0 ≤ a.2 ∧ a.2 < (n : Int) ∧ ((pre.length : Nat) : Int) ∈ cell t (srcC chs ((pre.length : Nat) : Int)).toNat a.2.toNat) ?_ (by omega) fun a ha => en_bndE (en_eq _) (hk2 _ ⟨by rw [List.length_append, List.length_append, h3]; rfl, fun p hp => ?_⟩)
        · refine en_bnd (R := fun d => d ∈ q) (en_bndE (en_optE eq3) (en_bnd (R := fun v => 0 ≤ v ∧ v < (q.length : Int)) (en_bndE (a := (q.length : Int)) (en_bndE (en_optE eq3) (en_eq _)) (en_take (by omega) (by omega))) fun v hv => en_opt (atI_getD 0 hv.1 hv.2) (getD_mem 0 (by omega)))) fun d hd => en_ret (eq2 d hd)
        · rcases List.mem_append.mp hp with hp | hp
          · exact h4 p hp
          · rw [List.mem_singleton.mp hp]
            exact ha
      · have hll : s2.1.length ≤ 3 := by omega
        refine en_app (R := fun r => r = s2.1) (en_eq _) (by omega) fun a ha => hk _ ⟨by rw [List.length_append, List.length_append, h1]; rfl, fun c q' hq' => ?_⟩
        subst ha
        by_cases hc : c < s.2.length
        · rw [List.getElem?_append_left hc] at hq'
          exact h2 c q' hq'
        · rw [List.getElem?_append_right (by omega)] at hq'
          by_cases ec : c = s.2.length
          · subst ec
            rw [Nat.sub_self] at hq'
            have : s2.1 = q' := by simpa using hq'
            subst this
            rw [h1]
            exact ⟨hll, h4⟩
          · rw [List.getElem?_eq_none (by rw [List.length_singleton]; omega)] at hq'
            cases hq'
  · rw [span_length] at h1
    refine en_bnd (R := fun _ => True) (en_bnd ((en_take (by decide) (by decide)).mono fun _ _ => trivial) fun _ (_ : True) => en_ret trivial) fun v _ => en_ret ⟨by show s.2.length = chs.length; omega, h2⟩
end
end Cf
/-! GL: helpers of the plain laws. -/
namespace WL
open PySem L2
/-! ### a typed thing as data: its form, equality -/
structure EE {α : Type} [DecidableEq α] (e : α → PyData) (k : Nat) : Prop where
  lay : ∀ x, (e x).canLay0 = true
  dep : ∀ x, (e x).depth ≤ k
  eq : ∀ x y, PyData.eqv (e x) (e y) = decide (x = y)
section
variable {α β γ δ : Type} [DecidableEq α] [DecidableEq β] [DecidableEq γ] [DecidableEq δ]
theorem ee_I : EE eI 0 := ⟨fun x => by simp [eI, PyData.canLay0], fun x => by simp [eI, PyData.depth], fun x y => by
  by_cases h : x = y
  · simp [eI, PyData.eqv, h]
  · simp [eI, PyData.eqv, h]⟩
theorem ee_B : EE eB 0 := ⟨fun x => by simp [eB, PyData.canLay0], fun x => by simp [eB, PyData.depth], fun x y => by cases x <;> cases y <;> simp [eB, PyData.eqv]⟩
theorem ee_all {e : α → PyData} {k : Nat} (h : EE e k) : ∀ l : List α, PyData.canLayAll0 (l.map e) = true ∧ PyData.depthAll (l.map e) ≤ k
  | [] => by simp [PyData.canLayAll0, PyData.depthAll]
  | a :: l => by
    obtain ⟨i1, i2⟩ := ee_all h l
    have h1 := h.lay a
    have h2 := h.dep a
    rw [List.map_cons]
    constructor
    · simp [PyData.canLayAll0, i1, h1]
    · simp only [PyData.depthAll]
      omega
theorem ee_eqAll {e : α → PyData} {k : Nat} (h : EE e k) : ∀ l m : List α, PyData.eqvAll (l.map e) (m.map e) = decide (l = m)
  | [], [] => by simp [PyData.eqvAll]
  | [], _ :: _ => by simp [PyData.eqvAll]
  | _ :: _, [] => by simp [PyData.eqvAll]
  | a :: l, b :: m => by
    rw [List.map_cons, List.map_cons, PyData.eqvAll, h.eq, ee_eqAll h l m]
    by_cases e1 : a = b
    · by_cases e2 : l = m
      · simp [e1, e2]
      · simp [e1, e2]
    · simp [e1]
theorem ee_T {e : α → PyData} {k : Nat} (h : EE e k) : EE (eT e) (k + 1) := ⟨fun x => by
  have := (ee_all h x).1
  simp [eT, PyData.canLay0, this], fun x => by
  have := (ee_all h x).2
  simp only [eT, PyData.depth]
  omega, fun x y => by
  have := ee_eqAll h x y
  simp [eT, PyData.eqv, this]⟩
theorem ee_2 {a : α → PyData} {b : β → PyData} {k : Nat} (ha : EE a k) (hb : EE b k) : EE (e2 a b) (k + 1) := ⟨fun x => by
  simp [e2, PyData.canLay0, PyData.canLayAll0, ha.lay, hb.lay], fun x => by
  have := ha.dep x.1
  have := hb.dep x.2
  simp only [e2, PyData.depth, PyData.depthAll]
  omega, fun x y => by
  obtain ⟨x1, x2⟩ := x
  obtain ⟨y1, y2⟩ := y
  simp only [e2, PyData.eqv, PyData.eqvAll, ha.eq, hb.eq, Prod.mk.injEq, Bool.and_true]
  simp⟩
theorem ee_3 {a : α → PyData} {b : β → PyData} {c : γ → PyData} {k : Nat} (ha : EE a k) (hb : EE b k) (hc : EE c k) : EE (e3 a b c) (k + 1) := ⟨fun x => by
  simp [e3, PyData.canLay0, PyData.canLayAll0, ha.lay, hb.lay, hc.lay], fun x => by
  have := ha.dep x.1
  have := hb.dep x.2.1
  have := hc.dep x.2.2
  simp only [e3, PyData.depth, PyData.depthAll]
  omega, fun x y => by
  obtain ⟨x1, x2, x3⟩ := x
  obtain ⟨y1, y2, y3⟩ := y
  simp only [e3, PyData.eqv, PyData.eqvAll, ha.eq, hb.eq, hc.eq, Prod.mk.injEq, Bool.and_true]
  simp⟩
theorem EE.up {e : α → PyData} {k j : Nat} (h : EE e k) (hj : k ≤ j) : EE e j := ⟨h.lay, fun x => Nat.le_trans (h.dep x) hj, h.eq⟩
theorem ee_O {e : α → PyData} {k : Nat} (h : EE e k) (hn : ∀ x, PyData.eqv .none (e x) = false) (hn' : ∀ x, PyData.eqv (e x) .none = false) : EE (eO e) k := ⟨fun x => by
  cases x with
  | none => simp [eO, PyData.canLay0]
  | some a => exact h.lay a, fun x => by
  cases x with
  | none => simp [eO, PyData.depth]
  | some a => exact h.dep a, fun x y => by
  cases x with
  | none =>
    cases y with
    | none => simp [eO, PyData.eqv]
    | some b => simp [eO, hn]
  | some a =>
    cases y with
    | none => simp [eO, hn']
    | some b => simp [eO, h.eq]⟩
theorem EE.sh {e : α → PyData} {k : Nat} (h : EE e k) (hk : k ≤ 64) (x : α) : SeqAt.shaped (e x) = true := by
  show ((e x).canLay0 && decide ((e x).depth ≤ 64)) = true
  rw [h.lay x, decide_eq_true (by have := h.dep x; omega)]
  rfl
theorem EE.shL {e : α → PyData} {k : Nat} (h : EE e k) (hk : k < 64) (l : List α) : SeqAt.shaped (.list (l.map e)) = true := by
  obtain ⟨i1, i2⟩ := ee_all h l
  show (PyData.canLay0 (.list (l.map e)) && decide (PyData.depth (.list (l.map e)) ≤ 64)) = true
  have : PyData.depthAll (l.map e) + 1 ≤ 64 := by omega
  simp only [PyData.canLay0, PyData.depth, i1, this]
  decide
theorem en_eqW {e : α → PyData} {k : Nat} (h : EE e k) (hk : k ≤ 64) (x y : α) : Ens (eqW (e x) (e y)) (fun v => v = decide (x = y)) := en_grd ⟨h.sh hk x, h.sh hk y⟩ (en_ret (h.eq x y))
theorem en_eqWN {e : α → PyData} {k : Nat} (h : EE e k) (hk : k ≤ 64) (x y : α) : Ens (eqWN (e x) (e y)) (fun v => v = !decide (x = y)) := en_grd ⟨h.sh hk x, h.sh hk y⟩ (en_ret (by rw [h.eq x y]))
theorem en_eqLW {e : α → PyData} {k : Nat} (h : EE e k) (hk : k < 64) (x y : List α) : Ens (eqL (x.map e) (y.map e)) (fun v => v = decide (x = y)) := en_grd ⟨h.shL hk x, h.shL hk y⟩ (en_ret (by
  have := ee_eqAll h x y
  simp [PyData.eqv, this]))
theorem en_eqLNW {e : α → PyData} {k : Nat} (h : EE e k) (hk : k < 64) (x y : List α) : Ens (eqLN (x.map e) (y.map e)) (fun v => v = !decide (x = y)) := en_grd ⟨h.shL hk x, h.shL hk y⟩ (en_ret (by
  have := ee_eqAll h x y
  simp [PyData.eqv, this]))
theorem any_eqv {e : α → PyData} {k : Nat} (h : EE e k) (x : α) (l : List α) : ((l.map e).any fun z => PyData.eqv z (e x)) = decide (x ∈ l) := by
  induction l with
  | nil => simp
  | cons a l ih =>
    rw [List.map_cons, List.any_cons, ih, h.eq]
    by_cases e1 : a = x
    · subst e1; simp
    · have : ¬ x = a := fun z => e1 z.symm
      simp [e1, this]
theorem en_inW {e : α → PyData} {k : Nat} (h : EE e k) (hk : k < 64) (x : α) (l : List α) : Ens (inW e x l) (fun v => v = decide (x ∈ l)) := en_grd ⟨h.sh (Nat.le_of_lt hk) x, h.shL hk l⟩ (en_ret (any_eqv h x l))
theorem en_niW {e : α → PyData} {k : Nat} (h : EE e k) (hk : k < 64) (x : α) (l : List α) : Ens (niW e x l) (fun v => v = !decide (x ∈ l)) := en_grd ⟨h.sh (Nat.le_of_lt hk) x, h.shL hk l⟩ (en_ret (by rw [any_eqv h x l]))
theorem en_inD {e : α → PyData} {k : Nat} (h : EE e k) (hk : k < 64) (x : α) (l : List α) : Ens (inD (e x) (l.map e)) (fun v => v = decide (x ∈ l)) := en_grd ⟨h.sh (Nat.le_of_lt hk) x, h.shL hk l⟩ (en_ret (any_eqv h x l))
theorem en_niD {e : α → PyData} {k : Nat} (h : EE e k) (hk : k < 64) (x : α) (l : List α) : Ens (niD (e x) (l.map e)) (fun v => v = !decide (x ∈ l)) := en_grd ⟨h.sh (Nat.le_of_lt hk) x, h.shL hk l⟩ (en_ret (by rw [any_eqv h x l]))
theorem en_idxW {e : α → PyData} {k : Nat} (h : EE e k) (hk : k < 64) {x : α} {l : List α} {j : Nat} (hj : l.findIdx? (fun z => decide (z = x)) = some j) : Ens (idxW e l x) (fun v => v = (j : Int)) := by
  refine en_grd ⟨h.shL hk l, h.sh (Nat.le_of_lt hk) x⟩ (en_bndE (en_optE (a := j) ?_) (en_eq _))
  have : (fun z => PyData.eqv (e z) (e x)) = fun z => decide (z = x) := by
    funext z
    exact h.eq z x
  rw [this]
  exact hj
end
/-! ### what a transformer is sure of -/
section
variable {α β γ S F : Type}
theorem en_setW {xs : List α} {w : Wp α} {wi : Wp Int} {k : List α → Wp F} {Q : F → Prop} {R : α → Prop} {i : Int} (h : Ens w R) (hi : Ens wi (fun v => v = i)) (h0 : 0 ≤ i) (h1 : i < xs.length) (hk : ∀ a, R a → Ens (k (xs.set i.toNat a)) Q) : Ens (setW xs w wi k) Q :=
  en_bnd h fun a ha => en_bndE hi (en_bndE (en_optE (a := i.toNat) (by unfold ixN; rw [if_pos h0, if_pos h1])) (hk a ha))
theorem en_putW {kvs : List (Int × α)} {w : Wp α} {wi : Wp Int} {k : List (Int × α) → Wp F} {Q : F → Prop} {R : α → Prop} {i : Int} (h : Ens w R) (hi : Ens wi (fun v => v = i)) (hl : kvs.length < 16777216) (hk : ∀ a, R a → Ens (k (putI kvs i a)) Q) : Ens (putW kvs w wi k) Q :=
  en_bnd h fun a ha => en_bndE hi (en_grd hl (hk a ha))
theorem en_popW {xs : List α} {wi : Wp Int} {k : α → List α → Wp F} {Q : F → Prop} {i : Int} {x : α} (hi : Ens wi (fun v => v = i)) (h0 : 0 ≤ i) (h1 : i < 2 ^ 62) (hx : xs[i.toNat]? = some x) (hk : Ens (k x (xs.eraseIdx i.toNat)) Q) : Ens (popW xs wi k) Q := by
  have hl := (List.getElem?_eq_some_iff.mp hx).1
  exact en_bndE hi (en_grd ⟨by omega, by omega⟩ (en_bndE (en_optE (a := i.toNat) (by unfold ixN; rw [if_pos h0, if_pos (by omega)])) (en_bndE (en_optE hx) hk)))
theorem ft {l : List α} : l.filter (fun _ => true) = l := List.filter_eq_self.mpr fun _ _ => rfl
/-- [g x for x in xs] -/
theorem en_lcM {f : α → Wp β} (g : α → β) (xs : List α) (hl : xs.length ≤ 16777216) (h2 : ∀ x ∈ xs, Ens (f x) (fun v => v = g x)) : Ens (lcG (fun _ => ret true) f xs) (fun v => v = xs.map g) :=
  (en_lc (fun _ => true) g xs hl (fun _ _ => en_eq _) fun x hx _ => h2 x hx).mono fun v e => by rw [e, ft]
/-- the items' property, all kept -/
theorem en_lcWA {f : α → Wp β} {R : α → β → Prop} : ∀ (xs : List α), (∀ x ∈ xs, Ens (f x) (R x)) → Ens (lcW (fun _ => ret true) f xs) (fun ys => ys.length = xs.length ∧ ∀ (i : Nat) x, xs[i]? = some x → ∃ y, ys[i]? = some y ∧ R x y)
  | [], _ => en_ret ⟨rfl, fun i x h => by simp at h⟩
  | x :: xs, h2 => by
    have ih := en_lcWA xs fun y hy => h2 y (List.mem_cons_of_mem _ hy)
    refine en_bndE (en_eq _) (en_sel (fun _ => en_bnd (h2 x List.mem_cons_self) fun y hy => en_bnd ih fun ys ⟨hl, hm⟩ => en_ret ⟨by rw [List.length_cons, List.length_cons, hl], fun i z hz => ?_⟩) (fun h => by cases h))
    cases i with
    | zero => cases hz; exact ⟨y, rfl, hy⟩
    | succ i => exact hm i z hz
theorem en_lcA {f : α → Wp β} {R : α → β → Prop} (xs : List α) (hl : xs.length ≤ 16777216) (h2 : ∀ x ∈ xs, Ens (f x) (R x)) : Ens (lcG (fun _ => ret true) f xs) (fun ys => ys.length = xs.length ∧ ∀ (i : Nat) x, xs[i]? = some x → ∃ y, ys[i]? = some y ∧ R x y) :=
  en_grd hl (en_noX (en_lcWA xs h2))
/-- two for -/
theorem en_lc2W {c : α → Wp Bool} {w1 : α → Wp (List γ)} {c1 : α → γ → Wp Bool} {f : α → γ → Wp β} {p : α → Bool} {us : α → List γ} {p1 : α → γ → Bool} {g : α → γ → β} {B : Nat} : ∀ (xs : List α) (n : Nat), n + xs.length * B ≤ 16777216 → (∀ x ∈ xs, Ens (c x) (fun v => v = p x)) → (∀ x ∈ xs, p x = true → Ens (w1 x) (fun v => v = us x)) → (∀ x ∈ xs, (us x).length ≤ B) →
    (∀ x ∈ xs, p x = true → ∀ y ∈ us x, Ens (c1 x y) (fun v => v = p1 x y)) → (∀ x ∈ xs, p x = true → ∀ y ∈ us x, p1 x y = true → Ens (f x y) (fun v => v = g x y)) →
    Ens (lc2W c w1 c1 f n xs) (fun v => v = (xs.filter p).flatMap fun x => ((us x).filter (p1 x)).map (g x))
  | [], _, _, _, _, _, _, _ => en_eq _
  | x :: xs, n, hb, h1, h2, h3, h4, h5 => by
    have hB := h3 x List.mem_cons_self
    rw [List.length_cons, Nat.succ_mul] at hb
    have ih := fun (m : Nat) (hm : m + xs.length * B ≤ 16777216) => en_lc2W (c := c) (w1 := w1) (c1 := c1) (f := f) xs m hm (fun y hy => h1 y (List.mem_cons_of_mem _ hy)) (fun y hy => h2 y (List.mem_cons_of_mem _ hy)) (fun y hy => h3 y (List.mem_cons_of_mem _ hy)) (fun y hy => h4 y (List.mem_cons_of_mem _ hy)) (fun y hy => h5 y (List.mem_cons_of_mem _ hy))
    refine en_bndE (h1 x List.mem_cons_self) (en_sel (fun e => ?_) fun e => ?_)
    · rw [List.filter_cons_of_pos e, List.flatMap_cons]
      refine en_bndE (h2 x List.mem_cons_self e) (en_grd (by omega) (en_bndE (en_lcW (us x) (h4 x List.mem_cons_self e) (h5 x List.mem_cons_self e)) (en_bndE (ih (n + (us x).length) (by omega)) (en_eq _))))
    · rw [List.filter_cons_of_neg (by rw [e]; decide)]
      exact ih n (by omega)
theorem en_lc2 {c : α → Wp Bool} {w1 : α → Wp (List γ)} {c1 : α → γ → Wp Bool} {f : α → γ → Wp β} (p : α → Bool) (us : α → List γ) (p1 : α → γ → Bool) (g : α → γ → β) (B : Nat) (xs : List α) (hb : xs.length * B ≤ 16777216) (h1 : ∀ x ∈ xs, Ens (c x) (fun v => v = p x)) (h2 : ∀ x ∈ xs, p x = true → Ens (w1 x) (fun v => v = us x)) (h3 : ∀ x ∈ xs, (us x).length ≤ B)
    (h4 : ∀ x ∈ xs, p x = true → ∀ y ∈ us x, Ens (c1 x y) (fun v => v = p1 x y)) (h5 : ∀ x ∈ xs, p x = true → ∀ y ∈ us x, p1 x y = true → Ens (f x y) (fun v => v = g x y)) :
    Ens (lc2G c w1 c1 f xs) (fun v => v = (xs.filter p).flatMap fun x => ((us x).filter (p1 x)).map (g x)) := en_noX (en_lc2W xs 0 (by omega) h1 h2 h3 h4 h5)
end
section
variable {α S F : Type}
/-- while, its end by a break too -/
theorem en_whileT {c : S → Wp Bool} {body : S → (S → Wp F) → (S → Wp F) → Wp F} {exit : S → Wp F} {Q : F → Prop} (I J : S → Prop) (b : S → Bool) (μ : S → Nat) {s : S} (h0 : I s) (hc : ∀ s, I s → Ens (c s) (fun v => v = b s))
    (hb : ∀ s k kx, I s → b s = true → (∀ s', I s' → μ s' < μ s → Ens (k s') Q) → (∀ s', J s' → Ens (kx s') Q) → Ens (body s k kx) Q) (hj : ∀ s, I s → b s = false → J s) (hx : ∀ s, J s → Ens (exit s) Q) : Ens (whileW c body exit s) Q :=
  en_while I b μ h0 hc (fun s k hI hb' hk => hb s k exit hI hb' hk hx) fun s hI hb' => hx s (hj s hI hb')
/-- for, its end by a break too -/
theorem en_forT {body : α → S → (S → Wp F) → (S → Wp F) → Wp F} {exit : S → Wp F} {Q : F → Prop} (I : List α → S → Prop) (J : S → Prop) (xs : List α) {s : S} (h0 : I [] s)
    (hb : ∀ pre x post s k kx, xs = pre ++ x :: post → I pre s → (∀ s', I (pre ++ [x]) s' → Ens (k s') Q) → (∀ s', J s' → Ens (kx s') Q) → Ens (body x s k kx) Q) (hj : ∀ s, I xs s → J s) (hx : ∀ s, J s → Ens (exit s) Q) : Ens (forK body exit xs s) Q :=
  en_for I xs h0 (fun pre x post s k e hI hk => hb pre x post s k exit e hI hk hx) fun s hI => hx s (hj s hI)
end
/-! ### lists, dicts -/
theorem nd_le : ∀ {a b : List Int}, a.Nodup → (∀ x ∈ a, x ∈ b) → a.length ≤ b.length
  | [], _, _, _ => Nat.zero_le _
  | x :: a, b, hn, h => by
    rw [List.nodup_cons] at hn
    have hx := h x List.mem_cons_self
    have ih := nd_le (b := b.erase x) hn.2 fun z hz => (List.mem_erase_of_ne (fun e => hn.1 (by rw [← e]; exact hz))).mpr (h z (List.mem_cons_of_mem _ hz))
    rw [List.length_erase_of_mem hx] at ih
    have := List.length_pos_iff.mpr (List.ne_nil_of_mem hx)
    rw [List.length_cons]
    omega
section
variable {α : Type}
theorem valI_mem {k : Int} : ∀ {s : List (Int × α)}, (valI s k).isSome = true ↔ k ∈ s.map (·.1)
  | [] => by simp [valI]
  | p :: s => by
    have ih := valI_mem (k := k) (s := s)
    unfold valI at ih ⊢
    rw [List.find?_cons]
    by_cases h : p.1 = k
    · rw [decide_eq_true h]
      simp [h]
    · rw [decide_eq_false h]
      show ((s.find? _).map _).isSome = true ↔ _
      rw [ih, List.map_cons, List.mem_cons]
      exact ⟨.inr, fun z => z.resolve_left fun e => h e.symm⟩
theorem valI_app {s : List (Int × α)} {k j : Int} {v : α} (h : valI s k = none) : valI (s ++ [(k, v)]) j = if k = j then some v else valI s j := by
  unfold valI
  rw [List.find?_append]
  by_cases e : k = j
  · subst e
    have h' : s.find? (fun p => decide (p.1 = k)) = none := by
      unfold valI at h
      cases z : s.find? (fun p => decide (p.1 = k)) with
      | none => rfl
      | some p => rw [z] at h; cases h
    rw [h', if_pos rfl]
    simp
  · rw [if_neg e]
    have : ([(k, v)].find? fun p => decide (p.1 = j)) = none := by simp [e]
    rw [this, Option.or_none]
theorem putI_new {s : List (Int × α)} {k : Int} {v : α} (h : valI s k = none) : putI s k v = s ++ [(k, v)] := by
  unfold putI
  rw [if_neg]
  intro ha
  rw [List.any_eq_true] at ha
  obtain ⟨p, hp, e⟩ := ha
  have : (valI s k).isSome = true := valI_mem.mpr (List.mem_map.mpr ⟨p, hp, of_decide_eq_true e⟩)
  rw [h] at this
  cases this
theorem getD_lt' {l : List α} {i : Nat} {z : α} (h : i < l.length) : l.getD i z = l[i] := by
  rw [List.getD_eq_getElem?_getD, List.getElem?_eq_getElem h]
  rfl
theorem getD_set' {l : List α} {i j : Nat} {x z : α} (h : i < l.length) : (l.set i x).getD j z = if i = j then x else l.getD j z := by
  rw [List.getD_eq_getElem?_getD, List.getD_eq_getElem?_getD, List.getElem?_set]
  by_cases e : i = j
  · subst e
    rw [if_pos rfl, if_pos h, if_pos rfl]
    rfl
  · rw [if_neg e, if_neg e]
theorem at_getD {xs : List α} {i : Int} (z : α) (h0 : 0 ≤ i) (h1 : i < xs.length) : atI xs i = some (xs.getD i.toNat z) := by
  have hi : i.toNat < xs.length := by omega
  have := atI_nat (xs := xs) (j := i.toNat) (v := xs.getD i.toNat z) (by rw [List.getD_eq_getElem?_getD, List.getElem?_eq_getElem hi]; rfl)
  rwa [show ((i.toNat : Nat) : Int) = i by omega] at this
theorem at_zero (a : α) (l : List α) : atI (a :: l) 0 = some a := atI_nat (j := 0) rfl
theorem at_last {xs : List α} (x : α) : atI (xs ++ [x]) (-1) = some x := by
  unfold atI ixN
  rw [if_neg (by omega), if_pos (by rw [List.length_append, List.length_singleton]; omega)]
  have : (-1 + ((xs ++ [x]).length : Int)).toNat = xs.length := by rw [List.length_append, List.length_singleton]; omega
  show (xs ++ [x])[_]? = _
  rw [this]
  simp
theorem enum_len (xs : List α) : (enumI xs).length = xs.length := by
  unfold enumI
  rw [List.length_zip, span_length, Nat.min_self]
theorem nd_of_take {v : List Int} (h : ∀ (i : Nat) x, v[i]? = some x → x ∉ v.take i) : v.Nodup := by
  refine List.pairwise_iff_getElem.mpr fun i j hi hj hij e => ?_
  refine h j _ (List.getElem?_eq_getElem hj) ?_
  rw [← e]
  exact List.mem_iff_getElem.mpr ⟨i, by rw [List.length_take]; omega, by rw [List.getElem_take]⟩
theorem span_get {lo : Int} {n i : Nat} (h : i < n) : (span lo n)[i]? = some (lo + i) := by
  unfold span
  rw [List.getElem?_map, List.getElem?_range h]
  rfl
theorem enum_get {xs : List α} {i : Nat} (h : i < xs.length) : (enumI xs)[i]? = some ((i : Int), xs[i]) := by
  unfold enumI
  rw [List.getElem?_zip_eq_some]
  exact ⟨by rw [span_get h]; simp, List.getElem?_eq_getElem h⟩
end
end WL
/-! for i in range(n), by the number of turns. -/
namespace Cf
open PySem WL L2
/-- for i in range(n) -/
theorem en_forNat {S F : Type} {body : Int → S → (S → Wp F) → (S → Wp F) → Wp F} {exit : S → Wp F} {Q : F → Prop} {n : Nat} (I : Nat → S → Prop) {s : S} (h0 : I 0 s)
    (hb : ∀ i s k kx, i < n → I i s → (∀ s', I (i + 1) s' → Ens (k s') Q) → Ens (body (i : Int) s k kx) Q) (hx : ∀ s, I n s → Ens (exit s) Q) : Ens (forK body exit (span 0 n) s) Q := by
  refine en_forT (fun pre s => I pre.length s) (I n) (span 0 n) h0 (fun pre x post s k kx e hI hk _ => ?_) (fun s h => by rwa [span_length] at h) hx
  have hp : pre.length < n := by
    have := congrArg List.length e
    rw [span_length, List.length_append, List.length_cons] at this
    omega
  have hx : x = (pre.length : Int) := by
    have h1 := span_get (lo := 0) hp
    rw [show span 0 n = pre ++ x :: post from e, List.getElem?_append_right (Nat.le_refl _), Nat.sub_self] at h1
    have h1 : some x = some (0 + (pre.length : Int)) := h1
    have := Option.some.inj h1
    omega
  subst hx
  exact hb _ s k kx hp hI fun s' h => hk s' (by rw [List.length_append, List.length_singleton]; exact h)
end Cf
/-! the least of pairs of ints -/
namespace Cf
open PySem WL L2
theorem le_rowP : PySem.W.dataLe false (eT eI) = fun p q : List Int => decide (p ≤ q) := PySem.W.dataLe_rows (fun x : List Int => x)
theorem lt_rowP (p q : List Int) : PySem.W.dataLt (eT eI q) (eT eI p) = !decide (p ≤ q) := by
  have := congrFun (congrFun le_rowP p) q
  have h2 : (!PySem.W.dataLt (eT eI q) (eT eI p)) = decide (p ≤ q) := this
  rw [← h2, Bool.not_not]
theorem le_fst {a b c d : Int} (h : [a, b] ≤ [c, d]) : a ≤ c := by
  rcases List.cons_le_cons_iff.mp h with h | h <;> omega
theorem nle_fst {a b c d : Int} (h : ¬ [a, b] ≤ [c, d]) : c ≤ a := by
  rcases Int.lt_or_le a c with q | q
  · exact absurd (List.cons_le_cons_iff.mpr (.inl q)) h
  · exact q
theorem min_pair : ∀ (xs : List (Int × Int)) (x : Int × Int), xs.foldl (fun a y => if PySem.W.dataLt (e2 eI eI y) (e2 eI eI a) then y else a) x ∈ x :: xs ∧ ∀ y ∈ x :: xs, (xs.foldl (fun a y => if PySem.W.dataLt (e2 eI eI y) (e2 eI eI a) then y else a) x).1 ≤ y.1
  | [], x => ⟨List.mem_cons_self, fun y hy => by rw [List.mem_singleton.mp hy]; exact Int.le_refl _⟩
  | z :: xs, x => by
    have e : PySem.W.dataLt (e2 eI eI z) (e2 eI eI x) = !decide ([x.1, x.2] ≤ [z.1, z.2]) := lt_rowP [x.1, x.2] [z.1, z.2]
    rw [List.foldl_cons, e]
    by_cases h : [x.1, x.2] ≤ [z.1, z.2]
    · obtain ⟨h1, h2⟩ := min_pair xs x
      simp only [h, decide_true, Bool.not_true, Bool.false_eq_true, if_false]
      refine ⟨?_, fun y hy => ?_⟩
      · rcases List.mem_cons.mp h1 with e | e
        · rw [e]; exact List.mem_cons_self
        · exact List.mem_cons_of_mem _ (List.mem_cons_of_mem _ e)
      · rcases List.mem_cons.mp hy with rfl | hy
        · exact h2 y List.mem_cons_self
        · rcases List.mem_cons.mp hy with rfl | hy
          · exact Int.le_trans (h2 x List.mem_cons_self) (le_fst h)
          · exact h2 y (List.mem_cons_of_mem _ hy)
    · obtain ⟨h1, h2⟩ := min_pair xs z
      simp only [h, decide_false, Bool.not_false, if_true]
      refine ⟨List.mem_cons_of_mem _ h1, fun y hy => ?_⟩
      rcases List.mem_cons.mp hy with rfl | hy
      · exact Int.le_trans (h2 z List.mem_cons_self) (nle_fst h)
      · exact h2 y hy
theorem en_minP {xs : List (Int × Int)} (hne : xs ≠ []) : Ens (minW (e2 eI eI) xs) (fun v => v ∈ xs ∧ ∀ r ∈ xs, v.1 ≤ r.1) := by
  refine en_grd ⟨⟨fun a ha b hb => ?_, fun a ha => ?_⟩, ?_, fun x _ => (ee_2 ee_I ee_I).lay x⟩ ?_
  · obtain ⟨x, _, rfl⟩ := List.mem_map.mp ha
    obtain ⟨y, _, rfl⟩ := List.mem_map.mp hb
    simp [e2, eI, PySem.W.alike, PySem.W.alikeAll]
  · obtain ⟨x, _, rfl⟩ := List.mem_map.mp ha
    exact nofun
  · have := (ee_all (ee_2 ee_I ee_I) xs).2
    omega
  · cases xs with
    | nil => exact absurd rfl hne
    | cons x xs => exact en_opt rfl (min_pair xs x)
end Cf
/-! Helpers: pairs in Python's order; loops that say no. -/
namespace Cf
open PySem WL L2
theorem uniq_rel {α : Type} {r : α → α → Prop} (irr : ∀ a, ¬ r a a) (tr : ∀ a b c, r a b → r b c → r a c) : ∀ {l m : List α}, l.Pairwise r → m.Pairwise r → (∀ x, x ∈ l ↔ x ∈ m) → l = m
  | [], [], _, _, _ => rfl
  | [], b :: m, _, _, h => by have := (h b).mpr (by simp); cases this
  | a :: l, [], _, _, h => by have := (h a).mp (by simp); cases this
  | a :: l, b :: m, h1, h2, h => by
    obtain ⟨p1, q1⟩ := List.pairwise_cons.mp h1
    obtain ⟨p2, q2⟩ := List.pairwise_cons.mp h2
    have e : a = b := by
      rcases List.mem_cons.mp ((h a).mp (by simp)) with z | z
      · exact z
      · rcases List.mem_cons.mp ((h b).mpr (by simp)) with z' | z'
        · exact z'.symm
        · exact absurd (tr _ _ _ (p1 b z') (p2 a z)) (irr a)
    subst e
    rw [uniq_rel irr tr q1 q2 fun x => ⟨fun hx => ?_, fun hx => ?_⟩]
    · rcases List.mem_cons.mp ((h x).mp (List.mem_cons_of_mem _ hx)) with z | z
      · rw [z] at hx; exact absurd (p1 a hx) (irr a)
      · exact z
    · rcases List.mem_cons.mp ((h x).mpr (List.mem_cons_of_mem _ hx)) with z | z
      · rw [z] at hx; exact absurd (p2 a hx) (irr a)
      · exact z
instance dec_le2 (p q : Int × Int) : Decidable (le2 p q) := inferInstanceAs (Decidable (p.1 < q.1 ∨ (p.1 = q.1 ∧ p.2 < q.2)))
theorem le2_irr (a : Int × Int) : ¬ le2 a a := fun h => by rcases h with h | h <;> omega
theorem le2_tr (a b c : Int × Int) (h1 : le2 a b) (h2 : le2 b c) : le2 a c := by
  unfold le2 at *
  omega
theorem le_pair2 (p q : Int × Int) : PySem.W.dataLe false (e2 eI eI) p q = decide (p.1 < q.1 ∨ (p.1 = q.1 ∧ p.2 ≤ q.2)) := by
  have h : PySem.W.dataLe false (e2 eI eI) p q = decide ([p.1, p.2] ≤ [q.1, q.2]) := congrFun (congrFun le_rowP [p.1, p.2]) [q.1, q.2]
  rw [h]
  refine decide_eq_decide.mpr ?_
  rw [List.cons_le_cons_iff, List.cons_le_cons_iff]
  constructor
  · rintro (z | ⟨z, z' | z'⟩)
    · exact .inl z
    · exact .inr ⟨z, by omega⟩
    · exact .inr ⟨z, by omega⟩
  · rintro (z | ⟨z, z'⟩)
    · exact .inl z
    · rcases Int.lt_or_eq_of_le z' with y | y
      · exact .inr ⟨z, .inl y⟩
      · exact .inr ⟨z, .inr ⟨y, Std.le_refl _⟩⟩
theorem lt_pair2 (p q : Int × Int) : PySem.W.dataLt (e2 eI eI p) (e2 eI eI q) = decide (le2 p q) := by
  have h : PySem.W.dataLe false (e2 eI eI) q p = !PySem.W.dataLt (e2 eI eI p) (e2 eI eI q) := rfl
  rw [le_pair2] at h
  have h2 : PySem.W.dataLt (e2 eI eI p) (e2 eI eI q) = !decide (q.1 < p.1 ∨ (q.1 = p.1 ∧ q.2 ≤ p.2)) := by rw [h, Bool.not_not]
  rw [h2, ← decide_not]
  refine decide_eq_decide.mpr ?_
  unfold le2
  omega
theorem en_ltP2 (p q : Int × Int) : Ens (ltW (e2 eI eI p) (e2 eI eI q)) (fun v => v = decide (le2 p q)) := by
  refine en_grd ⟨?_, fun h => (by cases h), ?_⟩ (en_ret (lt_pair2 p q))
  · simp [e2, eI, PySem.W.alike, PySem.W.alikeAll]
  · simp [e2, eI, PyData.depth, PyData.depthAll]
theorem adj_step {α : Type} {r : α → α → Prop} (tr : ∀ a b c, r a b → r b c → r a c) {xs : List α} (h : ∀ i (hi : i + 1 < xs.length), r xs[i] xs[i + 1]) : ∀ (k i : Nat) (hi : i + k + 1 < xs.length), r xs[i] xs[i + k + 1]
  | 0, i, hi => h i hi
  | k + 1, i, hi => by
    have h1 := adj_step tr h k i (by omega)
    have h2 := h (i + k + 1) (by omega)
    have e : xs[i + (k + 1) + 1] = xs[i + k + 1 + 1] := rfl
    rw [e]
    exact tr _ _ _ h1 h2
theorem adj_iff {α : Type} {r : α → α → Prop} [DecidableRel r] (tr : ∀ a b c, r a b → r b c → r a c) (z : α) (xs : List α) : (span 0 (xs.length - 1)).all (fun k => decide (r (xs.getD k.toNat z) (xs.getD (k + 1).toNat z))) = decide (xs.Pairwise r) := by
  rw [Bool.eq_iff_iff, List.all_eq_true, decide_eq_true_iff, List.pairwise_iff_getElem]
  constructor
  · intro h i j hi hj hij
    have st : ∀ i (hi : i + 1 < xs.length), r xs[i] xs[i + 1] := fun i hi => by
      have := of_decide_eq_true (h (i : Int) (mem_span.mpr (by omega)))
      rw [show ((i : Int)).toNat = i from rfl, show ((i : Int) + 1).toNat = i + 1 by omega, getD_lt' (by omega), getD_lt' hi] at this
      exact this
    obtain ⟨k, rfl⟩ : ∃ k, j = i + k + 1 := ⟨j - i - 1, by omega⟩
    exact adj_step tr st k i hj
  · intro h k hk
    obtain ⟨k0, k1⟩ := mem_span.mp hk
    obtain ⟨i, rfl⟩ := Int.eq_ofNat_of_zero_le k0
    refine decide_eq_true ?_
    have hi : i + 1 < xs.length := by omega
    rw [show ((i : Int)).toNat = i from rfl, show ((i : Int) + 1).toNat = i + 1 by omega, getD_lt' (by omega), getD_lt' hi]
    exact h i (i + 1) (by omega) hi (by omega)
/-- data that can be laid, of few levels -/
def Lay (k : Nat) (d : PyData) : Prop := d.canLay0 = true ∧ d.depth ≤ k
theorem lay_all {k : Nat} : ∀ {ds : List PyData}, (∀ d ∈ ds, Lay k d) → PyData.canLayAll0 ds = true ∧ PyData.depthAll ds ≤ k
  | [], _ => by simp [PyData.canLayAll0, PyData.depthAll]
  | d :: ds, h => by
    obtain ⟨i1, i2⟩ := lay_all fun e he => h e (List.mem_cons_of_mem _ he)
    obtain ⟨h1, h2⟩ := h d List.mem_cons_self
    constructor
    · simp [PyData.canLayAll0, i1, h1]
    · simp only [PyData.depthAll]
      omega
theorem lay_tup {k : Nat} {ds : List PyData} (h : ∀ d ∈ ds, Lay k d) : Lay (k + 1) (.tuple ds) := by
  obtain ⟨h1, h2⟩ := lay_all h
  constructor
  · simp [PyData.canLay0, h1]
  · simp only [PyData.depth]
    omega
theorem Lay.sh {k : Nat} {d : PyData} (h : Lay k d) (hk : k ≤ 64) : SeqAt.shaped d = true := by
  show (d.canLay0 && decide (d.depth ≤ 64)) = true
  rw [h.1, decide_eq_true (by have := h.2; omega)]
  rfl
theorem Lay.up {k j : Nat} {d : PyData} (h : Lay k d) (hj : k ≤ j) : Lay j d := ⟨h.1, Nat.le_trans h.2 hj⟩
theorem EE.layd {α : Type} [DecidableEq α] {e : α → PyData} {k : Nat} (h : EE e k) (x : α) : Lay k (e x) := ⟨h.lay x, h.dep x⟩
theorem lay_none (k : Nat) : Lay k .none := ⟨by simp [PyData.canLay0], by simp [PyData.depth]⟩
theorem lay_int (k : Nat) (x : Int) : Lay k (.int x) := ⟨by simp [PyData.canLay0], by simp [PyData.depth]⟩
theorem lay_bool (k : Nat) (x : Bool) : Lay k (.bool x) := ⟨by simp [PyData.canLay0], by simp [PyData.depth]⟩
/-- a loop that says no at the first item that is not right -/
theorem en_allF {α : Type} {body : α → Unit → (Unit → Wp Bool) → (Unit → Wp Bool) → Wp Bool} {exit : Unit → Wp Bool} (p : α → Bool) (r : Bool) (xs : List α)
    (hb : ∀ x ∈ xs, ∀ (k : Unit → Wp Bool) (R : Bool → Prop), (p x = true → Ens (k ()) R) → (p x = false → R false) → Ens (body x () k exit) R) (hx : xs.all p = true → Ens (exit ()) (fun b => b = r)) :
    Ens (forK body exit xs ()) (fun b => b = (xs.all p && r)) := by
  refine en_for (fun pre _ => pre.all p = true) xs rfl (fun pre x post s k e hp hk => ?_) (fun s h => ?_)
  · refine hb x (by rw [e]; simp) k _ (fun hx => hk _ ?_) (fun hx => ?_)
    · rw [List.all_append, hp, List.all_cons, hx]
      rfl
    · rw [e, List.all_append, List.all_cons, hx]
      simp
  · rw [h, Bool.true_and]
    exact hx h
theorem en_allT {α : Type} {T : α → Wp Bool} {exit : Unit → Wp Bool} (p : α → Bool) (r : Bool) (xs : List α) (hb : ∀ x ∈ xs, Ens (T x) (fun b => b = !p x)) (hx : xs.all p = true → Ens (exit ()) (fun b => b = r)) :
    Ens (forK (fun x (_ : Unit) kc _ => bnd (T x) fun b => sel b (ret false) (kc ())) exit xs ()) (fun b => b = (xs.all p && r)) :=
  en_allF p r xs (fun x hx k R h1 h2 => en_bndE (hb x hx) (en_sel (fun z => en_ret (h2 (by simpa using z))) (fun z => h1 (by simpa using z)))) hx
end Cf
/-! k20: sorted lists of links; loops over pairs. -/
namespace Cf
open PySem WL L2
theorem bnd_go {α β : Type} {m : Wp α} {k : α → Wp β} {a : α} {P : β → Prop} {X : Xn → Prop} (h : Ens m (fun v => v = a)) (h2 : k a P X) : bnd m k P X := h _ X fun b e => e ▸ h2
theorem bnd_goR {α β : Type} {m : Wp α} {k : α → Wp β} {R : α → Prop} {P : β → Prop} {X : Xn → Prop} (h : Ens m R) (h2 : ∀ a, R a → k a P X) : bnd m k P X := h _ X fun b e => h2 b e
theorem en_sel1 {α : Type} {b : Bool} {m k : Wp α} {Q : α → Prop} (hb : b = true) (h : Ens m Q) : Ens (sel b m k) Q := by subst hb; exact h
theorem en_sel0 {α : Type} {b : Bool} {m k : Wp α} {Q : α → Prop} (hb : b = false) (h : Ens k Q) : Ens (sel b m k) Q := by subst hb; exact h
theorem en_rg (a l m : Int) : Ens (sel (decide (l ≤ a)) (ret (decide (a ≤ m))) (ret false)) (fun b => b = decide (l ≤ a ∧ a ≤ m)) := by
  refine en_sel (fun q => en_ret ?_) fun q => en_ret ?_
  · have := of_decide_eq_true q
    exact decide_eq_decide.mpr ⟨fun h => ⟨this, h⟩, fun h => h.2⟩
  · have := of_decide_eq_false q
    exact (decide_eq_false fun h => this h.1).symm
theorem en_isnum (a l m : Int) : Ens (noX (p_is_numberI a l m)) (fun b => b = decide (l ≤ a ∧ a ≤ m)) := en_noX (en_rg a l m)
/-! ### lists of links -/
structure LiS (M : List (Int × Int)) (R : Int → Int → Prop) : Prop where
  nd : M.Nodup
  mem : ∀ a b, (a, b) ∈ M ↔ R a b
  len : M.length ≤ 10000
structure Srt (R : Int → Int → Prop) (D : List (Int × Int)) : Prop where
  asc : D.Pairwise le2
  mem : ∀ a b, (a, b) ∈ D ↔ R a b
theorem Srt.uniq {R : Int → Int → Prop} {D D' : List (Int × Int)} (h : Srt R D) (h' : Srt R D') : D = D' := uniq_rel le2_irr le2_tr h.asc h'.asc fun x => by rw [h.mem x.1 x.2, h'.mem x.1 x.2]
theorem asc_nd {D : List (Int × Int)} (h : D.Pairwise le2) : D.Nodup := h.imp fun {a b} h (e : a = b) => le2_irr a (by rw [← e] at h; exact h)
theorem en_sortP {l : List (Int × Int)} (hl : l.length ≤ 16777216) (nd : l.Nodup) : Ens (sortW (e2 eI eI) l) (fun v => v.Perm l ∧ v.Pairwise le2) := by
  have hp : (l.mergeSort (PySem.W.dataLe false (e2 eI eI))).Perm l := List.mergeSort_perm _ _
  refine en_grd ⟨fun a ha b hb => ?_, .inl fun a ha => ?_, hl, fun x _ => ?_⟩ (en_ret ⟨hp, ?_⟩)
  · obtain ⟨x, _, rfl⟩ := List.mem_map.mp ha
    obtain ⟨y, _, rfl⟩ := List.mem_map.mp hb
    simp [e2, eI, PySem.W.alike, PySem.W.alikeAll]
  · obtain ⟨x, hx, rfl⟩ := List.mem_map.mp ha
    exact ⟨_, _, rfl⟩
  · simp [e2, eI, PyData.depth, PyData.depthAll]
  · have hs := List.pairwise_mergeSort (le := PySem.W.dataLe false (e2 eI eI)) (fun a b c h1 h2 => by
      rw [le_pair2] at h1 h2 ⊢
      have h1 := of_decide_eq_true h1
      have h2 := of_decide_eq_true h2
      exact decide_eq_true (by omega)) (fun a b => by
      rw [le_pair2, le_pair2]
      by_cases h : a.1 < b.1 ∨ (a.1 = b.1 ∧ a.2 ≤ b.2)
      · rw [decide_eq_true h]; rfl
      · rw [decide_eq_false h, decide_eq_true (by omega)]; rfl) l
    have hn : (l.mergeSort (PySem.W.dataLe false (e2 eI eI))).Nodup := hp.nodup_iff.mpr nd
    refine (hs.and hn).imp fun {a b} h => ?_
    obtain ⟨h1, h2⟩ := h
    rw [le_pair2] at h1
    have h1 := of_decide_eq_true h1
    have h2 : ¬ (a.1 = b.1 ∧ a.2 = b.2) := fun z => h2 (Prod.ext z.1 z.2)
    unfold le2
    omega
def ref2 : PyData := (e2 eS eB) (("refused" : Str), true)
def frD (n : Int) (D : List (Int × Int)) : PyData := (e2 eI (eT (e2 eI eI))) (n, D)
/-- what is due -/
def Due2 (ok : Prop) (n : Int) (R : Int → Int → Prop) (v : PyData) : Prop := (¬ ok ∧ v = ref2) ∨ (ok ∧ ∃ D, Srt R D ∧ v = if D.length ≤ 200 then frD n D else ref2)
theorem Due2.uniq {ok : Prop} {n : Int} {R : Int → Int → Prop} {v v' : PyData} (h : Due2 ok n R v) (h' : Due2 ok n R v') : v = v' := by
  rcases h with ⟨h1, h2⟩ | ⟨h1, D, h2, h3⟩ <;> rcases h' with ⟨g1, g2⟩ | ⟨g1, D', g2, g3⟩
  · rw [h2, g2]
  · exact absurd g1 h1
  · exact absurd h1 g1
  · rw [h3, g3, h2.uniq g2]
theorem frD_sh (n : Int) (D : List (Int × Int)) : SeqAt.shaped (frD n D) = true := (ee_2 (ee_I.up (by decide)) (ee_T (ee_2 ee_I ee_I)) : EE (e2 eI (eT (e2 eI eI))) 3).sh (by decide) (n, D)
theorem ref2_sh : SeqAt.shaped ref2 = true := by decide +kernel
theorem Due2.sh {ok : Prop} {n : Int} {R : Int → Int → Prop} {v : PyData} (h : Due2 ok n R v) : SeqAt.shaped v = true := by
  rcases h with ⟨h1, h2⟩ | ⟨h1, D, h2, h3⟩
  · rw [h2]; exact ref2_sh
  · rw [h3]
    split
    · exact frD_sh _ _
    · exact ref2_sh
theorem en_made2 {n : Int} {M : List (Int × Int)} {R : Int → Int → Prop} (n2 : 2 ≤ n) (n64 : n ≤ 64) (h : LiS M R) (hne : M ≠ []) (P : Int × List (Int × Int) → Prop) (X : Xn → Prop) (h1 : ∀ D, Srt R D → D.length ≤ 200 → P (n, D)) (h2 : ∀ D, Srt R D → ¬ D.length ≤ 200 → X (.plain 0)) : p_made n M P X := by
  have hl := h.len
  have hemp : M.isEmpty = false := by
    cases M with
    | nil => exact absurd rfl hne
    | cons _ _ => rfl
  have hD : ∀ D, D.Perm M ∧ D.Pairwise le2 → Srt R D := fun D hD => ⟨hD.2, fun a b => by rw [hD.1.mem_iff, h.mem]⟩
  have hsort := en_sortP (l := M) (by omega) h.nd
  unfold p_made
  refine bnd_go (a := decide ((400 : Int) < 2 * (M.length : Int))) (en_bndE (en_bndE (en_isnum _ _ _) (en_eq _)) ?_) ?_
  · rw [decide_eq_true (show (2 : Int) ≤ n ∧ n ≤ 64 from ⟨n2, n64⟩)]
    refine en_sel (fun h => by cases h) fun _ => ?_
    rw [hemp]
    exact en_sel (fun h => by cases h) fun _ => en_eq _
  · by_cases q : (400 : Int) < 2 * (M.length : Int)
    · rw [decide_eq_true q]
      have hp : (M.mergeSort (PySem.W.dataLe false (e2 eI eI))).Perm M := List.mergeSort_perm _ _
      have hq := hsort (fun v => v.Perm M ∧ v.Pairwise le2) (fun _ => False) fun _ h => h
      obtain ⟨_, hq⟩ := hq
      exact h2 _ (hD _ hq) (by rw [hp.length_eq]; omega)
    · rw [decide_eq_false q]
      refine bnd_goR hsort fun D hp => ?_
      exact h1 D (hD D hp) (by rw [hp.1.length_eq]; omega)
/-! ### loops over pairs -/
theorem en_forLo {S F : Type} {body : Int → S → (S → Wp F) → (S → Wp F) → Wp F} {exit : S → Wp F} {Q : F → Prop} {lo : Int} {n : Nat} (I : Nat → S → Prop) {s : S} (h0 : I 0 s)
    (hb : ∀ i s k kx, i < n → I i s → (∀ s', I (i + 1) s' → Ens (k s') Q) → Ens (body (lo + (i : Int)) s k kx) Q) (hx : ∀ s, I n s → Ens (exit s) Q) : Ens (forK body exit (span lo n) s) Q := by
  refine en_for (fun pre s => I pre.length s) (span lo n) h0 (fun pre x post s k e hI hk => ?_) (fun s h => hx s (by rwa [span_length] at h))
  have hp : pre.length < n := by
    have := congrArg List.length e
    rw [span_length, List.length_append, List.length_cons] at this
    omega
  rw [span_at e]
  exact hb _ s k _ hp hI fun s' h => hk s' (by rw [List.length_append, List.length_singleton]; exact h)
/-- what the pairs up to u, v leave -/
structure Dbl (may no : Int → Int → Prop) (N u v : Int) (s : List (Int × Int)) : Prop where
  asc : s.Pairwise le2
  rng : ∀ p ∈ s, 0 ≤ p.1 ∧ p.1 < p.2 ∧ p.2 < N ∧ (p.1 < u ∨ (p.1 = u ∧ p.2 < v)) ∧ may p.1 p.2
  out : ∀ a b, 0 ≤ a → a < b → b < N → (a < u ∨ (a = u ∧ b < v)) → (a, b) ∉ s → no a b
theorem en_dbl {F : Type} {may no : Int → Int → Prop} {N : Int} {m : Nat} (hm : N = m) (hm2 : m ≤ 100) {Rg : Int → Wp (List Int)} {B : Int → Int → List (Int × Int) → (List (Int × Int) → Wp F) → Wp F} {exit : List (Int × Int) → Wp F} {Q : F → Prop}
    (hR : ∀ u, 0 ≤ u → u < N → Ens (Rg u) (fun v => v = span (u + 1) (N - (u + 1)).toNat))
    (hB : ∀ u v s kc, 0 ≤ u → u < v → v < N → s.length ≤ 10000 → (may u v → Ens (kc (s ++ [(u, v)])) Q) → (no u v → Ens (kc s) Q) → Ens (B u v s kc) Q)
    (hx : ∀ D, D.length ≤ 10000 → Dbl may no N N 0 D → Ens (exit D) Q) :
    Ens (forK (fun u s kc _ => bnd (Rg u) fun l => forK (fun v s2 kc2 _ => B u v s2 kc2) (fun s2 => kc s2) l s) exit (span 0 m) []) Q := by
  subst hm
  refine en_forLo (fun i s => s.length ≤ i * 100 ∧ Dbl may no m i 0 s) ⟨Nat.zero_le _, List.Pairwise.nil, fun p hp => (by cases hp), fun a b h0 h1 h2 h3 => by omega⟩ (fun i s k _ hi hI hk => ?_) (fun s h => hx s (by have := h.1; have := Nat.mul_le_mul_right 100 hm2; omega) (h.2))
  obtain ⟨hl, d⟩ := hI
  rw [Int.zero_add]
  refine en_bndE (hR _ (by omega) (by omega)) ?_
  refine en_forLo (fun j s2 => s2.length ≤ i * 100 + j ∧ Dbl may no m i (i + 1 + j) s2) ⟨by omega, d.asc, fun p hp => ?_, fun a b h0 h1 h2 h3 h4 => d.out a b h0 h1 h2 (by omega) h4⟩ (fun j s2 k2 _ hj hJ hk2 => ?_) (fun s2 hJ => hk _ ⟨?_, ?_⟩)
  · obtain ⟨a1, a2, a3, a4, a5⟩ := d.rng p hp
    exact ⟨a1, a2, a3, by omega, a5⟩
  · obtain ⟨jl, dj⟩ := hJ
    have := Nat.mul_le_mul_right 100 hm2
    have hi100 : i * 100 + 100 ≤ 10000 := by
      have := Nat.mul_le_mul_right 100 (show i + 1 ≤ 100 by omega)
      omega
    refine hB _ _ s2 k2 (by omega) (by omega) (by omega) (by omega) (fun hmay => hk2 _ ⟨by rw [List.length_append, List.length_singleton]; omega, ?_, fun p hp => ?_, fun a b h0 h1 h2 h3 h4 => ?_⟩) (fun hno => hk2 _ ⟨by omega, dj.asc, fun p hp => ?_, fun a b h0 h1 h2 h3 h4 => ?_⟩)
    · rw [List.pairwise_append]
      refine ⟨dj.asc, List.pairwise_singleton _ _, fun p hp q hq => ?_⟩
      rw [List.mem_singleton.mp hq]
      obtain ⟨a1, a2, a3, a4, a5⟩ := dj.rng p hp
      show p.1 < (i : Int) ∨ (p.1 = (i : Int) ∧ p.2 < (i : Int) + 1 + (j : Int))
      omega
    · rcases List.mem_append.mp hp with z | z
      · obtain ⟨a1, a2, a3, a4, a5⟩ := dj.rng p z
        exact ⟨a1, a2, a3, by omega, a5⟩
      · rw [List.mem_singleton.mp z]
        exact ⟨by show (0 : Int) ≤ (i : Int); omega, by show (i : Int) < (i : Int) + 1 + j; omega, by show (i : Int) + 1 + j < (m : Int); omega, .inr ⟨rfl, by show (i : Int) + 1 + j < (i : Int) + 1 + ((j + 1 : Nat) : Int); omega⟩, hmay⟩
    · by_cases z : a = (i : Int) ∧ b = (i : Int) + 1 + j
      · exact absurd (List.mem_append.mpr (.inr (by rw [z.1, z.2]; exact List.mem_singleton.mpr rfl))) h4
      · exact dj.out a b h0 h1 h2 (by omega) fun w => h4 (List.mem_append.mpr (.inl w))
    · obtain ⟨a1, a2, a3, a4, a5⟩ := dj.rng p hp
      exact ⟨a1, a2, a3, by omega, a5⟩
    · by_cases z : a = (i : Int) ∧ b = (i : Int) + 1 + j
      · rw [z.1, z.2]; exact hno
      · exact dj.out a b h0 h1 h2 (by omega) h4
  · have := hJ.1
    have e : (i + 1) * 100 = i * 100 + 100 := by omega
    omega
  · obtain ⟨jl, dj⟩ := hJ
    refine ⟨dj.asc, fun p hp => ?_, fun a b h0 h1 h2 h3 h4 => dj.out a b h0 h1 h2 (by omega) h4⟩
    obtain ⟨a1, a2, a3, a4, a5⟩ := dj.rng p hp
    exact ⟨a1, a2, a3, by omega, a5⟩
theorem Dbl.srt {c : Int → Int → Prop} {N : Int} {D : List (Int × Int)} (d : Dbl c (fun a b => ¬ c a b) N N 0 D) : Srt (fun a b => 0 ≤ a ∧ a < b ∧ b < N ∧ c a b) D := ⟨d.asc, fun a b => ⟨fun h => by
    obtain ⟨a1, a2, a3, a4, a5⟩ := d.rng _ h
    exact ⟨a1, a2, a3, a5⟩, fun ⟨h0, h1, h2, h3⟩ => Classical.byContradiction fun w => d.out a b h0 h1 h2 (by omega) w h3⟩⟩
end Cf
/-! k20: lines, rings, complete ones, stars. -/
namespace Cf
open PySem WL L2
theorem sel_go1 {α : Type} {b : Bool} {m k : Wp α} {P : α → Prop} {X : Xn → Prop} (hb : b = true) (h : m P X) : sel b m k P X := by subst hb; exact h
theorem sel_go0 {α : Type} {b : Bool} {m k : Wp α} {P : α → Prop} {X : Xn → Prop} (hb : b = false) (h : k P X) : sel b m k P X := by subst hb; exact h
/-- what a def that makes frames does -/
def FrGo (m : Wp (Int × List (Int × Int))) (ok : Prop) (n : Int) (R : Int → Int → Prop) : Prop :=
  ∀ (P : Int × List (Int × Int) → Prop) (X : Xn → Prop), (∀ D, ok → Srt R D → D.length ≤ 200 → P (n, D)) → (¬ ok → X (.plain 0)) → (∀ D, ok → Srt R D → ¬ D.length ≤ 200 → X (.plain 0)) → m P X
theorem frgo_made {m : Wp (List (Int × Int))} {n : Int} {R : Int → Int → Prop} {ok : Prop} {M : List (Int × Int)} (hm : Ens m (fun v => v = M)) (n2 : 2 ≤ n) (n64 : n ≤ 64) (hok : ok) (h : LiS M R) (hne : M ≠ []) {P : Int × List (Int × Int) → Prop} {X : Xn → Prop} (h1 : ∀ D, ok → Srt R D → D.length ≤ 200 → P (n, D)) (h3 : ∀ D, ok → Srt R D → ¬ D.length ≤ 200 → X (.plain 0)) :
    bnd m (fun x => p_made n x) P X := bnd_go hm (en_made2 n2 n64 h hne P X (fun D hD hl => h1 D hok hD hl) fun D hD hl => h3 D hok hD hl)
def CW (w : Str) (n a b : Int) : Prop := w = ("complete" : Str) ∨ (w = ("star" : Str) ∧ a = 0) ∨ ((w = ("line" : Str) ∨ w = ("ring" : Str)) ∧ b = a + 1) ∨ (w = ("ring" : Str) ∧ a = 0 ∧ b = n - 1)
def RW (w : Str) (n a b : Int) : Prop := 0 ≤ a ∧ a < b ∧ b < n ∧ CW w n a b
def okW (w : Str) (n : Int) : Prop := (if w = ("ring" : Str) then 3 else 2) ≤ n ∧ n ≤ 64
theorem rw_line {n a b : Int} : RW ("line" : Str) n a b ↔ 0 ≤ a ∧ b = a + 1 ∧ b < n := by
  have h1 : ¬ ("line" : Str) = "complete" := by decide +kernel
  have h2 : ¬ ("line" : Str) = "star" := by decide +kernel
  have h3 : ¬ ("line" : Str) = "ring" := by decide +kernel
  unfold RW CW
  simp only [h1, h2, h3, false_or, or_false, true_and, false_and]
  omega
theorem rw_ring {n a b : Int} : RW ("ring" : Str) n a b ↔ 0 ≤ a ∧ a < b ∧ b < n ∧ (b = a + 1 ∨ (a = 0 ∧ b = n - 1)) := by
  have h1 : ¬ ("ring" : Str) = "complete" := by decide +kernel
  have h2 : ¬ ("ring" : Str) = "star" := by decide +kernel
  have h3 : ¬ ("ring" : Str) = "line" := by decide +kernel
  unfold RW CW
  simp only [h1, h2, h3, false_or, true_and, false_and]
theorem rw_comp {n a b : Int} : RW ("complete" : Str) n a b ↔ 0 ≤ a ∧ a < b ∧ b < n := by
  unfold RW CW
  simp
theorem rw_star {n a b : Int} : RW ("star" : Str) n a b ↔ a = 0 ∧ 0 < b ∧ b < n := by
  have h1 : ¬ ("star" : Str) = "complete" := by decide +kernel
  have h2 : ¬ ("star" : Str) = "ring" := by decide +kernel
  have h3 : ¬ ("star" : Str) = "line" := by decide +kernel
  unfold RW CW
  simp only [h1, h2, h3, false_or, or_false, true_and, false_and]
  omega
theorem okW2 {w : Str} (h : ¬ w = ("ring" : Str)) (n : Int) : okW w n ↔ (2 ≤ n ∧ n ≤ 64) := by
  unfold okW
  rw [if_neg h]
theorem okW3 (n : Int) : okW ("ring" : Str) n ↔ (3 ≤ n ∧ n ≤ 64) := by
  unfold okW
  rw [if_pos rfl]
theorem span_nd (lo : Int) (n : Nat) : (span lo n).Pairwise (· < ·) := by
  unfold span
  rw [List.pairwise_map]
  exact List.pairwise_lt_range.imp fun h => by omega
theorem lis_map {l : List Int} {f : Int → Int × Int} {R : Int → Int → Prop} (hl : l.length ≤ 10000) (hp : l.Pairwise (· < ·)) (hf : ∀ x y, x < y → le2 (f x) (f y)) (hm : ∀ a b, (a, b) ∈ l.map f ↔ R a b) : LiS (l.map f) R :=
  ⟨asc_nd (List.pairwise_map.mpr (hp.imp fun h => hf _ _ h)), hm, by rw [List.length_map]; exact hl⟩
theorem line_go (n : Int) : FrGo (p_line n) (okW ("line" : Str) n) n (RW ("line" : Str) n) := fun P X h1 h2 h3 => by
  unfold p_line
  have hok := okW2 (show ¬ ("line" : Str) = "ring" by decide +kernel) n
  refine bnd_go (a := !decide (2 ≤ n ∧ n ≤ 64)) (en_bndE (en_isnum _ _ _) (en_eq _)) ?_
  by_cases q : 2 ≤ n ∧ n ≤ 64
  · refine sel_go0 (by rw [decide_eq_true q]; rfl) ?_
    refine frgo_made (M := (span 0 (n - 1).toNat).map fun i => (i, i + 1)) (en_bndE (en_grd (rng_small (by omega) (by omega)) (en_eq _)) (en_lcM _ _ (by rw [span_length]; omega) fun c _ => en_eq _)) q.1 q.2 (hok.mpr q) (lis_map (by rw [span_length]; omega) (span_nd 0 _) (fun x y h => .inl h) fun a b => ?_) ?_ h1 h3
    · rw [rw_line, List.mem_map]
      constructor
      · rintro ⟨i, hi, e⟩
        have := mem_span.mp hi
        cases e
        omega
      · rintro ⟨e1, e2, e3⟩
        exact ⟨a, mem_span.mpr (by omega), by rw [e2]⟩
    · intro z
      have := congrArg List.length z
      rw [List.length_map, span_length, List.length_nil] at this
      omega
  · exact sel_go1 (by rw [decide_eq_false q]; rfl) (h2 fun z => q (hok.mp z))
theorem ring_go (n : Int) : FrGo (p_ring n) (okW ("ring" : Str) n) n (RW ("ring" : Str) n) := fun P X h1 h2 h3 => by
  unfold p_ring
  have hok := okW3 n
  refine bnd_go (a := !decide (3 ≤ n ∧ n ≤ 64)) (en_bndE (en_isnum _ _ _) (en_eq _)) ?_
  by_cases q : 3 ≤ n ∧ n ≤ 64
  · refine sel_go0 (by rw [decide_eq_true q]; rfl) ?_
    have li := lis_map (l := span 0 (n - 1).toNat) (f := fun i => (i, i + 1)) (R := fun a b => 0 ≤ a ∧ b = a + 1 ∧ b < n) (by rw [span_length]; omega) (span_nd 0 _) (fun x y h => .inl h) fun a b => by
      rw [List.mem_map]
      constructor
      · rintro ⟨i, hi, e⟩
        have := mem_span.mp hi
        cases e
        omega
      · rintro ⟨e1, e2, e3⟩
        exact ⟨a, mem_span.mpr (by omega), by rw [e2]⟩
    have hll : ((span 0 (n - 1).toNat).map fun i => (i, i + 1)).length = (n - 1).toNat := by rw [List.length_map, span_length]
    refine frgo_made (M := ((span 0 (n - 1).toNat).map fun i => (i, i + 1)) ++ [((0 : Int), n - 1)]) (en_bndE (en_bndE (en_grd (rng_small (by omega) (by omega)) (en_eq _)) (en_lcM _ _ (by rw [span_length]; omega) fun c _ => en_eq _)) (en_grd (by rw [hll, List.length_singleton]; omega) (en_eq _))) (by omega) q.2 (hok.mpr q) ⟨?_, fun a b => ?_, ?_⟩ (by simp) h1 h3
    · rw [List.nodup_append]
      refine ⟨li.nd, by simp, fun x hx y hy e => ?_⟩
      rw [List.mem_singleton.mp hy] at e
      have := (li.mem x.1 x.2).mp hx
      rw [e] at this
      have h : (0 : Int) ≤ 0 ∧ n - 1 = 0 + 1 ∧ n - 1 < n := this
      omega
    · rw [rw_ring, List.mem_append, li.mem, List.mem_singleton, Prod.mk.injEq]
      omega
    · rw [List.length_append, hll, List.length_singleton]
      omega
  · exact sel_go1 (by rw [decide_eq_false q]; rfl) (h2 fun z => q (hok.mp z))
theorem star_go (n : Int) : FrGo (p_star n) (okW ("star" : Str) n) n (RW ("star" : Str) n) := fun P X h1 h2 h3 => by
  unfold p_star
  have hok := okW2 (show ¬ ("star" : Str) = "ring" by decide +kernel) n
  refine bnd_go (a := !decide (2 ≤ n ∧ n ≤ 64)) (en_bndE (en_isnum _ _ _) (en_eq _)) ?_
  by_cases q : 2 ≤ n ∧ n ≤ 64
  · refine sel_go0 (by rw [decide_eq_true q]; rfl) ?_
    refine frgo_made (M := (span 1 (n - 1).toNat).map fun i => ((0 : Int), i)) (en_bndE (en_grd ⟨rng_small (by decide) (by decide), rng_small (by omega) (by omega)⟩ (en_eq _)) (en_lcM _ _ (by rw [span_length]; omega) fun c _ => en_eq _)) q.1 q.2 (hok.mpr q) (lis_map (by rw [span_length]; omega) (span_nd 1 _) (fun x y h => .inr ⟨rfl, h⟩) fun a b => ?_) ?_ h1 h3
    · rw [rw_star, List.mem_map]
      constructor
      · rintro ⟨i, hi, e⟩
        have := mem_span.mp hi
        cases e
        omega
      · rintro ⟨e1, e2, e3⟩
        exact ⟨b, mem_span.mpr (by omega), by rw [e1]⟩
    · intro z
      have := congrArg List.length z
      rw [List.length_map, span_length, List.length_nil] at this
      omega
  · exact sel_go1 (by rw [decide_eq_false q]; rfl) (h2 fun z => q (hok.mp z))
theorem comp_go (n : Int) : FrGo (p_complete n) (okW ("complete" : Str) n) n (RW ("complete" : Str) n) := fun P X h1 h2 h3 => by
  unfold p_complete
  have hok := okW2 (show ¬ ("complete" : Str) = "ring" by decide +kernel) n
  refine bnd_go (a := !decide (2 ≤ n ∧ n ≤ 64)) (en_bndE (en_isnum _ _ _) (en_eq _)) ?_
  by_cases q : 2 ≤ n ∧ n ≤ 64
  · refine sel_go0 (by rw [decide_eq_true q]; rfl) ?_
    have hsl : ∀ c ∈ span 0 n.toNat, (span (c + 1) (n - (c + 1)).toNat).length ≤ 64 := fun c hc => by
      have := mem_span.mp hc
      rw [span_length]
      omega
    have key := en_lc2 (c := fun _ : Int => ret true) (w1 := fun c3 : Int => (grd (Rng (c3 + (1 : Int)) ∧ Rng n) (ret (span (c3 + (1 : Int)) (n - (c3 + (1 : Int))).toNat)))) (c1 := fun _ _ : Int => ret true) (f := fun c3 c4 : Int => ret (c3, c4)) (fun _ => true) (fun c => span (c + 1) (n - (c + 1)).toNat) (fun _ _ => true) (fun a b => (a, b)) 64 (span 0 n.toNat) (by rw [span_length]; omega) (fun x _ => en_eq _) (fun x hx _ => by
      have := mem_span.mp hx
      exact en_grd ⟨rng_small (by omega) (by omega), rng_small (by omega) (by omega)⟩ (en_eq _)) hsl (fun x _ _ y _ => en_eq _) (fun x _ _ y _ _ => en_eq _)
    rw [ft] at key
    have key2 : ((span 0 n.toNat).flatMap fun x => ((span (x + 1) (n - (x + 1)).toNat).filter fun _ => true).map fun b => (x, b)) = (span 0 n.toNat).flatMap fun x => (span (x + 1) (n - (x + 1)).toNat).map fun b => (x, b) := by
      congr 1
      funext x
      rw [ft]
    rw [key2] at key
    have hmem : ∀ a b, (a, b) ∈ ((span 0 n.toNat).flatMap fun x => (span (x + 1) (n - (x + 1)).toNat).map fun b => (x, b)) ↔ RW ("complete" : Str) n a b := fun a b => by
      rw [rw_comp, List.mem_flatMap]
      constructor
      · rintro ⟨u, hu, h⟩
        obtain ⟨v, hv, e⟩ := List.mem_map.mp h
        have := mem_span.mp hu
        have := mem_span.mp hv
        cases e
        omega
      · rintro ⟨e1, e2, e3⟩
        exact ⟨a, mem_span.mpr (by omega), List.mem_map.mpr ⟨b, mem_span.mpr (by omega), rfl⟩⟩
    refine frgo_made (en_bndE (en_grd (rng_small (by omega) (by omega)) (en_eq _)) key) q.1 q.2 (hok.mpr q) ⟨asc_nd ?_, hmem, ?_⟩ (fun z => ?_) h1 h3
    · rw [List.pairwise_flatMap]
      refine ⟨fun u _ => List.pairwise_map.mpr ((span_nd _ _).imp fun h => .inr ⟨rfl, h⟩), (span_nd 0 _).imp fun {u v} huv x hx y hy => ?_⟩
      obtain ⟨_, _, rfl⟩ := List.mem_map.mp hx
      obtain ⟨_, _, rfl⟩ := List.mem_map.mp hy
      exact .inl huv
    · have h := fm_bound (f := fun x => (span (x + 1) (n - (x + 1)).toNat).map fun b => (x, b)) (B := 64) (span 0 n.toNat) fun x hx => by rw [List.length_map]; exact hsl x hx
      rw [span_length] at h
      omega
    · have := (hmem 0 1).mpr (rw_comp.mpr ⟨by omega, by omega, by omega⟩)
      rw [z] at this
      cases this
  · exact sel_go1 (by rw [decide_eq_false q]; rfl) (h2 fun z => q (hok.mp z))
/-! ### what the law is told -/
theorem told_go {m : Wp (Int × List (Int × Int))} {ok : Prop} {n : Int} {R : Int → Int → Prop} (h : FrGo m ok n R) {P : PyData → Prop} {X : Xn → Prop} (hp : ∀ v, Due2 ok n R v → P v) (hX : P ref2 → X (.plain 0)) : bnd m (fun y => ret ((e2 eI (eT (e2 eI eI))) y)) P X :=
  h (fun y => P ((e2 eI (eT (e2 eI eI))) y)) X (fun D ho hD hl => hp _ (.inr ⟨ho, D, hD, by rw [if_pos hl]; rfl⟩)) (fun ho => hX (hp _ (.inl ⟨ho, rfl⟩))) (fun D ho hD hl => hX (hp _ (.inr ⟨ho, D, hD, by rw [if_neg hl]⟩)))
def simple (w : Str) : Prop := w = ("line" : Str) ∨ w = ("ring" : Str) ∨ w = ("complete" : Str) ∨ w = ("star" : Str)
theorem en_told4 {w : Str} (hw : simple w) (n s : Int) : Ens (noX (l_told w (eI n) s)) (Due2 (okW w n) n (RW w n)) := by
  refine en_noX fun P X hp => ?_
  unfold l_told
  rcases hw with rfl | rfl | rfl | rfl
  · exact bnd_go (en_eq _) (sel_go1 (by decide +kernel) (told_go (m := bnd (opt (asI (eI n))) fun x => p_line x) (fun P X a b c => bnd_go (en_optE (a := n) rfl) (line_go n P X a b c)) hp id))
  · exact bnd_go (en_eq _) (sel_go0 (by decide +kernel) (bnd_go (en_eq _) (sel_go1 (by decide +kernel) (told_go (m := bnd (opt (asI (eI n))) fun x => p_ring x) (fun P X a b c => bnd_go (en_optE (a := n) rfl) (ring_go n P X a b c)) hp id))))
  · exact bnd_go (en_eq _) (sel_go0 (by decide +kernel) (bnd_go (en_eq _) (sel_go0 (by decide +kernel) (bnd_go (en_eq _) (sel_go1 (by decide +kernel) (told_go (m := bnd (opt (asI (eI n))) fun x => p_complete x) (fun P X a b c => bnd_go (en_optE (a := n) rfl) (comp_go n P X a b c)) hp id))))))
  · exact bnd_go (en_eq _) (sel_go0 (by decide +kernel) (bnd_go (en_eq _) (sel_go0 (by decide +kernel) (bnd_go (en_eq _) (sel_go0 (by decide +kernel) (bnd_go (en_eq _) (sel_go1 (by decide +kernel) (told_go (m := bnd (opt (asI (eI n))) fun x => p_star x) (fun P X a b c => bnd_go (en_optE (a := n) rfl) (star_go n P X a b c)) hp id))))))))
end Cf
/-! k20: what is due; trees. -/
namespace Cf
open PySem WL L2
instance (w : Str) (n a b : Int) : Decidable (CW w n a b) := by unfold CW; infer_instance
instance (w : Str) (n : Int) : Decidable (okW w n) := by unfold okW; infer_instance
theorem en_or {b v : Bool} {m : Wp Bool} (h : Ens m (fun x => x = v)) : Ens (sel b (ret true) m) (fun x => x = (b || v)) := by
  cases b
  · exact h
  · exact en_eq _
theorem en_and {b v : Bool} {m : Wp Bool} (h : Ens m (fun x => x = v)) : Ens (sel b m (ret false)) (fun x => x = (b && v)) := by
  cases b
  · exact en_eq _
  · exact h
theorem str_sh {a : Str} (h : PyData.strOk a = true) : SeqAt.shaped (.str a) = true := by
  show ((PyData.str a).canLay0 && decide ((PyData.str a).depth ≤ 64)) = true
  simp [PyData.canLay0, PyData.depth, h]
theorem en_inS2 {w : Str} {ws : List Str} (hw : PyData.strOk w = true) (hs : SeqAt.shaped (.tuple (ws.map eS)) = true) : Ens (inD (eS w) (ws.map eS)) (fun v => v = ws.any fun z => decide (z = w)) := by
  refine en_grd ⟨str_sh hw, hs⟩ (en_ret ?_)
  rw [List.any_map]
  congr 1
theorem simple_ok {w : Str} (hw : simple w) : PyData.strOk w = true ∧ decide (w = ("tree" : Str)) = false ∧ decide (w = ("groups" : Str)) = false := by
  rcases hw with rfl | rfl | rfl | rfl <;> exact ⟨by decide +kernel, by decide +kernel, by decide +kernel⟩
theorem en_due4 {w : Str} (hw : simple w) (n s : Int) : Ens (noX (l_due20 w (eI n) s)) (Due2 (okW w n) n (RW w n)) := by
  obtain ⟨hs, h1, h2⟩ := simple_ok hw
  refine en_noX ?_
  unfold l_due20
  refine en_bndE (en_eq _) (en_bndE (en_eq _) (en_sel0 h1 (en_bndE (en_eq _) (en_sel0 h2 ?_))))
  refine en_bndE (a := !decide (okW w n)) ?_ (en_sel (fun q => en_ret (.inl ⟨fun h => ?_, rfl⟩)) (fun q => ?_))
  · refine en_bndE (a := decide (n < if w = ("ring" : Str) then 3 else 2)) (en_bndE (en_optE (a := n) rfl) (en_bndE (a := if w = ("ring" : Str) then 3 else 2) (en_sel (fun z => en_ret ?_) (fun z => en_ret ?_)) (en_eq _))) ((en_or (v := decide (64 < n)) (en_bndE (en_optE (a := n) rfl) (en_eq _))).mono fun v e => ?_)
    · rw [if_pos (of_decide_eq_true z)]
    · rw [if_neg (of_decide_eq_false z)]
    · have hiff : (¬ okW w n) ↔ ((n < if w = ("ring" : Str) then 3 else 2) ∨ 64 < n) := by
        unfold okW
        omega
      rw [e, ← Bool.decide_or, ← decide_not]
      exact decide_eq_decide.mpr hiff.symm
  · rw [decide_eq_true h] at q
    cases q
  · have hok : okW w n := by
      refine Classical.byContradiction fun h => ?_
      rw [decide_eq_false h] at q
      cases q
    have hn : 2 ≤ n ∧ n ≤ 64 := by
      unfold okW at hok
      split at hok <;> omega
    refine en_bndE (en_eq _) (en_bndE (en_bndE (en_optE (a := n) rfl) (en_grd (rng_small (by omega) (by omega)) (en_eq _))) ?_)
    refine en_dbl (may := CW w n) (no := fun a b => ¬ CW w n a b) (N := n) (m := n.toNat) (by omega) (by omega) (fun u u0 u1 => en_bndE (en_optE (a := n) rfl) (en_grd ⟨rng_small (by omega) (by omega), rng_small (by omega) (by omega)⟩ (en_eq _))) (fun u v s kc u0 u1 v1 hl hy hno => ?_) (fun D hl d => ?_)
    · refine en_bndE (en_eq _) (en_bndE (a := decide (CW w n u v)) ?_ (en_sel (fun z => en_app (R := fun x => x = (u, v)) (en_eq _) (by omega) fun x ex => by rw [ex]; exact hy (of_decide_eq_true z)) (fun z => hno (of_decide_eq_false z))))
      refine (en_or (v := ((decide (w = ("star" : Str)) && decide (u = 0)) || ((([("line" : Str), ("ring" : Str)].any fun z => decide (z = w)) && decide (v = u + 1)) || (decide (w = ("ring" : Str)) && decide ((u, v) = ((0 : Int), n - 1)))))) (en_bndE (en_and (en_eq _)) (en_or (v := ((([("line" : Str), ("ring" : Str)].any fun z => decide (z = w)) && decide (v = u + 1)) || (decide (w = ("ring" : Str)) && decide ((u, v) = ((0 : Int), n - 1))))) (en_bndE (a := (([("line" : Str), ("ring" : Str)].any fun z => decide (z = w)) && decide (v = u + 1))) (en_bndE (en_inS2 (ws := [("line" : Str), ("ring" : Str)]) hs (by decide +kernel)) (en_and (en_eq _))) (en_or (en_and (v := decide ((u, v) = ((0 : Int), n - 1))) (en_bndE (a := ((0 : Int), n - 1)) (en_bndE (en_bndE (en_optE (a := n) rfl) (en_eq _)) (en_eq _)) (en_eqW (ee_2 ee_I ee_I) (by decide) _ _)))))))).mono fun x e => ?_
      rw [e, Bool.eq_iff_iff]
      simp only [Bool.or_eq_true, Bool.and_eq_true, decide_eq_true_eq, List.any_cons, List.any_nil, Bool.or_false, Prod.mk.injEq]
      unfold CW
      constructor
      · rintro (z | ⟨z1, z2⟩ | ⟨z1 | z1, z2⟩ | ⟨z1, z2⟩)
        · exact .inl z
        · exact .inr (.inl ⟨z1, z2⟩)
        · exact .inr (.inr (.inl ⟨.inl z1.symm, z2⟩))
        · exact .inr (.inr (.inl ⟨.inr z1.symm, z2⟩))
        · exact .inr (.inr (.inr ⟨z1, z2⟩))
      · rintro (z | ⟨z1, z2⟩ | ⟨z1 | z1, z2⟩ | ⟨z1, z2⟩)
        · exact .inl z
        · exact .inr (.inl ⟨z1, z2⟩)
        · exact .inr (.inr (.inl ⟨.inl z1.symm, z2⟩))
        · exact .inr (.inr (.inl ⟨.inr z1.symm, z2⟩))
        · exact .inr (.inr (.inr ⟨z1, z2⟩))
    · have hsr : Srt (RW w n) D := d.srt
      refine en_sel (fun z => en_ret (.inr ⟨hok, D, hsr, ?_⟩)) (fun z => en_ret (.inr ⟨hok, D, hsr, ?_⟩))
      · have z : (D.length : Int) ≤ 200 := of_decide_eq_true z
        rw [if_pos (by omega)]
        rfl
      · have z : ¬ (D.length : Int) ≤ 200 := of_decide_eq_false z
        rw [if_neg (by omega)]
        rfl
/-! ### trees -/
def okT (ps : List Int) : Prop := (1 ≤ ps.length ∧ ps.length < 64) ∧ ∀ (i : Nat) a, ps[i]? = some a → 0 ≤ a ∧ a ≤ (i : Int)
def RT (ps : List Int) (a b : Int) : Prop := ∃ i : Nat, ps[i]? = some a ∧ b = (i : Int) + 1
theorem loop_go {α : Type} {T : α → Wp Bool} {exit : Unit → Wp (Int × List (Int × Int))} {p : α → Bool} {P : Int × List (Int × Int) → Prop} {X : Xn → Prop} : ∀ (xs : List α), (∀ x ∈ xs, Ens (T x) (fun b => b = !p x)) → (xs.all p = true → exit () P X) → (xs.all p = false → X (.plain 0)) →
    forK (fun x (_ : Unit) kc _ => bnd (T x) fun b => sel b (thr (.plain 0)) (kc ())) exit xs () P X
  | [], _, h1, _ => h1 rfl
  | x :: xs, hT, h1, h2 => by
    show bnd (T x) _ P X
    refine bnd_go (hT x List.mem_cons_self) ?_
    cases q : p x with
    | false => exact sel_go1 rfl (h2 (by rw [List.all_cons, q]; rfl))
    | true => exact sel_go0 rfl (loop_go xs (fun y hy => hT y (List.mem_cons_of_mem _ hy)) (fun z => h1 (by rw [List.all_cons, q, z]; rfl)) (fun z => h2 (by rw [List.all_cons, q, z]; rfl)))
theorem enum_mem {ps : List Int} {x : Int × Int} : x ∈ enumI ps ↔ ∃ i : Nat, ps[i]? = some x.2 ∧ x.1 = (i : Int) := by
  constructor
  · intro h
    obtain ⟨i, hi, e⟩ := List.mem_iff_getElem?.mp h |>.imp fun i hi => (⟨(List.getElem?_eq_some_iff.mp hi).1, hi⟩ : ∃ _ : i < (enumI ps).length, (enumI ps)[i]? = some x)
    rw [enum_len] at hi
    rw [enum_get hi] at e
    cases e
    exact ⟨i, List.getElem?_eq_getElem hi, rfl⟩
  · rintro ⟨i, hi, e⟩
    obtain ⟨h1, h2⟩ := List.getElem?_eq_some_iff.mp hi
    obtain ⟨a, b⟩ := x
    have e : a = (i : Int) := e
    subst e
    refine List.mem_iff_getElem?.mpr ⟨i, ?_⟩
    rw [enum_get h1, h2]
theorem tree_M {ps : List Int} (hl : ps.length ≤ 100) : LiS ((enumI ps).map fun c => (c.2, c.1 + 1)) (RT ps) := by
  refine ⟨?_, fun a b => ?_, by rw [List.length_map, enum_len]; omega⟩
  · refine List.pairwise_map.mpr ?_
    rw [List.pairwise_iff_getElem]
    intro i j hi hj hij e
    have h1 := enum_get (xs := ps) (i := i) (by rw [← enum_len ps]; exact hi)
    have h2 := enum_get (xs := ps) (i := j) (by rw [← enum_len ps]; exact hj)
    rw [List.getElem?_eq_getElem hi] at h1
    rw [List.getElem?_eq_getElem hj] at h2
    rw [Option.some.inj h1, Option.some.inj h2] at e
    have e := congrArg Prod.snd e
    have e : (i : Int) + 1 = (j : Int) + 1 := e
    omega
  · rw [List.mem_map]
    constructor
    · rintro ⟨c, hc, e⟩
      obtain ⟨i, h1, h2⟩ := enum_mem.mp hc
      cases e
      exact ⟨i, h1, by rw [h2]⟩
    · rintro ⟨i, h1, h2⟩
      exact ⟨((i : Int), a), enum_mem.mpr ⟨i, h1, rfl⟩, by rw [h2]⟩
theorem tree_all {ps : List Int} : ((enumI ps).all fun x => decide ((0 : Int) ≤ x.2 ∧ x.2 ≤ x.1)) = true ↔ ∀ (i : Nat) a, ps[i]? = some a → 0 ≤ a ∧ a ≤ (i : Int) := by
  rw [List.all_eq_true]
  constructor
  · intro h i a hi
    exact of_decide_eq_true (h ((i : Int), a) (enum_mem.mpr ⟨i, hi, rfl⟩))
  · intro h x hx
    obtain ⟨i, h1, h2⟩ := enum_mem.mp hx
    refine decide_eq_true ?_
    rw [h2]
    exact h i x.2 h1
theorem en_len63 (k : Nat) (m : Int) (hm : m = 64) : Ens (sel (decide ((1 : Int) ≤ (k : Int))) (ret (decide ((k : Int) < m))) (ret false)) (fun b => b = decide (1 ≤ k ∧ k < 64)) := by
  subst hm
  refine (en_and (en_eq _)).mono fun v e => ?_
  rw [e, ← Bool.decide_and]
  exact decide_eq_decide.mpr (by omega)
theorem tree_go {ps : List Int} (hl : ps.length ≤ 100) : FrGo (p_tree ps) (okT ps) ((ps.length : Int) + 1) (RT ps) := fun P X h1 h2 h3 => by
  unfold p_tree
  refine bnd_go (a := !decide (1 ≤ ps.length ∧ ps.length < 64)) (en_bndE (en_len63 _ _ rfl) (en_eq _)) ?_
  by_cases q : 1 ≤ ps.length ∧ ps.length < 64
  · refine sel_go0 (by rw [decide_eq_true q]; rfl) (bnd_go (en_eq _) ?_)
    refine loop_go (p := fun x : Int × Int => decide ((0 : Int) ≤ x.2 ∧ x.2 ≤ x.1)) (enumI ps) (fun x _ => en_bndE (en_isnum _ _ _) (en_eq _)) (fun z => ?_) (fun z => h2 fun w => ?_)
    · have hok : okT ps := ⟨q, tree_all.mp z⟩
      refine frgo_made (en_bndE (en_eq _) (en_lcM (fun c : Int × Int => (c.2, c.1 + 1)) (enumI ps) (by rw [enum_len]; omega) fun c _ => en_eq _)) (by omega) (by omega) hok (tree_M hl) (fun w => ?_) h1 h3
      have := congrArg List.length w
      rw [List.length_map, enum_len, List.length_nil] at this
      omega
    · rw [tree_all.mpr w.2] at z
      cases z
  · exact sel_go1 (by rw [decide_eq_false q]; rfl) (h2 fun w => q w.1)
theorem as_ints (rs : List Int) : asAll asI (eT eI rs) = some rs := by
  show (rs.map eI).mapM asI = some rs
  induction rs with
  | nil => rfl
  | cons r rs ih =>
    rw [List.map_cons, List.mapM_cons, ih]
    rfl
theorem en_toldT {ps : List Int} (hl : ps.length ≤ 100) (s : Int) : Ens (noX (l_told ("tree" : Str) (eT eI ps) s)) (Due2 (okT ps) ((ps.length : Int) + 1) (RT ps)) := by
  refine en_noX fun P X hp => ?_
  unfold l_told
  exact bnd_go (en_eq _) (sel_go0 (by decide +kernel) (bnd_go (en_eq _) (sel_go0 (by decide +kernel) (bnd_go (en_eq _) (sel_go0 (by decide +kernel) (bnd_go (en_eq _) (sel_go0 (by decide +kernel) (bnd_go (en_eq _) (sel_go1 (by decide +kernel) (told_go (m := bnd (opt (asAll asI (eT eI ps))) fun x => p_tree x) (fun P X a b c => bnd_go (en_optE (a := ps) (as_ints ps)) (tree_go hl P X a b c)) hp id))))))))))
theorem en_dueT {ps : List Int} (hl : ps.length ≤ 100) (s : Int) : Ens (noX (l_due20 ("tree" : Str) (eT eI ps) s)) (Due2 (okT ps) ((ps.length : Int) + 1) (RT ps)) := by
  refine en_noX ?_
  unfold l_due20
  have eT0 : asT (eT eI ps) = some (ps.map eI) := rfl
  refine en_bndE (en_eq _) (en_bndE (en_eq _) (en_sel1 (by decide +kernel) ?_))
  have hat : ∀ c : Int, 0 ≤ c → c < ps.length → ∃ a, ps[c.toNat]? = some a ∧ atI (ps.map eI) c = some (eI a) := fun c c0 c1 => by
    have hi : c.toNat < ps.length := by omega
    refine ⟨_, List.getElem?_eq_getElem hi, ?_⟩
    rw [at_getD (eI 0) c0 (by rw [List.length_map]; exact c1), getD_lt' (by rw [List.length_map]; exact hi), List.getElem_map]
  have hspan : ∀ p : Int → Int → Bool, ((span 0 ps.length).all fun c => p c (ps.getD c.toNat 0)) = (enumI ps).all fun x => p x.1 x.2 := fun p => by
    rw [Bool.eq_iff_iff, List.all_eq_true, List.all_eq_true]
    constructor
    · intro h x hx
      obtain ⟨i, h1, h2⟩ := enum_mem.mp hx
      obtain ⟨h3, h4⟩ := List.getElem?_eq_some_iff.mp h1
      have := h (i : Int) (mem_span.mpr (by omega))
      rw [show ((i : Int)).toNat = i from rfl, getD_lt' h3, h4] at this
      rw [h2]
      exact this
    · intro h c hc
      have hm := mem_span.mp hc
      have hi : c.toNat < ps.length := by omega
      have := h (c, ps.getD c.toNat 0) (enum_mem.mpr ⟨c.toNat, by rw [getD_lt' hi]; exact List.getElem?_eq_getElem hi, by show c = ((c.toNat : Nat) : Int); omega⟩)
      exact this
  have hgd : ∀ c : Int, 0 ≤ c → c < ps.length → Ens (bnd (bnd (opt (asT (eT eI ps))) fun x => opt (atI x c)) fun x => opt (asI x)) (fun v => v = ps.getD c.toNat 0) := fun c c0 c1 => by
    obtain ⟨a, h1, h2⟩ := hat c c0 c1
    refine en_bndE (en_bndE (en_optE eT0) (en_optE h2)) (en_opt rfl ?_)
    rw [List.getD_eq_getElem?_getD, h1]
    rfl
  refine en_bndE (a := !(decide (1 ≤ ps.length ∧ ps.length < 64) && (enumI ps).all fun x => decide ((0 : Int) ≤ x.2 ∧ x.2 ≤ x.1))) ?_ (en_sel (fun q => en_ret (.inl ⟨fun h => ?_, rfl⟩)) (fun q => ?_))
  · refine en_bndE (a := !decide (1 ≤ ps.length ∧ ps.length < 64)) (en_bndE (a := decide (1 ≤ ps.length ∧ ps.length < 64)) (en_bndE (en_bndE (en_optE eT0) (en_eq _)) ?_) (en_eq _)) ?_
    · rw [List.length_map]
      refine (en_and (en_eq _)).mono fun v e => ?_
      rw [e, ← Bool.decide_and]
      exact decide_eq_decide.mpr (by omega)
    · refine (en_or (v := !(enumI ps).all fun x => decide ((0 : Int) ≤ x.2 ∧ x.2 ≤ x.1)) ?_).mono fun v e => by rw [e, Bool.not_and]
      refine en_bndE (a := (span 0 ps.length).map fun c => !decide ((0 : Int) ≤ ps.getD c.toNat 0 ∧ ps.getD c.toNat 0 ≤ c)) (en_bndE (a := span 0 ps.length) (en_bndE (en_bndE (en_optE eT0) (en_eq _)) (en_grd (by rw [List.length_map]; exact rng_small (by omega) (by omega)) (en_ret (by rw [List.length_map]; rfl)))) (en_lcM _ _ (by rw [span_length]; omega) fun c hc => ?_)) (en_ret ?_)
      · have hm := mem_span.mp hc
        exact en_bndE (en_bndE (hgd c (by omega) (by omega)) (en_rg _ _ _)) (en_eq _)
      · rw [List.any_map, ← hspan fun i a => decide ((0 : Int) ≤ a ∧ a ≤ i)]
        induction span 0 ps.length with
        | nil => rfl
        | cons a l ih =>
          rw [List.any_cons, List.all_cons, ih, Bool.not_and]
          rfl
  · rw [decide_eq_true h.1, tree_all.mpr h.2] at q
    cases q
  · rw [Bool.not_eq_false', Bool.and_eq_true] at q
    have hok : okT ps := ⟨of_decide_eq_true q.1, tree_all.mp q.2⟩
    have li := tree_M hl
    have eM : ((span 0 ps.length).map fun c => (ps.getD c.toNat 0, c + 1)) = (enumI ps).map fun c => (c.2, c.1 + 1) := by
      refine List.ext_getElem? fun i => ?_
      rw [List.getElem?_map, List.getElem?_map]
      by_cases hi : i < ps.length
      · rw [span_get hi, enum_get hi]
        show some (ps.getD (0 + (i : Int)).toNat 0, 0 + (i : Int) + 1) = some (ps[i], (i : Int) + 1)
        rw [show (0 + (i : Int)).toNat = i by omega, getD_lt' hi, Int.zero_add]
      · rw [List.getElem?_eq_none (by rw [span_length]; omega), List.getElem?_eq_none (by rw [enum_len]; omega)]
        rfl
    refine en_bnd (R := fun v => ∃ D, Srt (RT ps) D ∧ v = ((ps.length : Int) + 1, D) ∧ D.length ≤ 200) (en_bndE (a := (ps.length : Int) + 1) (en_bndE (en_bndE (en_optE eT0) (en_eq _)) (en_ret (by rw [List.length_map]))) (en_bnd (R := fun D => Srt (RT ps) D ∧ D.length ≤ 200) (en_bndE (a := (span 0 ps.length).map fun c => (ps.getD c.toNat 0, c + 1)) (en_bndE (a := span 0 ps.length) (en_bndE (en_bndE (en_optE eT0) (en_eq _)) (en_grd (by rw [List.length_map]; exact rng_small (by omega) (by omega)) (en_ret (by rw [List.length_map]; rfl)))) (en_lcM _ _ (by rw [span_length]; omega) fun c hc => ?_)) ?_) fun D hD => en_ret ⟨D, hD.1, rfl, hD.2⟩)) fun v ⟨D, h1, e, h2⟩ => en_ret (.inr ⟨hok, D, h1, by rw [e, if_pos h2]; rfl⟩)
    · have hm := mem_span.mp hc
      exact en_bndE (hgd c (by omega) (by omega)) (en_eq _)
    · rw [eM]
      refine (en_sortP (by have := li.len; omega) li.nd).mono fun D hD => ⟨⟨hD.2, fun a b => by rw [hD.1.mem_iff, li.mem]⟩, ?_⟩
      rw [hD.1.length_eq, List.length_map, enum_len]
      have := hok.1.2
      omega
end Cf
/-! k20: linked groups. -/
namespace Cf
open PySem WL L2
def okG (c s : Int) : Prop := 2 ≤ c ∧ 1 ≤ s ∧ c * s ≤ 64
def cG (s a b : Int) : Prop := Int.fdiv a s = Int.fdiv b s ∨ (Int.fdiv a s < Int.fdiv b s ∧ a - Int.fdiv a s * s = Int.fmod (Int.fdiv b s - 1) s ∧ b - Int.fdiv b s * s = Int.fmod (Int.fdiv a s) s)
def RG (c s a b : Int) : Prop := 0 ≤ a ∧ a < b ∧ b < c * s ∧ cG s a b
instance (c s : Int) : Decidable (okG c s) := by unfold okG; infer_instance
instance (s a b : Int) : Decidable (cG s a b) := by unfold cG; infer_instance
/-- the links of a group with itself, and with the groups before -/
def grI (s g : Int) : List (Int × Int) := (span (g * s) (g * s + s - g * s).toNat).flatMap fun x => ((span (g * s) (g * s + s - g * s).toNat).filter fun y => decide (x < y)).map fun y => (x, y)
def grC (s g : Int) : List (Int × Int) := (span 0 g.toNat).map fun o => (o * s + Int.fmod (g - 1) s, g * s + Int.fmod o s)
section
variable {s : Int} (s0 : 0 < s)
include s0
theorem fd_eq (x : Int) : Int.fdiv x s * s + Int.fmod x s = x := by
  have := Int.mul_fdiv_add_fmod x s
  rw [Int.mul_comm] at this
  exact this
theorem fd_rng (x : Int) : Int.fdiv x s * s ≤ x ∧ x < Int.fdiv x s * s + s := by
  have h := fd_eq s0 x
  obtain ⟨h1, h2⟩ := fmod_in (a := x) s0
  omega
theorem mul_step {x y : Int} (h : x < y) : x * s + s ≤ y * s := by
  have := Int.mul_le_mul_of_nonneg_right (show x + 1 ≤ y by omega) (Int.le_of_lt s0)
  rw [Int.add_mul, Int.one_mul] at this
  exact this
theorem mul_nn {x : Int} (h : 0 ≤ x) : 0 ≤ x * s := Int.mul_nonneg h (Int.le_of_lt s0)
theorem fd_uniq {q x : Int} (h1 : q * s ≤ x) (h2 : x < q * s + s) : Int.fdiv x s = q := by
  obtain ⟨g1, g2⟩ := fd_rng s0 x
  rcases Int.lt_trichotomy (Int.fdiv x s) q with z | z | z
  · have := mul_step s0 z; omega
  · exact z
  · have := mul_step s0 z; omega
theorem fd_nn {x : Int} (h : 0 ≤ x) : 0 ≤ Int.fdiv x s := by
  obtain ⟨g1, g2⟩ := fd_rng s0 x
  refine Classical.byContradiction fun z => ?_
  have := mul_step s0 (show Int.fdiv x s < 0 by omega)
  omega
theorem fd_lt {x c : Int} (h : x < c * s) : Int.fdiv x s < c := by
  obtain ⟨g1, g2⟩ := fd_rng s0 x
  refine Classical.byContradiction fun z => ?_
  have := Int.mul_le_mul_of_nonneg_right (show c ≤ Int.fdiv x s by omega) (Int.le_of_lt s0)
  omega
theorem fd_le {x y : Int} (h : x ≤ y) : Int.fdiv x s ≤ Int.fdiv y s := by
  obtain ⟨g1, g2⟩ := fd_rng s0 x
  obtain ⟨g3, g4⟩ := fd_rng s0 y
  refine Classical.byContradiction fun z => ?_
  have := mul_step s0 (show Int.fdiv y s < Int.fdiv x s by omega)
  omega
theorem in_mem {g a b : Int} : (a, b) ∈ grI s g ↔ g * s ≤ a ∧ a < b ∧ b < g * s + s := by
  unfold grI
  rw [List.mem_flatMap]
  constructor
  · rintro ⟨x, hx, h⟩
    obtain ⟨y, hy, e⟩ := List.mem_map.mp h
    rw [List.mem_filter] at hy
    have h1 := mem_span.mp hx
    have h2 := mem_span.mp hy.1
    have h3 := of_decide_eq_true hy.2
    cases e
    omega
  · rintro ⟨h1, h2, h3⟩
    exact ⟨a, mem_span.mpr (by omega), List.mem_map.mpr ⟨b, List.mem_filter.mpr ⟨mem_span.mpr (by omega), decide_eq_true h2⟩, rfl⟩⟩
omit s0 in
theorem cr_mem {g a b : Int} : (a, b) ∈ grC s g ↔ ∃ o, 0 ≤ o ∧ o < g ∧ a = o * s + Int.fmod (g - 1) s ∧ b = g * s + Int.fmod o s := by
  unfold grC
  rw [List.mem_map]
  constructor
  · rintro ⟨o, ho, e⟩
    have := mem_span.mp ho
    cases e
    exact ⟨o, by omega, by omega, rfl, rfl⟩
  · rintro ⟨o, h1, h2, h3, h4⟩
    exact ⟨o, mem_span.mpr (by omega), by rw [h3, h4]⟩
theorem in_nd (g : Int) : (grI s g).Nodup := by
  refine asc_nd ?_
  unfold grI
  rw [List.pairwise_flatMap]
  refine ⟨fun u _ => List.pairwise_map.mpr (((span_nd _ _).sublist List.filter_sublist).imp fun h => .inr ⟨rfl, h⟩), (span_nd _ _).imp fun {u v} huv x hx y hy => ?_⟩
  obtain ⟨_, _, rfl⟩ := List.mem_map.mp hx
  obtain ⟨_, _, rfl⟩ := List.mem_map.mp hy
  exact .inl huv
theorem cr_nd (g : Int) : (grC s g).Nodup := by
  refine asc_nd ?_
  unfold grC
  refine List.pairwise_map.mpr ((span_nd _ _).imp fun {u v} huv => .inl ?_)
  show u * s + Int.fmod (g - 1) s < v * s + Int.fmod (g - 1) s
  have := mul_step s0 huv
  omega
theorem gr_nd (g : Int) : (grI s g ++ grC s g).Nodup := by
  rw [List.nodup_append]
  refine ⟨in_nd s0 g, cr_nd s0 g, fun x hx y hy e => ?_⟩
  subst e
  obtain ⟨a, b⟩ := x
  obtain ⟨h1, h2, h3⟩ := (in_mem s0).mp hx
  obtain ⟨o, o1, o2, o3, o4⟩ := cr_mem.mp hy
  have := mul_step s0 o2
  have := fmod_in (a := g - 1) s0
  omega
theorem gr_b {g a b : Int} (h : (a, b) ∈ grI s g ++ grC s g) : g * s ≤ b ∧ b < g * s + s := by
  rcases List.mem_append.mp h with h | h
  · obtain ⟨h1, h2, h3⟩ := (in_mem s0).mp h
    omega
  · obtain ⟨o, o1, o2, o3, o4⟩ := cr_mem.mp h
    have := fmod_in (a := o) s0
    omega
theorem gr_mem {c a b : Int} : (∃ g, 0 ≤ g ∧ g < c ∧ (a, b) ∈ grI s g ++ grC s g) ↔ RG c s a b := by
  constructor
  · rintro ⟨g, g0, g1, h⟩
    have n1 := mul_nn s0 g0
    have n2 := mul_step s0 g1
    rcases List.mem_append.mp h with h | h
    · obtain ⟨h1, h2, h3⟩ := (in_mem s0).mp h
      refine ⟨by omega, h2, by omega, .inl ?_⟩
      rw [fd_uniq s0 (q := g) h1 (by omega), fd_uniq s0 (q := g) (by omega) h3]
    · obtain ⟨o, o1, o2, o3, o4⟩ := cr_mem.mp h
      have f1 := fmod_in (a := g - 1) s0
      have f2 := fmod_in (a := o) s0
      have n3 := mul_step s0 o2
      have n4 := mul_nn s0 o1
      have e1 := fd_uniq s0 (q := o) (x := a) (by omega) (by omega)
      have e2 := fd_uniq s0 (q := g) (x := b) (by omega) (by omega)
      refine ⟨by omega, by omega, by omega, .inr ?_⟩
      rw [e1, e2]
      exact ⟨o2, by omega, by omega⟩
  · rintro ⟨h1, h2, h3, h4⟩
    have i0 := fd_nn s0 (x := b) (by omega)
    have i1 := fd_lt s0 h3
    obtain ⟨b1, b2⟩ := fd_rng s0 b
    obtain ⟨a1, a2⟩ := fd_rng s0 a
    refine ⟨Int.fdiv b s, i0, i1, List.mem_append.mpr ?_⟩
    rcases h4 with e | ⟨e1, e2, e3⟩
    · exact .inl ((in_mem s0).mpr ⟨by rw [← e]; exact a1, h2, b2⟩)
    · exact .inr (cr_mem.mpr ⟨Int.fdiv a s, fd_nn s0 h1, e1, by omega, by omega⟩)
end
def allG (s : Int) (m : Nat) : List (Int × Int) := (span 0 m).flatMap fun g => grI s g ++ grC s g
theorem span_snoc (m : Nat) : span 0 (m + 1) = span 0 m ++ [(m : Int)] := by
  unfold span
  rw [List.range_succ, List.map_append]
  simp
theorem allG_snoc (s : Int) (m : Nat) : allG s (m + 1) = allG s m ++ (grI s m ++ grC s m) := by
  unfold allG
  rw [span_snoc, List.flatMap_append]
  simp
theorem flat_len {α β : Type} {f : α → List β} {B : Nat} : ∀ xs : List α, (∀ x ∈ xs, (f x).length ≤ B) → (xs.flatMap f).length ≤ xs.length * B
  | [], _ => by simp
  | x :: xs, h => by
    have h1 := h x List.mem_cons_self
    have h2 := flat_len xs fun y hy => h y (List.mem_cons_of_mem _ hy)
    rw [List.flatMap_cons, List.length_append, List.length_cons, Nat.succ_mul]
    omega
theorem nd_leQ {α : Type} [BEq α] [LawfulBEq α] : ∀ {a b : List α}, a.Nodup → (∀ x ∈ a, x ∈ b) → a.length ≤ b.length
  | [], _, _, _ => Nat.zero_le _
  | x :: a, b, hn, h => by
    rw [List.nodup_cons] at hn
    have hx := h x List.mem_cons_self
    have ih := nd_leQ (b := b.erase x) hn.2 fun z hz => (List.mem_erase_of_ne (fun e => hn.1 (by rw [← e]; exact hz))).mpr (h z (List.mem_cons_of_mem _ hz))
    rw [List.length_erase_of_mem hx] at ih
    have := List.length_pos_iff.mpr (List.ne_nil_of_mem hx)
    rw [List.length_cons]
    omega
theorem groups_M {c s : Int} (h : okG c s) : LiS (allG s c.toNat) (RG c s) := by
  obtain ⟨h1, h2, h3⟩ := h
  have s0 : 0 < s := by omega
  have mem : ∀ a b, (a, b) ∈ allG s c.toNat ↔ RG c s a b := fun a b => by
    rw [← gr_mem s0]
    unfold allG
    rw [List.mem_flatMap]
    constructor
    · rintro ⟨g, hg, hm⟩
      have := mem_span.mp hg
      exact ⟨g, by omega, by omega, hm⟩
    · rintro ⟨g, g0, g1, hm⟩
      exact ⟨g, mem_span.mpr (by omega), hm⟩
  have nd : (allG s c.toNat).Nodup := by
    unfold allG
    refine List.pairwise_flatMap.mpr ⟨fun g _ => gr_nd s0 g, (span_nd 0 _).imp fun {u v} huv x hx y hy e => ?_⟩
    obtain ⟨a, b⟩ := x
    subst e
    have q1 := gr_b s0 hx
    have q2 := gr_b s0 hy
    have := mul_step s0 huv
    omega
  refine ⟨nd, mem, ?_⟩
  have := nd_leQ (a := allG s c.toNat) (b := (span 0 64).flatMap fun x => (span 0 64).map fun y => (x, y)) nd fun p hp => by
    obtain ⟨a, b⟩ := p
    obtain ⟨r1, r2, r3, _⟩ := (mem a b).mp hp
    exact List.mem_flatMap.mpr ⟨a, mem_span.mpr (by omega), List.mem_map.mpr ⟨b, mem_span.mpr (by omega), rfl⟩⟩
  have l := flat_len (f := fun x : Int => (span 0 64).map fun y => (x, y)) (B := 64) (span 0 64) fun x _ => by rw [List.length_map, span_length]; exact Nat.le_refl _
  rw [span_length] at l
  omega
theorem for_goLo {S F : Type} {body : Int → S → (S → Wp F) → (S → Wp F) → Wp F} {exit : S → Wp F} {P : F → Prop} {X : Xn → Prop} {lo : Int} {n : Nat} (I : Nat → S → Prop) {s : S} (h0 : I 0 s)
    (hb : ∀ i s k kx, i < n → I i s → (∀ s', I (i + 1) s' → k s' P X) → body (lo + (i : Int)) s k kx P X) (hx : ∀ s, I n s → exit s P X) : forK body exit (span lo n) s P X := by
  have : ∀ (post pre : List Int) (s : S), span lo n = pre ++ post → I pre.length s → forK body exit post s P X := by
    intro post
    induction post with
    | nil =>
      intro pre s e h
      rw [List.append_nil] at e
      refine hx s ?_
      have := congrArg List.length e
      rw [span_length] at this
      rw [this]
      exact h
    | cons x post ih =>
      intro pre s e h
      have hp : pre.length < n := by
        have := congrArg List.length e
        rw [span_length, List.length_append, List.length_cons] at this
        omega
      show body x s (fun t => forK body exit post t) exit P X
      rw [span_at e]
      exact hb _ s _ _ hp h fun s' h' => ih (pre ++ [x]) s' (by rw [e]; simp) (by rw [List.length_append, List.length_singleton]; exact h')
  exact this _ [] s rfl h0
theorem cmul_s {a b : Int} (h1 : -1000000 ≤ a) (h2 : a ≤ 1000000) : CMul a b := .inl ⟨by omega, by omega⟩
set_option maxHeartbeats 1000000 in
theorem groups_go {c s : Int} (c1 : -1000 ≤ c) (c2 : c ≤ 1000) (q1 : -1000 ≤ s) (q2 : s ≤ 1000) : FrGo (p_groups c s) (okG c s) (c * s) (RG c s) := fun P X h1 h2 h3 => by
  unfold p_groups
  refine bnd_go (a := !decide (okG c s)) ?_ ?_
  · refine en_bndE (en_bndE (en_isnum _ _ _) (en_eq _)) ((en_or (v := !decide (1 ≤ s ∧ s ≤ 64) || decide (64 < c * s)) (en_bndE (en_bndE (en_isnum _ _ _) (en_eq _)) (en_or (en_bndE (en_grd (cmul_s (by omega) (by omega)) (en_eq _)) (en_eq _))))).mono fun v e => ?_)
    rw [e, ← decide_not, ← decide_not, ← decide_not, ← Bool.decide_or, ← Bool.decide_or]
    refine decide_eq_decide.mpr ?_
    unfold okG
    by_cases p1 : 2 ≤ c
    · by_cases p2 : 1 ≤ s
      · have m1 : c ≤ c * s := by
          have := Int.mul_le_mul_of_nonneg_left p2 (show 0 ≤ c by omega)
          omega
        have m2 : s ≤ c * s := by
          have := Int.mul_le_mul_of_nonneg_right (show 1 ≤ c by omega) (show 0 ≤ s by omega)
          omega
        omega
      · omega
    · omega
  by_cases hok : okG c s
  · refine sel_go0 (by rw [decide_eq_true hok]; rfl) ?_
    obtain ⟨k1, k2, k3⟩ := id hok
    have s0 : 0 < s := by omega
    have m1 : c ≤ c * s := by
      have := Int.mul_le_mul_of_nonneg_left k2 (show 0 ≤ c by omega)
      omega
    have m2 : s ≤ c * s := by
      have := Int.mul_le_mul_of_nonneg_right (show 1 ≤ c by omega) (show 0 ≤ s by omega)
      omega
    refine bnd_go (en_eq _) (bnd_go (en_grd (rng_small (by omega) (by omega)) (en_eq _)) ?_)
    refine for_goLo (fun i t => t = allG s i ∧ t.length ≤ i * 5000) ⟨rfl, Nat.zero_le _⟩ (fun i t k kx hi hI hk => ?_) (fun t hI => ?_)
    · rw [Int.zero_add]
      obtain ⟨et, hl⟩ := hI
      have n1 := mul_nn s0 (show (0 : Int) ≤ (i : Int) by omega)
      have n2 := mul_step s0 (show (i : Int) < c by omega)
      refine bnd_go (a := ((i : Int) * s, (i : Int) * s + s)) (en_bndE (en_grd (cmul_s (by omega) (by omega)) (en_eq _)) (en_bndE (en_bndE (en_grd (cmul_s (by omega) (by omega)) (en_eq _)) (en_eq _)) (en_grd ⟨rng_small (by omega) (by omega), rng_small (by omega) (by omega)⟩ (en_eq _)))) ?_
      have hsp : (span ((i : Int) * s) ((i : Int) * s + s - (i : Int) * s).toNat).length ≤ 64 := by rw [span_length]; omega
      have hin : Ens (bnd (ret (span ((i : Int) * s) ((i : Int) * s + s - (i : Int) * s).toNat)) fun l17 => lc2G (fun _ => (ret true)) (fun _ => (ret (span ((i : Int) * s) ((i : Int) * s + s - (i : Int) * s).toNat))) (fun c15 c16 => (ret (decide (c15 < c16)))) (fun c15 c16 => (ret (c15, c16))) l17) (fun v => v = grI s i) := by
        refine en_bndE (en_eq _) ((en_lc2 (fun _ => true) (fun _ => span ((i : Int) * s) ((i : Int) * s + s - (i : Int) * s).toNat) (fun a b => decide (a < b)) (fun a b => (a, b)) 64 _ (by omega) (fun _ _ => en_eq _) (fun _ _ _ => en_eq _) (fun _ _ => hsp) (fun _ _ _ _ _ => en_eq _) (fun _ _ _ _ _ _ => en_eq _)).mono fun v e => ?_)
        rw [e, ft]
        rfl
      have hil : (grI s i).length ≤ 4096 := by
        have := flat_len (f := fun x => ((span ((i : Int) * s) ((i : Int) * s + s - (i : Int) * s).toNat).filter fun y => decide (x < y)).map fun y => (x, y)) (B := 64) (span ((i : Int) * s) ((i : Int) * s + s - (i : Int) * s).toNat) fun x _ => by
          rw [List.length_map]
          exact Nat.le_trans (List.length_filter_le _ _) hsp
        unfold grI
        have h64 := Nat.mul_le_mul_right 64 hsp
        omega
      have hi64 : i * 5000 ≤ 64 * 5000 := Nat.mul_le_mul_right 5000 (by omega)
      show bnd _ _ P X
      refine bnd_go hin ?_
      show grd _ _ P X
      refine ⟨by omega, ?_⟩
      refine bnd_go (en_grd (rng_small (by omega) (by omega)) (en_eq _)) ?_
      refine for_goLo (fun j u => u = allG s i ++ (grI s i ++ (span 0 j).map fun o => (o * s + Int.fmod ((i : Int) - 1) s, (i : Int) * s + Int.fmod o s)) ∧ u.length ≤ t.length + 4096 + j) ⟨?_, ?_⟩ (fun j u k2 kx2 hj hJ hk2 => ?_) (fun u hJ => hk _ ⟨?_, ?_⟩)
      · rw [et]
        simp [span]
      · rw [List.length_append]
        omega
      · obtain ⟨eu, ul⟩ := hJ
        rw [Int.zero_add]
        have n3 := mul_nn s0 (show (0 : Int) ≤ (j : Int) by omega)
        have n4 := mul_step s0 (show (j : Int) < c by omega)
        show bnd _ _ P X
        refine bnd_go (a := ((j : Int) * s + Int.fmod ((i : Int) - 1) s, (i : Int) * s + Int.fmod (j : Int) s)) (en_bndE (en_bndE (en_grd (cmul_s (by omega) (by omega)) (en_eq _)) (en_bndE (en_grd (by omega) (en_eq _)) (en_eq _))) (en_bndE (en_bndE (en_grd (cmul_s (by omega) (by omega)) (en_eq _)) (en_bndE (en_grd (by omega) (en_eq _)) (en_eq _))) (en_eq _))) ?_
        refine ⟨by omega, hk2 _ ⟨?_, ?_⟩⟩
        · rw [eu, span_snoc, List.map_append, List.append_assoc, List.append_assoc]
          rfl
        · rw [List.length_append, List.length_singleton]
          omega
      · rw [allG_snoc, hJ.1]
        rfl
      · have e : (i + 1) * 5000 = i * 5000 + 5000 := by omega
        have := hJ.2
        omega
    · obtain ⟨et, hl⟩ := hI
      refine bnd_go (en_grd (cmul_s (by omega) (by omega)) (en_eq _)) ?_
      have li := groups_M hok
      rw [← et] at li
      have hne : t ≠ [] := fun z => by
        have := (li.mem (0 * s + Int.fmod (1 - 1) s) (1 * s + Int.fmod 0 s)).mpr ((gr_mem s0).mp ⟨1, by decide, by omega, List.mem_append.mpr (.inr (cr_mem.mpr ⟨0, by decide, by decide, rfl, rfl⟩))⟩)
        rw [z] at this
        cases this
      exact en_made2 (by omega) k3 li hne P X (fun D hD hl => h1 D hok hD hl) fun D hD hl => h3 D hok hD hl
  · exact sel_go1 (by rw [decide_eq_false hok]; rfl) (h2 hok)
theorem en_toldG {c s : Int} (c1 : -1000 ≤ c) (c2 : c ≤ 1000) (q1 : -1000 ≤ s) (q2 : s ≤ 1000) : Ens (noX (l_told ("groups" : Str) (eI c) s)) (Due2 (okG c s) (c * s) (RG c s)) := by
  refine en_noX fun P X hp => ?_
  unfold l_told
  exact bnd_go (en_eq _) (sel_go0 (by decide +kernel) (bnd_go (en_eq _) (sel_go0 (by decide +kernel) (bnd_go (en_eq _) (sel_go0 (by decide +kernel) (bnd_go (en_eq _) (sel_go0 (by decide +kernel) (bnd_go (en_eq _) (sel_go0 (by decide +kernel) (told_go (m := bnd (opt (asI (eI c))) fun x => p_groups x s) (fun P X a b d => bnd_go (en_optE (a := c) rfl) (groups_go c1 c2 q1 q2 P X a b d)) hp id))))))))))
theorem en_lgroups {c s : Int} (hok : okG c s) : Ens (noX (l_group_links c s)) (fun D => Srt (RG c s) D) := by
  obtain ⟨k1, k2, k3⟩ := id hok
  have s0 : 0 < s := by omega
  have m1 : c ≤ c * s := by
    have := Int.mul_le_mul_of_nonneg_left k2 (show 0 ≤ c by omega)
    omega
  have m2 : s ≤ c * s := by
    have := Int.mul_le_mul_of_nonneg_right (show 1 ≤ c by omega) (show 0 ≤ s by omega)
    omega
  refine en_noX ?_
  unfold l_group_links
  refine en_bndE (en_eq _) (en_bndE (en_bndE (en_grd (cmul_s (by omega) (by omega)) (en_eq _)) (en_grd (rng_small (by omega) (by omega)) (en_eq _))) ?_)
  refine en_dbl (may := cG s) (no := fun a b => ¬ cG s a b) (N := c * s) (m := (c * s).toNat) (by omega) (by omega) (fun u u0 u1 => en_bndE (en_grd (cmul_s (by omega) (by omega)) (en_eq _)) (en_grd ⟨rng_small (by omega) (by omega), rng_small (by omega) (by omega)⟩ (en_eq _))) (fun u v t kc u0 u1 v1 hl hy hno => ?_) (fun D hl d => en_ret d.srt)
  have fu := fd_rng s0 u
  have fv := fd_rng s0 v
  have fu0 := fd_nn s0 u0
  have fv0 := fd_nn s0 (x := v) (by omega)
  have fu1 := fd_lt s0 (x := u) (c := c) (by omega)
  have fv1 := fd_lt s0 (x := v) (c := c) (by omega)
  have cd : ∀ x : Int, CDivN x s := fun x => ⟨by omega, by omega⟩
  refine en_bndE (en_grd (cd u) (en_eq _)) (en_bndE (en_grd (cd v) (en_eq _)) (en_bndE (en_eq _) ?_))
  refine en_bndE (a := decide (Int.fdiv u s < Int.fdiv v s) && (decide (u - Int.fdiv u s * s = Int.fmod (Int.fdiv v s - 1) s) && decide (v - Int.fdiv v s * s = Int.fmod (Int.fdiv u s) s))) (en_and (en_bndE (a := decide (u - Int.fdiv u s * s = Int.fmod (Int.fdiv v s - 1) s)) (en_bndE (en_bndE (en_grd (cmul_s (by omega) (by omega)) (en_eq _)) (en_eq _)) (en_bndE (en_grd (by omega) (en_eq _)) (en_eq _))) (en_and (en_bndE (en_bndE (en_grd (cmul_s (by omega) (by omega)) (en_eq _)) (en_eq _)) (en_bndE (en_grd (by omega) (en_eq _)) (en_eq _)))))) ?_
  refine en_bndE (a := decide (cG s u v)) ((en_or (en_eq _)).mono fun x e => ?_) (en_sel (fun z => en_app (R := fun x => x = (u, v)) (en_eq _) (by omega) fun x ex => by rw [ex]; exact hy (of_decide_eq_true z)) (fun z => hno (of_decide_eq_false z)))
  rw [e, Bool.eq_iff_iff]
  simp only [Bool.or_eq_true, Bool.and_eq_true, decide_eq_true_eq]
  exact Iff.rfl
theorem en_dueG {c s : Int} (c1 : -1000 ≤ c) (c2 : c ≤ 1000) (q1 : -1000 ≤ s) (q2 : s ≤ 1000) : Ens (noX (l_due20 ("groups" : Str) (eI c) s)) (Due2 (okG c s) (c * s) (RG c s)) := by
  refine en_noX ?_
  unfold l_due20
  refine en_bndE (en_eq _) (en_bndE (en_eq _) (en_sel0 (by decide +kernel) (en_bndE (en_eq _) (en_sel1 (by decide +kernel) ?_))))
  refine en_bndE (a := !decide (okG c s)) ?_ (en_sel (fun q => en_ret (.inl ⟨fun h => ?_, rfl⟩)) (fun q => ?_))
  · refine en_bndE (a := decide (c < 2)) (en_bndE (en_optE (a := c) rfl) (en_eq _)) ((en_or (v := decide (s < 1) || decide (64 < c * s)) (en_or (en_bndE (a := c * s) (en_bndE (en_optE (a := c) rfl) (en_grd (cmul_s (by omega) (by omega)) (en_eq _))) (en_eq _)))).mono fun v e => ?_)
    have hiff : (¬ okG c s) ↔ (c < 2 ∨ (s < 1 ∨ 64 < c * s)) := by
      unfold okG
      omega
    rw [e, ← Bool.decide_or, ← Bool.decide_or, ← decide_not]
    exact decide_eq_decide.mpr hiff.symm
  · rw [decide_eq_true h] at q
    cases q
  · have hok : okG c s := by
      refine Classical.byContradiction fun h => ?_
      rw [decide_eq_false h] at q
      cases q
    refine en_bnd (en_bndE (en_optE (a := c) rfl) (en_lgroups hok)) fun D hD => en_sel (fun z => ?_) (fun z => en_ret (.inr ⟨hok, D, hD, ?_⟩))
    · have z : (D.length : Int) ≤ 200 := of_decide_eq_true z
      refine en_bndE (a := (c * s, D)) (en_bndE (en_bndE (en_optE (a := c) rfl) (en_grd (cmul_s (by omega) (by omega)) (en_eq _))) (en_eq _)) (en_ret (.inr ⟨hok, D, hD, ?_⟩))
      rw [if_pos (by omega)]
      rfl
    · have z : ¬ (D.length : Int) ≤ 200 := of_decide_eq_false z
      rw [if_neg (by omega)]
      rfl
end Cf
/-! k20: is_frame; spoilt frames; the law. -/
namespace Cf
open PySem WL L2
def iD : PyData → Int
  | .int x => x
  | _ => 0
def nmB (d : PyData) (a b : Int) : Bool := match d with
  | .int x => decide (a ≤ x) && decide (x ≤ b)
  | _ => false
theorem nm_int {d : PyData} {a b : Int} (h : nmB d a b = true) : d = .int (iD d) ∧ a ≤ iD d ∧ iD d ≤ b := by
  cases d <;> simp [nmB] at h
  exact ⟨rfl, h.1, h.2⟩
theorem en_numD (d : PyData) (a b : Int) : Ens (noX (p_is_numberD d a b)) (fun v => v = nmB d a b) := by
  refine en_noX ?_
  unfold p_is_numberD
  cases d with
  | int x => exact en_sel1 rfl (en_sel1 rfl (en_bndE (en_optE (a := x) rfl) (en_and (en_eq _))))
  | bool z => exact en_ret rfl
  | _ => exact en_ret rfl
def lkB (n : Int) : PyData → Bool
  | .tuple [x, y] => nmB x 0 (n - 1) && nmB y 0 (n - 1) && decide (iD x < iD y)
  | _ => false
def prE : PyData → Int × Int
  | .tuple [x, y] => (iD x, iD y)
  | _ => (0, 0)
theorem lk_e2 {n : Int} {d : PyData} (h : lkB n d = true) : d = e2 eI eI (prE d) := by
  unfold lkB at h
  split at h
  · rename_i x y
    rw [Bool.and_eq_true, Bool.and_eq_true] at h
    obtain ⟨h1, _⟩ := nm_int h.1.1
    obtain ⟨h3, _⟩ := nm_int h.1.2
    show PyData.tuple [x, y] = .tuple [.int (iD x), .int (iD y)]
    rw [← h1, ← h3]
  · cases h
theorem two_of {α : Type} : ∀ {l : List α}, l.length = 2 → ∃ a b, l = [a, b]
  | [a, b], _ => ⟨a, b, rfl⟩
theorem en_islink (d : PyData) (n : Int) : Ens (noX (p_is_link d n)) (fun v => v = lkB n d) := by
  refine en_noX ?_
  unfold p_is_link
  cases d with
  | tuple ds =>
    by_cases h2 : ds.length = 2
    · obtain ⟨x, y, rfl⟩ := two_of h2
      refine en_bndE (a := false) (en_sel0 rfl (en_bndE (en_bndE (en_optE (a := [x, y]) rfl) (en_eq _)) (en_ret rfl))) (en_sel0 rfl ?_)
      refine en_bndE (a := nmB x 0 (n - 1) && nmB y 0 (n - 1)) (en_bndE (en_bndE (en_optE (a := [x, y]) rfl) (en_lcM (fun c => nmB c 0 (n - 1)) [x, y] (show 2 ≤ 16777216 by decide) fun c _ => en_numD c _ _)) (en_ret ?_)) ?_
      · show (nmB x 0 (n - 1) && (nmB y 0 (n - 1) && true)) = _
        rw [Bool.and_true]
      · show Ens _ (fun v => v = (nmB x 0 (n - 1) && nmB y 0 (n - 1) && decide (iD x < iD y)))
        cases q : (nmB x 0 (n - 1) && nmB y 0 (n - 1)) with
        | false => exact en_sel0 rfl (en_eq _)
        | true =>
          rw [Bool.and_eq_true] at q
          have e1 : asI x = some (iD x) := by rw [(nm_int q.1).1]; rfl
          have e2 : asI y = some (iD y) := by rw [(nm_int q.2).1]; rfl
          exact en_sel1 rfl (en_bndE (en_bndE (en_bndE (en_optE (a := [x, y]) rfl) (en_optE (a := x) rfl)) (en_optE e1)) (en_bndE (en_bndE (en_bndE (en_optE (a := [x, y]) rfl) (en_optE (a := y) rfl)) (en_optE e2)) (en_eq _)))
    · refine en_bndE (a := true) (en_sel0 rfl (en_bndE (en_bndE (en_optE (a := ds) rfl) (en_eq _)) (en_ret ?_))) (en_sel1 rfl (en_ret ?_))
      · rw [decide_eq_false (by omega)]
        rfl
      · match ds, h2 with
        | [], _ => rfl
        | [x], _ => rfl
        | [x, y], h => exact absurd rfl h
        | x :: y :: z :: r, _ => rfl
  | _ => exact en_bndE (a := true) (en_sel1 rfl (en_eq _)) (en_sel1 rfl (en_ret rfl))
def lksB (a : PyData) (ls : List PyData) : Bool := nmB a 2 64 && !ls.isEmpty && ls.all (lkB (iD a)) && decide ((ls.map prE).Pairwise le2)
def frB : PyData → Bool
  | .tuple [a, .tuple ls] => lksB a ls
  | _ => false
def FewFr : PyData → Prop
  | .tuple [_, .tuple ls] => ls.length ≤ 10000
  | _ => True
theorem en_isframe {v : PyData} (hv : FewFr v) : Ens (noX (p_is_frame v)) (fun b => b = frB v) := by
  refine en_noX ?_
  unfold p_is_frame
  cases v with
  | tuple ds =>
    by_cases h2 : ds.length = 2
    · obtain ⟨a, b, rfl⟩ := two_of h2
      have eT : asT (.tuple [a, b]) = some [a, b] := rfl
      refine en_bndE (a := !nmB a 2 64) (en_sel0 rfl (en_bndE (a := false) (en_bndE (en_bndE (en_optE eT) (en_eq _)) (en_ret rfl)) (en_sel0 rfl (en_bndE (en_bndE (en_bndE (en_optE eT) (en_optE (a := a) rfl)) (en_numD _ _ _)) (en_eq _))))) (en_sel (fun z => en_ret ?_) (fun z => ?_))
      · rw [Bool.not_eq_true'] at z
        unfold frB
        split
        · rename_i a' ls e
          cases e
          unfold lksB
          rw [z]
          rfl
        · rfl
      · rw [Bool.not_eq_false'] at z
        refine en_bndE (en_bndE (en_optE eT) (en_optE (a := b) rfl)) ?_
        cases b with
        | tuple ls =>
          have hl : ls.length ≤ 10000 := hv
          show Ens _ (fun b => b = (nmB a 2 64 && !ls.isEmpty && ls.all (lkB (iD a)) && decide ((ls.map prE).Pairwise le2)))
          rw [z, Bool.true_and]
          have ea : asI a = some (iD a) := by rw [(nm_int z).1]; rfl
          have eL : asT (.tuple ls) = some ls := rfl
          refine en_bndE (a := !(!ls.isEmpty && ls.all (lkB (iD a)))) (en_sel0 rfl (en_bndE (a := ls.isEmpty) (en_bndE (en_bndE (en_optE eL) (en_eq _)) (en_ret ?_)) ?_)) (en_sel (fun y => en_ret ?_) (fun y => ?_))
          · cases ls with
            | nil => rfl
            | cons d ls => exact decide_eq_false (by rw [List.length_cons]; omega)
          · refine (en_or (v := !ls.all (lkB (iD a))) ?_).mono fun v e => by rw [e, Bool.not_and, Bool.not_not]
            refine en_bndE (a := ls.all (lkB (iD a))) (en_bndE (a := ls.map (lkB (iD a))) (en_bndE (en_optE eL) (en_lcM _ _ (by omega) fun d _ => ?_)) (en_ret ?_)) (en_eq _)
            · exact en_bndE (en_bndE (en_bndE (en_optE eT) (en_optE (a := a) rfl)) (en_optE ea)) (en_islink d _)
            · rw [List.all_map]
              rfl
          · rw [Bool.not_eq_true'] at y
            rw [y]
            rfl
          · rw [Bool.not_eq_false'] at y
            rw [y, Bool.true_and]
            rw [Bool.and_eq_true] at y
            have hp : ∀ c : Int, 0 ≤ c → c < ls.length → Ens (bnd (bnd (opt (asT (.tuple ls))) fun x => opt (atI x c)) fun x => opt ((asQ2 asI asI) x)) (fun v => v = (ls.map prE).getD c.toNat (0, 0)) := fun c c0 c1 => by
              have hi : c.toNat < ls.length := by omega
              have hm : ls[c.toNat] ∈ ls := List.getElem_mem hi
              have e := lk_e2 (List.all_eq_true.mp y.2 _ hm)
              refine en_bndE (en_bndE (en_optE eL) (en_optE (at_getD .none c0 c1))) (en_opt (a := prE ls[c.toNat]) ?_ ?_)
              · rw [getD_lt' hi]
                generalize prE ls[c.toNat] = p at e
                rw [e]
                rfl
              · rw [getD_lt' (by rw [List.length_map]; exact hi), List.getElem_map]
            refine en_bndE (a := (span 0 (ls.length - 1)).map fun k => decide (le2 ((ls.map prE).getD k.toNat (0, 0)) ((ls.map prE).getD (k + 1).toNat (0, 0)))) (en_bndE (a := span 0 (ls.length - 1)) (en_bndE (en_bndE (en_bndE (en_optE eL) (en_eq _)) (en_eq _)) (en_grd ⟨by omega, by omega⟩ (en_ret ?_))) (en_lcM _ _ (by rw [span_length]; omega) fun k hk => ?_)) (en_ret ?_)
            · congr 1
              omega
            · obtain ⟨k0, k1⟩ := mem_span.mp hk
              exact en_bndE (hp k (by omega) (by omega)) (en_bndE (hp (k + 1) (by omega) (by omega)) (en_ltP2 _ _))
            · rw [List.all_map]
              have := adj_iff le2_tr (0, 0) (ls.map prE)
              rw [List.length_map] at this
              rw [← this]
              rfl
        | none => exact en_bndE (a := true) (en_sel1 rfl (en_eq _)) (en_sel1 rfl (en_ret rfl))
        | int _ => exact en_bndE (a := true) (en_sel1 rfl (en_eq _)) (en_sel1 rfl (en_ret rfl))
        | bool _ => exact en_bndE (a := true) (en_sel1 rfl (en_eq _)) (en_sel1 rfl (en_ret rfl))
        | str _ => exact en_bndE (a := true) (en_sel1 rfl (en_eq _)) (en_sel1 rfl (en_ret rfl))
        | list _ => exact en_bndE (a := true) (en_sel1 rfl (en_eq _)) (en_sel1 rfl (en_ret rfl))
        | dict _ => exact en_bndE (a := true) (en_sel1 rfl (en_eq _)) (en_sel1 rfl (en_ret rfl))
    · refine en_bndE (a := true) (en_sel0 rfl (en_bndE (a := true) (en_bndE (en_bndE (en_optE (a := ds) rfl) (en_eq _)) (en_ret ?_)) (en_sel1 rfl (en_eq _)))) (en_sel1 rfl (en_ret ?_))
      · rw [decide_eq_false (by omega)]
        rfl
      · match ds, h2 with
        | [], _ => rfl
        | [x], _ => rfl
        | [x, y], h => exact absurd rfl h
        | x :: y :: z :: r, _ =>
          unfold frB
          split
          · rename_i e
            cases e
          · rfl
  | _ => exact en_bndE (a := true) (en_sel1 rfl (en_eq _)) (en_sel1 rfl (en_ret rfl))
/-! ### good frames, spoilt ones -/
structure Gd (n : Int) (D : List (Int × Int)) : Prop where
  n2 : 2 ≤ n
  n64 : n ≤ 64
  ne : D ≠ []
  len : D.length ≤ 10000
  asc : D.Pairwise le2
  rng : ∀ p ∈ D, 0 ≤ p.1 ∧ p.1 < p.2 ∧ p.2 < n
theorem pr_map (D : List (Int × Int)) : (D.map (e2 eI eI)).map prE = D := by
  rw [List.map_map]
  exact List.map_id' D
theorem frB_D (n : Int) (D : List (Int × Int)) : frB (frD n D) = lksB (.int n) (D.map (e2 eI eI)) := rfl
theorem gd_fr {n : Int} {D : List (Int × Int)} (g : Gd n D) : frB (frD n D) = true := by
  rw [frB_D]
  show (nmB (.int n) 2 64 && !(D.map (e2 eI eI)).isEmpty && (D.map (e2 eI eI)).all (lkB n) && decide (((D.map (e2 eI eI)).map prE).Pairwise le2)) = true
  rw [pr_map, decide_eq_true g.asc, Bool.and_true, Bool.and_eq_true, Bool.and_eq_true]
  refine ⟨⟨?_, ?_⟩, ?_⟩
  · show (decide (2 ≤ n) && decide (n ≤ 64)) = true
    rw [decide_eq_true g.n2, decide_eq_true g.n64]
    rfl
  · cases D with
    | nil => exact absurd rfl g.ne
    | cons d D => rfl
  · rw [List.all_map, List.all_eq_true]
    intro p hp
    obtain ⟨h1, h2, h3⟩ := g.rng p hp
    show (((decide (0 ≤ p.1) && decide (p.1 ≤ n - 1)) && (decide (0 ≤ p.2) && decide (p.2 ≤ n - 1))) && decide (p.1 < p.2)) = true
    rw [decide_eq_true h1, decide_eq_true h2, decide_eq_true (show p.1 ≤ n - 1 by omega), decide_eq_true (show 0 ≤ p.2 by omega), decide_eq_true (show p.2 ≤ n - 1 by omega)]
    rfl
def Bad (v : PyData) : Prop := frB v = false ∧ FewFr v
theorem bad_num {a : PyData} {ls : List PyData} (h : nmB a 2 64 = false) (hl : ls.length ≤ 10000) : Bad (.tuple [a, .tuple ls]) := ⟨by
  show (nmB a 2 64 && _ && _ && _) = false
  rw [h]
  rfl, hl⟩
theorem bad_lk {a : PyData} {ls : List PyData} (h : ls.all (lkB (iD a)) = false) (hl : ls.length ≤ 10000) : Bad (.tuple [a, .tuple ls]) := ⟨by
  show (nmB a 2 64 && !ls.isEmpty && ls.all (lkB (iD a)) && _) = false
  rw [h, Bool.and_false, Bool.false_and], hl⟩
theorem bad_one {n : Int} {y : PyData} (h : lkB n y = false) : Bad (.tuple [.int n, .tuple [y]]) := bad_lk (by show (lkB n y && true) = false; rw [h]; rfl) (show 1 ≤ 10000 by decide)
theorem bad_end {n : Int} {D : List (Int × Int)} {p : Int × Int} (hl : D.length ≤ 9000) (h : lkB n (e2 eI eI p) = false) : Bad (frD n (D ++ [p])) := by
  refine bad_lk (a := .int n) (ls := (D ++ [p]).map (e2 eI eI)) ?_ (by rw [List.length_map, List.length_append, List.length_singleton]; omega)
  rw [List.map_append, List.all_append]
  show (_ && (lkB n (e2 eI eI p) && true)) = false
  rw [h]
  simp
theorem bad_asc {n : Int} {D : List (Int × Int)} (hl : D.length ≤ 10000) (h : ¬ D.Pairwise le2) : Bad (frD n D) := by
  refine ⟨?_, by show (D.map (e2 eI eI)).length ≤ 10000; rw [List.length_map]; exact hl⟩
  rw [frB_D]
  show (nmB (.int n) 2 64 && !(D.map (e2 eI eI)).isEmpty && (D.map (e2 eI eI)).all (lkB n) && decide (((D.map (e2 eI eI)).map prE).Pairwise le2)) = false
  rw [pr_map, decide_eq_false h, Bool.and_false]
theorem cut_last {α : Type} (xs : List α) (h : xs ≠ []) : ∃ x ∈ xs, cutA xs (some (-1)) none = [x] := by
  have hp := List.length_pos_iff.mpr h
  refine ⟨xs.getLast h, List.getLast_mem h, ?_⟩
  have : cutA xs (some (-1)) none = xs.drop (xs.length - 1) := by
    unfold cutA
    have h1 : HT.sIx xs.length 0 (some (-1)) = xs.length - 1 := by
      unfold HT.sIx
      simp
      omega
    have h2 : HT.sIx xs.length xs.length none = xs.length := rfl
    rw [h1, h2, List.take_of_length_le (by rw [List.length_drop]; omega)]
  rw [this, List.drop_eq_getElem_cons (by omega), List.drop_eq_nil_of_le (by omega), List.getLast_eq_getElem]
theorem lk_not {n : Int} {p : Int × Int} (h : ¬ (0 ≤ p.1 ∧ p.1 < p.2 ∧ p.2 ≤ n - 1)) : lkB n (e2 eI eI p) = false := by
  cases q : lkB n (e2 eI eI p) with
  | false => rfl
  | true =>
    have q : ((decide (0 ≤ p.1) && decide (p.1 ≤ n - 1)) && (decide (0 ≤ p.2) && decide (p.2 ≤ n - 1)) && decide (p.1 < p.2)) = true := q
    simp only [Bool.and_eq_true, decide_eq_true_eq] at q
    exact absurd ⟨q.1.1.1, q.2, q.1.2.2⟩ h
set_option maxHeartbeats 1000000 in
theorem en_bad {n : Int} {D : List (Int × Int)} (g : Gd n D) (hl : D.length ≤ 9000) : Ens (noX (l_bad (n, D))) Bad := by
  have hn := g.n2
  have hn2 := g.n64
  have hpos := List.length_pos_iff.mpr g.ne
  refine en_noX ?_
  unfold l_bad
  refine en_bndE (en_eq _) (en_bnd (en_take (by decide) (by decide)) fun k _ => ?_)
  refine en_bnd (R := fun rows => rows.length = 21 ∧ ∀ v ∈ rows, Bad v) ?_ (fun rows ⟨r1, r2⟩ => en_bnd (en_take (by decide) (by decide)) fun v hv => en_opt (at_getD PyData.none hv.1 (by omega)) (r2 _ (getD_mem _ (by omega))))
  obtain ⟨z, hz, ez⟩ := cut_last D g.ne
  refine en_bndE (en_bndE (en_bndE (en_optE (at_getD (0, 0) (by decide) (by show (0 : Int) < (D.length : Int); omega))) (en_eq _)) (en_eq _)) ?_
  refine en_bndE (en_bndE (en_bndE (en_grd (by rw [List.length_singleton]; show D.length + 1 ≤ 16777216; omega) (en_eq _)) (en_eq _)) (en_eq _)) ?_
  refine en_bndE (en_bndE (en_bndE (en_grd (by show D.length + (cutA D _ _).length ≤ _; rw [ez, List.length_singleton]; omega) (en_eq _)) (en_eq _)) (en_eq _)) ?_
  refine en_bndE (en_bndE (en_bndE (en_grd (by rw [List.length_singleton]; show D.length + 1 ≤ 16777216; omega) (en_eq _)) (en_eq _)) (en_eq _)) ?_
  refine en_bndE (en_bndE (en_bndE (en_grd (by rw [List.length_singleton]; show D.length + 1 ≤ 16777216; omega) (en_eq _)) (en_eq _)) (en_eq _)) (en_ret ⟨rfl, fun v hv => ?_⟩)
  simp only [List.mem_cons, List.not_mem_nil, or_false] at hv
  have hml : (D.map (e2 eI eI)).length ≤ 10000 := by rw [List.length_map]; omega
  have nD : ∀ (w : PyData), (∀ x y, w ≠ .tuple [x, y]) → lkB n w = false := fun w hw => by
    unfold lkB
    split
    · exact absurd rfl (hw _ _)
    · rfl
  rcases hv with rfl | rfl | rfl | rfl | rfl | rfl | rfl | rfl | rfl | rfl | rfl | rfl | rfl | rfl | rfl | rfl | rfl | rfl | rfl | rfl | rfl
  · exact ⟨rfl, trivial⟩
  · exact ⟨rfl, trivial⟩
  · exact ⟨by show (nmB (.int n) 2 64 && false && _ && _) = false; rw [Bool.and_false, Bool.false_and, Bool.false_and], Nat.zero_le _⟩
  · exact bad_num rfl hml
  · exact bad_num rfl hml
  · exact bad_lk (a := .int n) (ls := [.int _, .int _]) rfl (show 2 ≤ 10000 by decide)
  · exact bad_end (p := (0, n)) hl (lk_not fun h => by have : n ≤ n - 1 := h.2.2; omega)
  · refine bad_asc (D := D ++ cutA D (some (-1)) none) (by rw [ez, List.length_append, List.length_singleton]; omega) ?_
    rw [ez, List.pairwise_append]
    rintro ⟨_, _, h⟩
    exact le2_irr z (h z hz z (List.mem_singleton.mpr rfl))
  · exact bad_one (y := e2 eI eI (1, 0)) (lk_not fun h => by have : (1 : Int) < 0 := h.2.1; omega)
  · exact bad_end (p := (0, 0)) hl (lk_not fun h => by have : (0 : Int) < 0 := h.2.1; omega)
  · exact bad_one (y := e2 eI eI (-1, 1)) (lk_not fun h => by have : (0 : Int) ≤ -1 := h.1; omega)
  · exact bad_end (p := (n - 1, n - 1)) hl (lk_not fun h => by have : n - 1 < n - 1 := h.2.1; omega)
  · exact bad_num rfl hml
  · exact bad_one (nD _ fun x y h => by cases h)
  · exact bad_one (nD _ fun x y h => by cases h)
  · exact ⟨rfl, trivial⟩
  · exact ⟨rfl, trivial⟩
  · exact ⟨rfl, trivial⟩
  · exact bad_lk (a := .int n) (ls := [.int _, .int _]) rfl (show 2 ≤ 10000 by decide)
  · exact bad_num rfl hml
  · exact bad_one (y := e2 eI eB (0, true)) (by show (((decide ((0 : Int) ≤ 0) && decide ((0 : Int) ≤ n - 1)) && false) && decide ((0 : Int) < 0)) = false; simp)
end Cf
/-! k20: the law. -/
namespace Cf
open PySem WL L2
theorem en_neDs {d : PyData} (h : SeqAt.shaped d = true) : Ens (eqWN d d) (fun v => v = false) := en_grd ⟨h, h⟩ (en_ret (by rw [SeqAt.eqv_refl d (SeqAt.canLay_of_shaped h)]; rfl))
theorem as_pairs (D : List (Int × Int)) : asAll (asQ2 asI asI) (eT (e2 eI eI) D) = some D := by
  show (D.map (e2 eI eI)).mapM (asQ2 asI asI) = some D
  induction D with
  | nil => rfl
  | cons r D ih =>
    rw [List.map_cons, List.mapM_cons, ih]
    rfl
theorem as_fr (n : Int) (D : List (Int × Int)) : asQ2 asI (asAll (asQ2 asI asI)) (frD n D) = some (n, D) := by
  show ((asI (.int n)).bind fun u => (asAll (asQ2 asI asI) (eT (e2 eI eI) D)).bind fun v => some (u, v)) = some (n, D)
  rw [as_pairs]
  rfl
theorem en_parents : Ens (noX l_parents) (fun ps => ps.length ≤ 100) := by
  refine en_noX ?_
  unfold l_parents
  refine en_bndE (en_eq _) (en_bnd (R := fun l => ∃ k : Nat, l = span 0 k ∧ k ≤ 70) ?_ fun l ⟨k, el, hk⟩ => ?_)
  · refine en_bnd (R := fun x => 0 ≤ x ∧ x < 70) (en_bnd (R := fun xs => ∃ a b : Int, xs = [a, b] ∧ (0 ≤ a ∧ a < 9) ∧ (0 ≤ b ∧ b < 70)) (en_bnd (en_take (by decide) (by decide)) fun a ha => en_bnd (en_take (by decide) (by decide)) fun b hb => en_ret ⟨a, b, rfl, ha, hb⟩) fun xs ⟨a, b, e, ha, hb⟩ => en_bnd (R := fun i => i = 0 ∨ i = 1) (en_bnd (R := fun _ => True) (en_bnd (R := fun _ => True) ((en_take (by decide) (by decide)).mono fun _ _ => trivial) fun _ _ => en_ret trivial) fun x _ => en_ret (by cases x; exact .inl rfl; exact .inr rfl)) fun i hi => ?_) fun x hx => en_grd (rng_small (by omega) (by omega)) (en_ret ⟨x.toNat, rfl, by omega⟩)
    rw [e]
    rcases hi with rfl | rfl
    · exact en_opt (a := a) rfl (by omega)
    · exact en_opt (a := b) rfl (by omega)
  · subst el
    refine en_forLo (fun i s => s.length ≤ i) (Nat.zero_le _) (fun i s kk _ hi hI hkk => ?_) (fun s hs => en_ret (by omega))
    refine en_app (R := fun _ => True) (en_bnd (R := fun _ => True) (en_bnd (R := fun _ => True) ((en_take (by decide) (by decide)).mono fun _ _ => trivial) fun _ _ => en_ret trivial) fun b _ => en_sel (fun _ => (en_take (by omega) (by omega)).mono fun _ _ => trivial) (fun _ => en_bnd (en_take (by decide) (by decide)) fun a ⟨a0, a1⟩ => en_opt (at_getD (xs := [(-1 : Int), _, 99]) 0 a0 (by show a < 3; omega)) trivial)) (by omega) fun a _ => hkk _ (by rw [List.length_append, List.length_singleton]; omega)
structure FrOk (ok : Prop) (n : Int) (R : Int → Int → Prop) : Prop where
  n2 : 2 ≤ n
  n64 : n ≤ 64
  ex : ∃ a b, R a b
  rng : ∀ a b, R a b → 0 ≤ a ∧ a < b ∧ b < n
theorem FrOk.gd {ok : Prop} {n : Int} {R : Int → Int → Prop} {D : List (Int × Int)} (h : FrOk ok n R) (hD : Srt R D) (hl : D.length ≤ 10000) : Gd n D := by
  refine ⟨h.n2, h.n64, fun z => ?_, hl, hD.asc, fun p hp => h.rng p.1 p.2 ((hD.mem p.1 p.2).mp hp)⟩
  obtain ⟨a, b, hab⟩ := h.ex
  have := (hD.mem a b).mpr hab
  rw [z] at this
  cases this
theorem grC_ex {s : Int} (s0 : 0 < s) : (0 * s + Int.fmod (1 - 1) s, 1 * s + Int.fmod 0 s) ∈ grC s 1 := cr_mem.mpr ⟨0, by decide, by decide, rfl, rfl⟩
def wordOk (w : Str) : Prop := simple w ∨ w = ("tree" : Str) ∨ w = ("groups" : Str)
def Both (w : Str) (f : PyData) (s : Int) : Prop := ∃ (ok : Prop) (n : Int) (R : Int → Int → Prop), Ens (noX (l_told w f s)) (Due2 ok n R) ∧ Ens (noX (l_due20 w f s)) (Due2 ok n R) ∧ (ok → FrOk ok n R)
theorem both {w : Str} {f : PyData} {s : Int} (hw : wordOk w) (hf : (w = ("tree" : Str) ∧ ∃ ps : List Int, f = eT eI ps ∧ ps.length ≤ 100) ∨ (w ≠ ("tree" : Str) ∧ ∃ n : Int, f = eI n ∧ -1 ≤ n ∧ n ≤ 100)) (s0 : -1 ≤ s) (s1 : s ≤ 100) : Both w f s := by
  rcases hf with ⟨rfl, ps, rfl, hl⟩ | ⟨hne, n, rfl, n0, n1⟩
  · refine ⟨_, _, _, en_toldT hl s, en_dueT hl s, fun hok => ⟨by have := hok.1; omega, by have := hok.1; omega, ?_, fun a b h => ?_⟩⟩
    · have h1 := hok.1.1
      exact ⟨ps[0], 1, 0, List.getElem?_eq_getElem (by omega), rfl⟩
    · obtain ⟨i, h1, h2⟩ := h
      have h3 := hok.2 i a h1
      have := (List.getElem?_eq_some_iff.mp h1).1
      omega
  · rcases hw with hw | rfl | rfl
    · refine ⟨_, _, _, en_told4 hw n s, en_due4 hw n s, fun hok => ?_⟩
      have hn : 2 ≤ n ∧ n ≤ 64 := by
        unfold okW at hok
        split at hok <;> omega
      refine ⟨hn.1, hn.2, ⟨0, 1, by omega, by omega, by omega, ?_⟩, fun a b h => ⟨h.1, h.2.1, h.2.2.1⟩⟩
      rcases hw with rfl | rfl | rfl | rfl
      · exact .inr (.inr (.inl ⟨.inl rfl, rfl⟩))
      · exact .inr (.inr (.inl ⟨.inr rfl, rfl⟩))
      · exact .inl rfl
      · exact .inr (.inl ⟨rfl, rfl⟩)
    · exact absurd rfl hne
    · refine ⟨_, _, _, en_toldG (by omega) (by omega) (by omega) (by omega), en_dueG (by omega) (by omega) (by omega) (by omega), fun hok => ?_⟩
      obtain ⟨k1, k2, k3⟩ := id hok
      have q0 : 0 < s := by omega
      have m1 : n ≤ n * s := by
        have := Int.mul_le_mul_of_nonneg_left k2 (show 0 ≤ n by omega)
        omega
      exact ⟨by omega, k3, ⟨_, _, (gr_mem q0).mp ⟨1, by decide, by omega, List.mem_append.mpr (.inr (grC_ex q0))⟩⟩, fun a b h => ⟨h.1, h.2.1, h.2.2.1⟩⟩
set_option maxHeartbeats 2000000 in
theorem en_law20 : Ens law20 (fun b => b = true) := by
  unfold law20
  refine en_bndE (en_grd (rng_small (by decide) (by decide)) (en_eq _)) (en_forM (fun _ => True) _ trivial (fun x st k hx _ hk => ?_) (fun _ _ => ?_))
  · refine en_bnd (R := wordOk) (en_bnd (en_take (by decide) (by decide)) fun a ⟨a0, a1⟩ => en_opt (at_getD (xs := [("line" : Str), ("ring" : Str), ("complete" : Str), ("star" : Str), ("tree" : Str), ("groups" : Str)]) "" a0 (by show a < 6; omega)) ?_) fun w hw => ?_
    · have : a = 0 ∨ a = 1 ∨ a = 2 ∨ a = 3 ∨ a = 4 ∨ a = 5 := by omega
      rcases this with rfl | rfl | rfl | rfl | rfl | rfl
      · exact .inl (.inl rfl)
      · exact .inl (.inr (.inl rfl))
      · exact .inl (.inr (.inr (.inl rfl)))
      · exact .inl (.inr (.inr (.inr rfl)))
      · exact .inr (.inl rfl)
      · exact .inr (.inr rfl)
    refine en_bnd (R := fun f => (w = ("tree" : Str) ∧ ∃ ps : List Int, f = eT eI ps ∧ ps.length ≤ 100) ∨ (w ≠ ("tree" : Str) ∧ ∃ n : Int, f = eI n ∧ -1 ≤ n ∧ n ≤ 100)) (en_sel (fun z => en_bnd en_parents fun ps hl => en_ret (.inl ⟨of_decide_eq_true z, ps, rfl, hl⟩)) (fun z => en_bnd (R := fun _ => True) (en_bnd (R := fun _ => True) ((en_take (by decide) (by decide)).mono fun _ _ => trivial) fun _ _ => en_ret trivial) fun b _ => en_sel (fun _ => en_bnd (en_take (by decide) (by decide)) fun n hn => en_ret (.inr ⟨of_decide_eq_false z, n, rfl, by omega, by omega⟩)) (fun _ => en_bnd (R := fun n => -1 ≤ n ∧ n ≤ 100) (en_bnd (en_take (by decide) (by decide)) fun n hn => en_ret (by omega)) fun n hn => en_ret (.inr ⟨of_decide_eq_false z, n, rfl, hn.1, hn.2⟩)))) fun f hf => ?_
    refine en_bnd (R := fun s => -1 ≤ s ∧ s ≤ 100) (en_bnd (R := fun _ => True) (en_bnd (R := fun _ => True) ((en_take (by decide) (by decide)).mono fun _ _ => trivial) fun _ _ => en_ret trivial) fun b _ => en_sel (fun _ => en_bnd (en_take (by decide) (by decide)) fun n hn => en_ret (by omega)) (fun _ => (en_take (by decide) (by decide)).mono fun n hn => by omega)) fun s hs => ?_
    obtain ⟨ok, n, R, t1, t2, t3⟩ := both hw hf hs.1 hs.2
    refine en_bnd t1 fun v hv => ?_
    refine en_bndE (a := false) (en_bnd t2 fun v' hv' => by rw [hv'.uniq hv]; exact en_neDs hv.sh) (en_sel0 rfl ?_)
    have hc : v = ref2 ∨ ∃ D, v = frD n D ∧ Gd n D ∧ D.length ≤ 200 := by
      rcases hv with ⟨_, e⟩ | ⟨hok, D, hD, e⟩
      · exact .inl e
      · by_cases z : D.length ≤ 200
        · rw [if_pos z] at e
          exact .inr ⟨D, e, (t3 hok).gd hD (by omega), z⟩
        · rw [if_neg z] at e
          exact .inl e
    refine en_bndE (a := false) ?_ (en_sel0 rfl (hk _ trivial))
    rcases hc with e | ⟨D, e, g, hl⟩
    · rw [e]
      refine en_bndE (a := false) (en_bndE (a := eS ("refused" : Str)) (en_bndE (en_optE (a := [eS ("refused" : Str), eB true]) rfl) (en_optE (a := eS ("refused" : Str)) rfl)) (en_neDs (d := eS ("refused" : Str)) (str_sh (by decide +kernel)))) (en_sel0 rfl (en_eq _))
    · rw [e]
      refine en_bndE (a := true) (en_bndE (a := eI n) (en_bndE (en_optE (a := [eI n, eT (e2 eI eI) D]) rfl) (en_optE (a := eI n) rfl)) (en_grd ⟨ee_I.sh (by decide) n, str_sh (a := "refused") (by decide +kernel)⟩ (en_ret ?_))) (en_sel1 rfl ?_)
      · simp [eD, eS, eI, PyData.eqv]
      · refine en_bndE (a := false) (en_bndE (en_isframe (v := frD n D) (by show (D.map (e2 eI eI)).length ≤ 10000; rw [List.length_map]; omega)) (en_ret (by rw [gd_fr g]; rfl))) (en_sel0 rfl ?_)
        refine en_bnd (R := fun b => b = false) (en_bnd (R := Bad) (en_bndE (en_optE (as_fr n D)) (en_bad g (by omega))) fun b hb => (en_isframe hb.2).mono fun x ex => by rw [ex, hb.1]) fun b hb => en_ret (by rw [hb]; rfl)
  · refine en_bnd (R := fun n => 2 ≤ n ∧ n ≤ 10) (en_bnd (en_take (by decide) (by decide)) fun n hn => en_ret (by omega)) fun n hn => ?_
    refine en_bndE (en_eq _) (en_bndE (en_grd (rng_small (by omega) (by omega)) (en_eq _)) ?_)
    refine en_dbl (may := fun _ _ => True) (no := fun _ _ => True) (N := n) (m := n.toNat) (by omega) (by omega) (fun u u0 u1 => en_grd ⟨rng_small (by omega) (by omega), rng_small (by omega) (by omega)⟩ (en_eq _)) (fun u v s kc u0 u1 v1 hl hy hno => ?_) (fun D hl0 d => ?_)
    · refine en_bnd (R := fun _ => True) (en_bnd (R := fun _ => True) ((en_take (by decide) (by decide)).mono fun _ _ => trivial) fun _ _ => en_ret trivial) fun b _ => en_sel (fun _ => en_app (R := fun x => x = (u, v)) (en_eq _) (by omega) fun x ex => by rw [ex]; exact hy trivial) (fun _ => hno trivial)
    · have hr : ∀ p ∈ D, 0 ≤ p.1 ∧ p.1 < p.2 ∧ p.2 < n := fun p hp => by
        obtain ⟨a1, a2, a3, _⟩ := d.rng p hp
        exact ⟨a1, a2, a3⟩
      have hl : D.length ≤ 100 := by
        have := nd_leQ (a := D) (b := (span 0 10).flatMap fun x => (span 0 10).map fun y => (x, y)) (asc_nd d.asc) fun p hp => by
          have := hr p hp
          exact List.mem_flatMap.mpr ⟨p.1, mem_span.mpr (by omega), List.mem_map.mpr ⟨p.2, mem_span.mpr (by omega), rfl⟩⟩
        have l := flat_len (f := fun x : Int => (span 0 10).map fun y => (x, y)) (B := 10) (span 0 10) fun x _ => by rw [List.length_map, span_length]; exact Nat.le_refl _
        rw [span_length] at l
        omega
      refine en_bndE (en_eq _) (en_sel (fun z => ?_) (fun z => ?_))
      · refine en_bndE (en_isframe (v := (e2 eI e0) (n, ())) (Nat.zero_le _)) (en_ret ?_)
        have : frB ((e2 eI e0) (n, ())) = false := by
          show (nmB (.int n) 2 64 && false && _ && _) = false
          rw [Bool.and_false, Bool.false_and, Bool.false_and]
        rw [this]
        rfl
      · have hne : D ≠ [] := fun w => by rw [w] at z; cases z
        have g : Gd n D := ⟨hn.1, by omega, hne, hl0, d.asc, hr⟩
        refine en_bndE (a := false) (en_sel (fun y => ?_) (fun _ => en_eq _)) (en_sel0 rfl ?_)
        · have y : (1 : Int) < (D.length : Int) := of_decide_eq_true y
          have hb : Bad (frD n D.reverse) := by
            refine bad_asc (by rw [List.length_reverse]; exact hl0) fun w => ?_
            rw [List.pairwise_reverse] at w
            match D, y, d.asc, w with
            | a :: b :: r, _, h1, h2 =>
              exact le2_irr a (le2_tr a b a ((List.pairwise_cons.mp h1).1 b List.mem_cons_self) ((List.pairwise_cons.mp h2).1 b List.mem_cons_self))
            | [a], y, _, _ => exact absurd y (by show ¬ ((1 : Int) < ((1 : Nat) : Int)); omega)
            | [], y, _, _ => exact absurd y (by show ¬ ((1 : Int) < ((0 : Nat) : Int)); omega)
          exact en_bndE (en_isframe (v := frD n D.reverse) hb.2) (en_ret (by show (!decide (frB (frD n D.reverse) = false)) = false; rw [hb.1]; rfl))
        · refine en_bndE (a := true) (en_bndE (en_isframe (v := frD n D) (by show (D.map (e2 eI eI)).length ≤ 10000; rw [List.length_map]; omega)) (en_ret (by rw [gd_fr g]; rfl))) (en_sel1 rfl ?_)
          refine en_bndE (a := true) (en_bnd (R := fun b => b = false) (en_bnd (R := Bad) (en_bad g (by omega)) fun b hb => (en_isframe hb.2).mono fun x ex => by rw [ex, hb.1]) fun b hb => en_ret (by rw [hb]; rfl)) (en_sel1 rfl (en_ret rfl))
theorem hm_law20 : law20 (fun b => b = true) (fun _ => False) := en_law20 _ _ fun _ h => h
end Cf
namespace Cf
open PySem PySem.Spec PyProof.Rows L2 WL
set_option maxHeartbeats 4000000 in
theorem all_mk {l : PySem.W.OpenLaw} {w : World} {K : PySem.W.Frag} {h : Heap} {mg : Str → Option Value} {fa : Addr} (X : K.In h) (G : h.Ns mainGlobals mg) (hfa : mg "law" = some (.ref fa))
    {f0 : Addr} {od0 an0 : Option Addr} {sl0 : Array (Option Value)} {oc0 kV0 dc0 pm0 cd0 ct0 : Value}
    {f1 : Addr} {od1 an1 : Option Addr} {sl1 : Array (Option Value)} {oc1 kV1 dc1 pm1 cd1 ct1 : Value}
    {f2 : Addr} {od2 an2 : Option Addr} {sl2 : Array (Option Value)} {oc2 kV2 dc2 pm2 cd2 ct2 : Value}
    {f3 : Addr} {od3 an3 : Option Addr} {sl3 : Array (Option Value)} {oc3 kV3 dc3 pm3 cd3 ct3 : Value}
    {f4 : Addr} {od4 an4 : Option Addr} {sl4 : Array (Option Value)} {oc4 kV4 dc4 pm4 cd4 ct4 : Value}
    {f5 : Addr} {od5 an5 : Option Addr} {sl5 : Array (Option Value)} {oc5 kV5 dc5 pm5 cd5 ct5 : Value}
    {f6 : Addr} {od6 an6 : Option Addr} {sl6 : Array (Option Value)} {oc6 kV6 dc6 pm6 cd6 ct6 : Value}
    {f7 : Addr} {od7 an7 : Option Addr} {sl7 : Array (Option Value)} {oc7 kV7 dc7 pm7 cd7 ct7 : Value}
    {f8 : Addr} {od8 an8 : Option Addr} {sl8 : Array (Option Value)} {oc8 kV8 dc8 pm8 cd8 ct8 : Value}
    {f9 : Addr} {od9 an9 : Option Addr} {sl9 : Array (Option Value)} {oc9 kV9 dc9 pm9 cd9 ct9 : Value}
    {f10 : Addr} {od10 an10 : Option Addr} {sl10 : Array (Option Value)} {oc10 kV10 dc10 pm10 cd10 ct10 : Value}
    {f11 : Addr} {od11 an11 : Option Addr} {sl11 : Array (Option Value)} {oc11 kV11 dc11 pm11 cd11 ct11 : Value}
    {f12 : Addr} {od12 an12 : Option Addr} {sl12 : Array (Option Value)} {oc12 kV12 dc12 pm12 cd12 ct12 : Value}
    {f13 : Addr} {od13 an13 : Option Addr} {sl13 : Array (Option Value)} {oc13 kV13 dc13 pm13 cd13 ct13 : Value}
    {f14 : Addr} {od14 an14 : Option Addr} {sl14 : Array (Option Value)} {oc14 kV14 dc14 pm14 cd14 ct14 : Value}
    {f15 : Addr} {od15 an15 : Option Addr} {sl15 : Array (Option Value)} {oc15 kV15 dc15 pm15 cd15 ct15 : Value}
    {f16 : Addr} {od16 an16 : Option Addr} {sl16 : Array (Option Value)} {oc16 kV16 dc16 pm16 cd16 ct16 : Value}
    {f17 : Addr} {od17 an17 : Option Addr} {sl17 : Array (Option Value)} {oc17 kV17 dc17 pm17 cd17 ct17 : Value}
    {f18 : Addr} {od18 an18 : Option Addr} {sl18 : Array (Option Value)} {oc18 kV18 dc18 pm18 cd18 ct18 : Value}
    (a0 : PySem.W.nsIn K mainGlobals "is_number" = some (some (.ref f0)))
    (l0 : K.lookup f0 = some ⟨oc0, od0, .func (PySem.W.fnOf "is_number" "is_number" (defArgs s_p_is_numberD) (defBody s_p_is_numberD) (defScope s_p_is_numberD) .none kV0 dc0 pm0 an0 cd0 ct0), sl0⟩)
    (c0 : PySem.W.codeIn K cd0 "is_number" = true) (k0 : PySem.W.keepIn K (.ref f0) = true)
    (a1 : PySem.W.nsIn K mainGlobals "is_link" = some (some (.ref f1)))
    (l1 : K.lookup f1 = some ⟨oc1, od1, .func (PySem.W.fnOf "is_link" "is_link" (defArgs s_p_is_link) (defBody s_p_is_link) (defScope s_p_is_link) .none kV1 dc1 pm1 an1 cd1 ct1), sl1⟩)
    (c1 : PySem.W.codeIn K cd1 "is_link" = true) (k1 : PySem.W.keepIn K (.ref f1) = true)
    (a2 : PySem.W.nsIn K mainGlobals "is_frame" = some (some (.ref f2)))
    (l2 : K.lookup f2 = some ⟨oc2, od2, .func (PySem.W.fnOf "is_frame" "is_frame" (defArgs s_p_is_frame) (defBody s_p_is_frame) (defScope s_p_is_frame) .none kV2 dc2 pm2 an2 cd2 ct2), sl2⟩)
    (c2 : PySem.W.codeIn K cd2 "is_frame" = true) (k2 : PySem.W.keepIn K (.ref f2) = true)
    (a3 : PySem.W.nsIn K mainGlobals "made" = some (some (.ref f3)))
    (l3 : K.lookup f3 = some ⟨oc3, od3, .func (PySem.W.fnOf "made" "made" (defArgs s_p_made) (defBody s_p_made) (defScope s_p_made) .none kV3 dc3 pm3 an3 cd3 ct3), sl3⟩)
    (c3 : PySem.W.codeIn K cd3 "made" = true) (k3 : PySem.W.keepIn K (.ref f3) = true)
    (a4 : PySem.W.nsIn K mainGlobals "line" = some (some (.ref f4)))
    (l4 : K.lookup f4 = some ⟨oc4, od4, .func (PySem.W.fnOf "line" "line" (defArgs s_p_line) (defBody s_p_line) (defScope s_p_line) .none kV4 dc4 pm4 an4 cd4 ct4), sl4⟩)
    (c4 : PySem.W.codeIn K cd4 "line" = true) (k4 : PySem.W.keepIn K (.ref f4) = true)
    (a5 : PySem.W.nsIn K mainGlobals "ring" = some (some (.ref f5)))
    (l5 : K.lookup f5 = some ⟨oc5, od5, .func (PySem.W.fnOf "ring" "ring" (defArgs s_p_ring) (defBody s_p_ring) (defScope s_p_ring) .none kV5 dc5 pm5 an5 cd5 ct5), sl5⟩)
    (c5 : PySem.W.codeIn K cd5 "ring" = true) (k5 : PySem.W.keepIn K (.ref f5) = true)
    (a6 : PySem.W.nsIn K mainGlobals "complete" = some (some (.ref f6)))
    (l6 : K.lookup f6 = some ⟨oc6, od6, .func (PySem.W.fnOf "complete" "complete" (defArgs s_p_complete) (defBody s_p_complete) (defScope s_p_complete) .none kV6 dc6 pm6 an6 cd6 ct6), sl6⟩)
    (c6 : PySem.W.codeIn K cd6 "complete" = true) (k6 : PySem.W.keepIn K (.ref f6) = true)
    (a7 : PySem.W.nsIn K mainGlobals "star" = some (some (.ref f7)))
    (l7 : K.lookup f7 = some ⟨oc7, od7, .func (PySem.W.fnOf "star" "star" (defArgs s_p_star) (defBody s_p_star) (defScope s_p_star) .none kV7 dc7 pm7 an7 cd7 ct7), sl7⟩)
    (c7 : PySem.W.codeIn K cd7 "star" = true) (k7 : PySem.W.keepIn K (.ref f7) = true)
    (a8 : PySem.W.nsIn K mainGlobals "tree" = some (some (.ref f8)))
    (l8 : K.lookup f8 = some ⟨oc8, od8, .func (PySem.W.fnOf "tree" "tree" (defArgs s_p_tree) (defBody s_p_tree) (defScope s_p_tree) .none kV8 dc8 pm8 an8 cd8 ct8), sl8⟩)
    (c8 : PySem.W.codeIn K cd8 "tree" = true) (k8 : PySem.W.keepIn K (.ref f8) = true)
    (a9 : PySem.W.nsIn K mainGlobals "groups" = some (some (.ref f9)))
    (l9 : K.lookup f9 = some ⟨oc9, od9, .func (PySem.W.fnOf "groups" "groups" (defArgs s_p_groups) (defBody s_p_groups) (defScope s_p_groups) .none kV9 dc9 pm9 an9 cd9 ct9), sl9⟩)
    (c9 : PySem.W.codeIn K cd9 "groups" = true) (k9 : PySem.W.keepIn K (.ref f9) = true)
    (a10 : PySem.W.nsIn K mainGlobals "_law_mix" = some (some (.ref f10)))
    (l10 : K.lookup f10 = some ⟨oc10, od10, .func (PySem.W.fnOf "_law_mix" "_law_mix" (defArgs s_l_mix) (defBody s_l_mix) (defScope s_l_mix) .none kV10 dc10 pm10 an10 cd10 ct10), sl10⟩)
    (c10 : PySem.W.codeIn K cd10 "_law_mix" = true) (k10 : PySem.W.keepIn K (.ref f10) = true)
    (a11 : PySem.W.nsIn K mainGlobals "_law_tape" = some (some (.ref f11)))
    (l11 : K.lookup f11 = some ⟨oc11, od11, .func (PySem.W.fnOf "_law_tape" "_law_tape" (defArgs s_l_tape) (defBody s_l_tape) (defScope s_l_tape) .none kV11 dc11 pm11 an11 cd11 ct11), sl11⟩)
    (c11 : PySem.W.codeIn K cd11 "_law_tape" = true) (k11 : PySem.W.keepIn K (.ref f11) = true)
    (a12 : PySem.W.nsIn K mainGlobals "_law_take" = some (some (.ref f12)))
    (l12 : K.lookup f12 = some ⟨oc12, od12, .func (PySem.W.fnOf "_law_take" "_law_take" (defArgs s_l_take) (defBody s_l_take) (defScope s_l_take) .none kV12 dc12 pm12 an12 cd12 ct12), sl12⟩)
    (c12 : PySem.W.codeIn K cd12 "_law_take" = true) (k12 : PySem.W.keepIn K (.ref f12) = true)
    (a13 : PySem.W.nsIn K mainGlobals "_law_told" = some (some (.ref f13)))
    (l13 : K.lookup f13 = some ⟨oc13, od13, .func (PySem.W.fnOf "_law_told" "_law_told" (defArgs s_l_told) (defBody s_l_told) (defScope s_l_told) .none kV13 dc13 pm13 an13 cd13 ct13), sl13⟩)
    (c13 : PySem.W.codeIn K cd13 "_law_told" = true) (k13 : PySem.W.keepIn K (.ref f13) = true)
    (a14 : PySem.W.nsIn K mainGlobals "_law_group_links" = some (some (.ref f14)))
    (l14 : K.lookup f14 = some ⟨oc14, od14, .func (PySem.W.fnOf "_law_group_links" "_law_group_links" (defArgs s_l_group_links) (defBody s_l_group_links) (defScope s_l_group_links) .none kV14 dc14 pm14 an14 cd14 ct14), sl14⟩)
    (c14 : PySem.W.codeIn K cd14 "_law_group_links" = true) (k14 : PySem.W.keepIn K (.ref f14) = true)
    (a15 : PySem.W.nsIn K mainGlobals "_law_due" = some (some (.ref f15)))
    (l15 : K.lookup f15 = some ⟨oc15, od15, .func (PySem.W.fnOf "_law_due" "_law_due" (defArgs s_l_due20) (defBody s_l_due20) (defScope s_l_due20) .none kV15 dc15 pm15 an15 cd15 ct15), sl15⟩)
    (c15 : PySem.W.codeIn K cd15 "_law_due" = true) (k15 : PySem.W.keepIn K (.ref f15) = true)
    (a16 : PySem.W.nsIn K mainGlobals "_law_parents" = some (some (.ref f16)))
    (l16 : K.lookup f16 = some ⟨oc16, od16, .func (PySem.W.fnOf "_law_parents" "_law_parents" (defArgs s_l_parents) (defBody s_l_parents) (defScope s_l_parents) .none kV16 dc16 pm16 an16 cd16 ct16), sl16⟩)
    (c16 : PySem.W.codeIn K cd16 "_law_parents" = true) (k16 : PySem.W.keepIn K (.ref f16) = true)
    (a17 : PySem.W.nsIn K mainGlobals "_law_bad" = some (some (.ref f17)))
    (l17 : K.lookup f17 = some ⟨oc17, od17, .func (PySem.W.fnOf "_law_bad" "_law_bad" (defArgs s_l_bad) (defBody s_l_bad) (defScope s_l_bad) .none kV17 dc17 pm17 an17 cd17 ct17), sl17⟩)
    (c17 : PySem.W.codeIn K cd17 "_law_bad" = true) (k17 : PySem.W.keepIn K (.ref f17) = true)
    (a18 : PySem.W.nsIn K mainGlobals "law" = some (some (.ref f18)))
    (l18 : K.lookup f18 = some ⟨oc18, od18, .func (PySem.W.fnOf "law" "law" (defArgs s_law20) (defBody s_law20) (defScope s_law20) .none kV18 dc18 pm18 an18 cd18 ct18), sl18⟩)
    (c18 : PySem.W.codeIn K cd18 "law" = true) (k18 : PySem.W.keepIn K (.ref f18) = true)
    {t_c_MAX_CHANNELS : Tok} (c_MAX_CHANNELS : PySem.W.nsIn K mainGlobals "MAX_CHANNELS" = some (some (.int 400 t_c_MAX_CHANNELS)))
    {t_c_MAX_LANES : Tok} (c_MAX_LANES : PySem.W.nsIn K mainGlobals "MAX_LANES" = some (some (.int 8 t_c_MAX_LANES)))
    {t_c_MAX_NODES : Tok} (c_MAX_NODES : PySem.W.nsIn K mainGlobals "MAX_NODES" = some (some (.int 64 t_c_MAX_NODES)))
    {xaFabricError : Addr} (xnFabricError : PySem.W.nsIn K mainGlobals "FabricError" = some (some (.ref xaFabricError))) (xeFabricError : PySem.W.excIn K xaFabricError [.type "ValueError", .type "Exception", .type "BaseException", .type "object"] "ValueError.__new__" = true) (xkFabricError : PySem.W.keepIn K (.ref xaFabricError) = true)
    (xbFabricError : PySem.W.subIn K (.ref xaFabricError) (.type "BaseException") = some true) (xtFabricError : PySem.W.typeIn K (.ref xaFabricError) = some (.type "type")) (xiFabricError : PySem.W.isClsIn K xaFabricError = true) (xsFabricError : PySem.W.subIn K (.ref xaFabricError) (.ref xaFabricError) = some true)
    {xaNotAllowed : Addr} (xnNotAllowed : PySem.W.nsIn K mainGlobals "NotAllowed" = some (some (.ref xaNotAllowed))) (xeNotAllowed : PySem.W.excIn K xaNotAllowed [.type "ValueError", .type "Exception", .type "BaseException", .type "object"] "ValueError.__new__" = true) (xkNotAllowed : PySem.W.keepIn K (.ref xaNotAllowed) = true)
    (xbNotAllowed : PySem.W.subIn K (.ref xaNotAllowed) (.type "BaseException") = some true) (xtNotAllowed : PySem.W.typeIn K (.ref xaNotAllowed) = some (.type "type")) (xiNotAllowed : PySem.W.isClsIn K xaNotAllowed = true) (xsNotAllowed : PySem.W.subIn K (.ref xaNotAllowed) (.ref xaNotAllowed) = some true)
    (z_all : PySem.W.nsIn K mainGlobals "all" = some none)
    (z_any : PySem.W.nsIn K mainGlobals "any" = some none)
    (z_bool : PySem.W.nsIn K mainGlobals "bool" = some none)
    (z_enumerate : PySem.W.nsIn K mainGlobals "enumerate" = some none)
    (z_int : PySem.W.nsIn K mainGlobals "int" = some none)
    (z_isinstance : PySem.W.nsIn K mainGlobals "isinstance" = some none)
    (z_len : PySem.W.nsIn K mainGlobals "len" = some none)
    (z_list : PySem.W.nsIn K mainGlobals "list" = some none)
    (z_range : PySem.W.nsIn K mainGlobals "range" = some none)
    (z_sorted : PySem.W.nsIn K mainGlobals "sorted" = some none)
    (z_tuple : PySem.W.nsIn K mainGlobals "tuple" = some none)
    (iiNotAllowedFabricError : PySem.W.subIn K (.ref xaNotAllowed) (.ref xaFabricError) = some true)
    (qaNotAllowed : PySem.W.findIn K (.ref xaNotAllowed) "__getattribute__" = some (some (.builtin "BaseException.__getattribute__"))) (qbNotAllowed : PySem.W.findIn K (.ref xaNotAllowed) "__getattr__" = some none) (qdNotAllowed : PySem.W.hasDictIn K xaNotAllowed = true)
    (qeNotAllowed : PySem.W.findIn K (.ref xaNotAllowed) "__class__" = some (some (.builtin "object.__class__"))) (qfNotAllowed : PySem.W.specialIn K (.builtin "object.__class__") "__get__" = some (some (.builtin "getset_descriptor.__get__"))) (qgNotAllowed : PySem.W.takesIn K (.builtin "object.__class__") = some true) (qhNotAllowed : PySem.W.mroIn K xaNotAllowed (.type "object") = some true)
    : ∃ fd : FuncData, (∀ (s : Shared) (v : Value), BindsTo s fd ⟨[v], []⟩ [("_law_script", v)]) ∧ ∀ base : Heap, K.In base → base.Ns mainGlobals mg → FnOk l.prog w K mg base CX0 5 fa fd ["_law_script"] (WL.spLaw K) := by
  have e := hfa.symm.trans (PySem.W.mg_of X G a18)
  cases e
  have F0 := fun_mk (st := s_p_is_numberD) l0 c0 k0
  have b0 := F0.binds (ps := ["value", "least", "most"]) fun _ _ _ _ _ _ us hl => match us, hl with | [_, _, _], _ => rfl
  have F1 := fun_mk (st := s_p_is_link) l1 c1 k1
  have b1 := F1.binds (ps := ["value", "n"]) fun _ _ _ _ _ _ us hl => match us, hl with | [_, _], _ => rfl
  have F2 := fun_mk (st := s_p_is_frame) l2 c2 k2
  have b2 := F2.binds (ps := ["value"]) fun _ _ _ _ _ _ us hl => match us, hl with | [_], _ => rfl
  have F3 := fun_mk (st := s_p_made) l3 c3 k3
  have b3 := F3.binds (ps := ["n", "links"]) fun _ _ _ _ _ _ us hl => match us, hl with | [_, _], _ => rfl
  have F4 := fun_mk (st := s_p_line) l4 c4 k4
  have b4 := F4.binds (ps := ["n"]) fun _ _ _ _ _ _ us hl => match us, hl with | [_], _ => rfl
  have F5 := fun_mk (st := s_p_ring) l5 c5 k5
  have b5 := F5.binds (ps := ["n"]) fun _ _ _ _ _ _ us hl => match us, hl with | [_], _ => rfl
  have F6 := fun_mk (st := s_p_complete) l6 c6 k6
  have b6 := F6.binds (ps := ["n"]) fun _ _ _ _ _ _ us hl => match us, hl with | [_], _ => rfl
  have F7 := fun_mk (st := s_p_star) l7 c7 k7
  have b7 := F7.binds (ps := ["n"]) fun _ _ _ _ _ _ us hl => match us, hl with | [_], _ => rfl
  have F8 := fun_mk (st := s_p_tree) l8 c8 k8
  have b8 := F8.binds (ps := ["parents"]) fun _ _ _ _ _ _ us hl => match us, hl with | [_], _ => rfl
  have F9 := fun_mk (st := s_p_groups) l9 c9 k9
  have b9 := F9.binds (ps := ["count", "size"]) fun _ _ _ _ _ _ us hl => match us, hl with | [_, _], _ => rfl
  have F10 := fun_mk (st := s_l_mix) l10 c10 k10
  have b10 := F10.binds (ps := ["_law_number"]) fun _ _ _ _ _ _ us hl => match us, hl with | [_], _ => rfl
  have F11 := fun_mk (st := s_l_tape) l11 c11 k11
  have b11 := F11.binds (ps := ["_law_script", "_law_budget"]) fun _ _ _ _ _ _ us hl => match us, hl with | [_, _], _ => rfl
  have F12 := fun_mk (st := s_l_take) l12 c12 k12
  have b12 := F12.binds (ps := ["_law_tape_here", "_law_many"]) fun _ _ _ _ _ _ us hl => match us, hl with | [_, _], _ => rfl
  have F13 := fun_mk (st := s_l_told) l13 c13 k13
  have b13 := F13.binds (ps := ["_law_word", "_law_first", "_law_second"]) fun _ _ _ _ _ _ us hl => match us, hl with | [_, _, _], _ => rfl
  have F14 := fun_mk (st := s_l_group_links) l14 c14 k14
  have b14 := F14.binds (ps := ["_law_count", "_law_size"]) fun _ _ _ _ _ _ us hl => match us, hl with | [_, _], _ => rfl
  have F15 := fun_mk (st := s_l_due20) l15 c15 k15
  have b15 := F15.binds (ps := ["_law_word", "_law_first", "_law_second"]) fun _ _ _ _ _ _ us hl => match us, hl with | [_, _, _], _ => rfl
  have F16 := fun_mk (st := s_l_parents) l16 c16 k16
  have b16 := F16.binds (ps := ["_law_tape_here"]) fun _ _ _ _ _ _ us hl => match us, hl with | [_], _ => rfl
  have F17 := fun_mk (st := s_l_bad) l17 c17 k17
  have b17 := F17.binds (ps := ["_law_tape_here", "_law_frame"]) fun _ _ _ _ _ _ us hl => match us, hl with | [_, _], _ => rfl
  have F18 := fun_mk (st := s_law20) l18 c18 k18
  have b18 := F18.binds (ps := ["_law_script"]) fun _ _ _ _ _ _ us hl => match us, hl with | [_], _ => rfl
  let T : Tx K mg := ⟨_, _, F0, b0, PySem.W.mg_of X G a0, _, _, F1, b1, PySem.W.mg_of X G a1, _, _, F2, b2, PySem.W.mg_of X G a2, _, _, F3, b3, PySem.W.mg_of X G a3, _, _, F4, b4, PySem.W.mg_of X G a4, _, _, F5, b5, PySem.W.mg_of X G a5, _, _, F6, b6, PySem.W.mg_of X G a6, _, _, F7, b7, PySem.W.mg_of X G a7, _, _, F8, b8, PySem.W.mg_of X G a8, _, _, F9, b9, PySem.W.mg_of X G a9, _, _, F10, b10, PySem.W.mg_of X G a10, _, _, F11, b11, PySem.W.mg_of X G a11, _, _, F12, b12, PySem.W.mg_of X G a12, _, _, F13, b13, PySem.W.mg_of X G a13, _, _, F14, b14, PySem.W.mg_of X G a14, _, _, F15, b15, PySem.W.mg_of X G a15, _, _, F16, b16, PySem.W.mg_of X G a16, _, _, F17, b17, PySem.W.mg_of X G a17, _, _, F18, b18, PySem.W.mg_of X G a18, _, PySem.W.mg_of X G c_MAX_CHANNELS, _, PySem.W.mg_of X G c_MAX_LANES, _, PySem.W.mg_of X G c_MAX_NODES, _, ⟨PySem.W.mg_of X G xnFabricError, xeFabricError, xkFabricError, xbFabricError, xtFabricError, exm_self xbFabricError xiFabricError xtFabricError xsFabricError⟩, _, ⟨PySem.W.mg_of X G xnNotAllowed, xeNotAllowed, xkNotAllowed, xbNotAllowed, xtNotAllowed, exm_self xbNotAllowed xiNotAllowed xtNotAllowed xsNotAllowed⟩, PySem.W.mg_none_of X G z_all, PySem.W.mg_none_of X G z_any, PySem.W.mg_none_of X G z_bool, PySem.W.mg_none_of X G z_enumerate, PySem.W.mg_none_of X G z_int, PySem.W.mg_none_of X G z_isinstance, PySem.W.mg_none_of X G z_len, PySem.W.mg_none_of X G z_list, PySem.W.mg_none_of X G z_range, PySem.W.mg_none_of X G z_sorted, PySem.W.mg_none_of X G z_tuple, kit_of iiNotAllowedFabricError xiFabricError xtFabricError, ⟨qaNotAllowed, qbNotAllowed, xbNotAllowed, qdNotAllowed, qeNotAllowed, qfNotAllowed, qgNotAllowed, qhNotAllowed⟩⟩
  exact ⟨_, fun s v => .of_eq rfl, fun base _ _ => ok_law20 T hm_law20⟩
end Cf
open PySem PySem.W PyProof.Rows
set_option maxHeartbeats 0 in
theorem PySem.Challenge.cw_calmfabric_k20_frames_holds : PySem.Challenge.rw_calmfabric_k20_frames.Holds := by
  w_on; o_law; k_head; (case hw => w_witness2)
  k_fill
  refine L2.walk_ofK (l := PySem.Challenge.rw_calmfabric_k20_frames) (n := 63) (k := 5) (x := "_law_script") (CX := L2.CX0) (sp := WL.spLaw) rfl (by decide) rfl ⟨rfl, by decide, by decide⟩ (fun w h Y => PySem.W.kIn_of Y) ?F (fun K H a ns hl hO hS => WL.law_start K H a ns hS) (fun _ _ _ _ h => h)
  case F =>
    intro w mg fa h KX G hmg
    refine' Cf.all_mk KX G hmg (a0 := ?a0) (l0 := ?l0) (c0 := ?c0) (k0 := ?k0) (a1 := ?a1) (l1 := ?l1) (c1 := ?c1) (k1 := ?k1) (a2 := ?a2) (l2 := ?l2) (c2 := ?c2) (k2 := ?k2) (a3 := ?a3) (l3 := ?l3) (c3 := ?c3) (k3 := ?k3) (a4 := ?a4) (l4 := ?l4) (c4 := ?c4) (k4 := ?k4) (a5 := ?a5) (l5 := ?l5) (c5 := ?c5) (k5 := ?k5) (a6 := ?a6) (l6 := ?l6) (c6 := ?c6) (k6 := ?k6) (a7 := ?a7) (l7 := ?l7) (c7 := ?c7) (k7 := ?k7) (a8 := ?a8) (l8 := ?l8) (c8 := ?c8) (k8 := ?k8) (a9 := ?a9) (l9 := ?l9) (c9 := ?c9) (k9 := ?k9) (a10 := ?a10) (l10 := ?l10) (c10 := ?c10) (k10 := ?k10) (a11 := ?a11) (l11 := ?l11) (c11 := ?c11) (k11 := ?k11) (a12 := ?a12) (l12 := ?l12) (c12 := ?c12) (k12 := ?k12) (a13 := ?a13) (l13 := ?l13) (c13 := ?c13) (k13 := ?k13) (a14 := ?a14) (l14 := ?l14) (c14 := ?c14) (k14 := ?k14) (a15 := ?a15) (l15 := ?l15) (c15 := ?c15) (k15 := ?k15) (a16 := ?a16) (l16 := ?l16) (c16 := ?c16) (k16 := ?k16) (a17 := ?a17) (l17 := ?l17) (c17 := ?c17) (k17 := ?k17) (a18 := ?a18) (l18 := ?l18) (c18 := ?c18) (k18 := ?k18) (c_MAX_CHANNELS := ?c_MAX_CHANNELS) (c_MAX_LANES := ?c_MAX_LANES) (c_MAX_NODES := ?c_MAX_NODES) (z_all := ?z_all) (z_any := ?z_any) (z_bool := ?z_bool) (z_enumerate := ?z_enumerate) (z_int := ?z_int) (z_isinstance := ?z_isinstance) (z_len := ?z_len) (z_list := ?z_list) (z_range := ?z_range) (z_sorted := ?z_sorted) (z_tuple := ?z_tuple) (xnFabricError := ?xnFabricError) (xeFabricError := ?xeFabricError) (xkFabricError := ?xkFabricError) (xbFabricError := ?xbFabricError) (xtFabricError := ?xtFabricError) (xiFabricError := ?xiFabricError) (xsFabricError := ?xsFabricError) (xnNotAllowed := ?xnNotAllowed) (xeNotAllowed := ?xeNotAllowed) (xkNotAllowed := ?xkNotAllowed) (xbNotAllowed := ?xbNotAllowed) (xtNotAllowed := ?xtNotAllowed) (xiNotAllowed := ?xiNotAllowed) (xsNotAllowed := ?xsNotAllowed) (iiNotAllowedFabricError := ?iiNotAllowedFabricError) (qaNotAllowed := ?qaNotAllowed) (qbNotAllowed := ?qbNotAllowed) (qdNotAllowed := ?qdNotAllowed) (qeNotAllowed := ?qeNotAllowed) (qfNotAllowed := ?qfNotAllowed) (qgNotAllowed := ?qgNotAllowed) (qhNotAllowed := ?qhNotAllowed)
    (case xnFabricError => k_is)
    (case xeFabricError => k_exc)
    (case xnNotAllowed => k_is)
    (case xeNotAllowed => k_exc)
    any_goals k_is
    all_goals rfl
