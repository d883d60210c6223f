import PyProof.Rows.All
import Wide.All
import OpenK.AllK
import Wide.FinOn
import HandS.ForMost
import HandS.Zip
import HandS.Iter
import HandS.Conv
import HandS.Rev
import HandS.RevRange
import HandS.TupAny
import HandS.IsInst
import KE.SortData
import KE.DataMinMax
import KE.DataEq
import KE.DataCmp
import KE.KDictKeyed
import HandS.Wide
import HandS.TupMul
import PyProof.StrBlock2
import PyProof.Rows.ListMulArg
import HandS.Flt
import HandS.Text
import KE.GoesMore
import KE.GoesEnum
import KE.KeyNested
import KE.KDictLaw
import KE.KDictWalk
import HandS.DictComp
import KE.LtData
import PySem.Challenge.RW_soundsalike_k53_count_against
set_option Elab.async false
set_option linter.all false
set_option maxRecDepth 100000
set_option autoImplicit false
/-! PD: a layer of plain data over the hand layer. What a value reads as (Rep), what is owned by a name (Slot), heaps that only grow (Ext). -/
namespace PD
open PySem PySem.Spec PyProof.Rows L2


abbrev D := PyData

/-! ### keys -/
mutual
def keyOf : D → Option NestedKey
  | .none => some .none
  | .bool b => some (.num (if b = true then 1 else 0))
  | .int i => some (.num i)
  | .str x => some (.text x)
  | .tuple ds => (keysOf ds).map .tup
  | .list _ => none
  | .dict _ => none
def keysOf : List D → Option (List NestedKey)
  | [] => some []
  | d :: ds => (keyOf d).bind fun k => (keysOf ds).map fun ks => k :: ks
end

/-- not a text -/
def topOk : NestedKey → Bool
  | .text _ => false
  | _ => true
/-- the key that a value is, where a dict may have it -/
def kD (d : D) : Option NestedKey := (keyOf d).bind fun k => if k.depth ≤ 8 ∧ topOk k = true then some k else none
theorem kD_some {d : D} {k : NestedKey} (h : kD d = some k) : keyOf d = some k ∧ k.depth ≤ 8 ∧ topOk k = true := by
  unfold kD at h
  obtain ⟨k', h1, h2⟩ := Option.bind_eq_some_iff.mp h
  split at h2
  · rename_i z
    cases h2
    exact ⟨h1, z⟩
  · cases h2
/-- a dict: its entries' keys as data, as values, and their values -/
abbrev DL := List (NestedKey × V × V)
def DEnt (w : World) (p : NestedKey × V × V) (e : DictEntry) : Prop := e.hash = p.1.hash w ∧ RelV p.2.1 e.key ∧ RelV p.2.2 e.val
def dictP (w : World) (a : Addr) (L : DL) (h : Heap) : Prop :=
  (a == sysModules) = false ∧ ∃ (o : Obj) (es : Array DictEntry) (ep : Nat), h.get? a = some o ∧ o.ExactDict ∧ o.data = .dict es ep ∧ Paired (DEnt w) L es.toList ∧ (L.map (·.1)).Nodup
def dictO (w : World) (a : Addr) (L : DL) : HO := .ext (dictP w a L)

/-! ### what a value reads as -/
section
variable (w : World) (K : PySem.W.Frag)
mutual
inductive Rep (F : Hp) : V → D → Prop
  | non : Rep F .non .none
  | bl (b : Bool) : Rep F (.bl b) (.bool b)
  | int (i : Int) : Rep F (.int i) (.int i)
  | str (x : Str) : Rep F (.str x) (.str x)
  | tup {a : Addr} {vs : List V} {ds : List D} : SqT K F a vs → Reps F vs ds → Rep F (.ref a) (.tuple ds)
  | lst {a : Addr} {vs : List V} {ds : List D} : SqL K F a vs → Reps F vs ds → Rep F (.ref a) (.list ds)
  | dct {a : Addr} {od : Obj} {L : DL} {kvs : List (D × D)} : F a = some (.frz od (dictO w a L)) → RepE F L kvs → Rep F (.ref a) (.dict kvs)
inductive Reps (F : Hp) : List V → List D → Prop
  | nil : Reps F [] []
  | cons {v : V} {vs : List V} {d : D} {ds : List D} : Rep F v d → Reps F vs ds → Reps F (v :: vs) (d :: ds)
inductive RepE (F : Hp) : DL → List (D × D) → Prop
  | nil : RepE F [] []
  | cons {k : NestedKey} {kv vv : V} {L : DL} {kd vd : D} {r : List (D × D)} : kD kd = some k → Rep F kv kd → Rep F vv vd → RepE F L r → RepE F ((k, kv, vv) :: L) ((kd, vd) :: r)
end
end

section
variable {w : World} {K : PySem.W.Frag} {F F' : Hp}
theorem SqT.mono {a : Addr} {xs : List V} (e : Same F F') (h : SqT K F a xs) : SqT K F' a xs := by
  rcases h with (h | ⟨o, h⟩) | h
  · exact .inl (.inl (e _ _ h))
  · exact .inl (.inr ⟨o, e _ _ h⟩)
  · exact .inr h
mutual
theorem Rep.mono (e : Same F F') : ∀ {v : V} {d : D}, Rep w K F v d → Rep w K F' v d
  | _, _, .non => .non
  | _, _, .bl b => .bl b
  | _, _, .int i => .int i
  | _, _, .str x => .str x
  | _, _, .tup h r => .tup (SqT.mono e h) (Reps.mono e r)
  | _, _, .lst h r => .lst (e.seq h) (Reps.mono e r)
  | _, _, .dct h r => .dct (e _ _ h) (RepE.mono e r)
theorem Reps.mono (e : Same F F') : ∀ {vs : List V} {ds : List D}, Reps w K F vs ds → Reps w K F' vs ds
  | _, _, .nil => .nil
  | _, _, .cons h t => .cons (Rep.mono e h) (Reps.mono e t)
theorem RepE.mono (e : Same F F') : ∀ {L : DL} {kvs : List (D × D)}, RepE w K F L kvs → RepE w K F' L kvs
  | _, _, .nil => .nil
  | _, _, .cons a b c d => .cons a (Rep.mono e b) (Rep.mono e c) (RepE.mono e d)
end
theorem Reps.length : ∀ {vs : List V} {ds : List D}, Reps w K F vs ds → vs.length = ds.length
  | _, _, .nil => rfl
  | _, _, .cons _ t => by rw [List.length_cons, List.length_cons, Reps.length t]
theorem Reps.get : ∀ {vs : List V} {ds : List D}, Reps w K F vs ds → ∀ {i : Nat} {d : D}, ds[i]? = some d → ∃ v, vs[i]? = some v ∧ Rep w K F v d
  | _, _, .nil, i, d, h => by simp at h
  | _, _, .cons (v := v) r t, 0, d, h => by
    simp only [List.getElem?_cons_zero, Option.some.injEq] at h
    subst h
    exact ⟨v, rfl, r⟩
  | _, _, .cons _ t, i + 1, d, h => by
    simp only [List.getElem?_cons_succ] at h ⊢
    exact Reps.get t h
theorem Reps.get' : ∀ {vs : List V} {ds : List D}, Reps w K F vs ds → ∀ {i : Nat} {v : V}, vs[i]? = some v → ∃ d, ds[i]? = some d ∧ Rep w K F v d
  | _, _, .nil, i, d, h => by simp at h
  | _, _, .cons (d := d) r t, 0, v, h => by
    simp only [List.getElem?_cons_zero, Option.some.injEq] at h
    subst h
    exact ⟨d, rfl, r⟩
  | _, _, .cons _ t, i + 1, v, h => by
    simp only [List.getElem?_cons_succ] at h ⊢
    exact Reps.get' t h
theorem Reps.append : ∀ {vs ws : List V} {ds es : List D}, Reps w K F vs ds → Reps w K F ws es → Reps w K F (vs ++ ws) (ds ++ es)
  | _, _, _, _, .nil, s => s
  | _, _, _, _, .cons r t, s => .cons r (Reps.append t s)
theorem Reps.one {v : V} {d : D} (r : Rep w K F v d) : Reps w K F [v] [d] := .cons r .nil
theorem Reps.take : ∀ {vs : List V} {ds : List D} (n : Nat), Reps w K F vs ds → Reps w K F (vs.take n) (ds.take n)
  | _, _, 0, _ => by simp only [List.take_zero]; exact .nil
  | _, _, n + 1, .nil => .nil
  | _, _, n + 1, .cons r t => .cons r (Reps.take n t)
theorem Reps.drop : ∀ {vs : List V} {ds : List D} (n : Nat), Reps w K F vs ds → Reps w K F (vs.drop n) (ds.drop n)
  | _, _, 0, r => by simpa using r
  | _, _, n + 1, .nil => .nil
  | _, _, n + 1, .cons r t => Reps.drop n t
theorem Reps.reverse : ∀ {vs : List V} {ds : List D}, Reps w K F vs ds → Reps w K F vs.reverse ds.reverse
  | _, _, .nil => .nil
  | _, _, .cons r t => by
    rw [List.reverse_cons, List.reverse_cons]
    exact Reps.append (Reps.reverse t) (.one r)
theorem Reps.set {v : V} {d : D} (q : Rep w K F v d) : ∀ {vs : List V} {ds : List D} (i : Nat), Reps w K F vs ds → Reps w K F (vs.set i v) (ds.set i d)
  | _, _, _, .nil => .nil
  | _, _, 0, .cons _ t => .cons q t
  | _, _, i + 1, .cons r t => .cons r (Reps.set q i t)
theorem Reps.ints : ∀ (ns : List Int), Reps w K F (ns.map V.int) (ns.map PyData.int)
  | [] => .nil
  | n :: ns => .cons (.int n) (Reps.ints ns)
theorem Reps.replicate {v : V} {d : D} (q : Rep w K F v d) : ∀ n : Nat, Reps w K F (List.replicate n v) (List.replicate n d)
  | 0 => .nil
  | n + 1 => .cons q (Reps.replicate q n)
/-- inversion -/
theorem Rep.int_inv {v : V} {i : Int} (r : Rep w K F v (.int i)) : v = .int i := by cases r; rfl
theorem Rep.str_inv {v : V} {x : Str} (r : Rep w K F v (.str x)) : v = .str x := by cases r; rfl
theorem Rep.bool_inv {v : V} {b : Bool} (r : Rep w K F v (.bool b)) : v = .bl b := by cases r; rfl
theorem Rep.none_inv {v : V} (r : Rep w K F v .none) : v = .non := by cases r; rfl
theorem Rep.tup_inv {v : V} {ds : List D} (r : Rep w K F v (.tuple ds)) : ∃ a vs, v = .ref a ∧ SqT K F a vs ∧ Reps w K F vs ds := by
  cases r with
  | tup h q => exact ⟨_, _, rfl, h, q⟩
theorem Rep.lst_inv {v : V} {ds : List D} (r : Rep w K F v (.list ds)) : ∃ a vs, v = .ref a ∧ SqL K F a vs ∧ Reps w K F vs ds := by
  cases r with
  | lst h q => exact ⟨_, _, rfl, h, q⟩
theorem Rep.dct_inv {v : V} {kvs : List (D × D)} (r : Rep w K F v (.dict kvs)) : ∃ a L od, v = .ref a ∧ F a = some (.frz od (dictO w a L)) ∧ RepE w K F L kvs := by
  cases r with
  | dct h q => exact ⟨_, _, _, rfl, h, q⟩
theorem Reps.ints_inv : ∀ {vs : List V} {ns : List Int}, Reps w K F vs (ns.map PyData.int) → vs = ns.map V.int
  | _, [], .nil => rfl
  | _, n :: ns, .cons r t => by rw [r.int_inv, Reps.ints_inv t]; rfl
theorem Reps.strs_inv : ∀ {vs : List V} {ns : List Str}, Reps w K F vs (ns.map PyData.str) → vs = ns.map V.str
  | _, [], .nil => rfl
  | _, n :: ns, .cons r t => by rw [r.str_inv, Reps.strs_inv t]; rfl
theorem Reps.bools_inv : ∀ {vs : List V} {ns : List Bool}, Reps w K F vs (ns.map PyData.bool) → vs = ns.map V.bl
  | _, [], .nil => rfl
  | _, n :: ns, .cons r t => by rw [r.bool_inv, Reps.bools_inv t]; rfl
end

/-! ### heaps that grow -/
/-- from F within H to F' within H': all that was tracked is kept, what is newly frozen is new -/
structure Ext (F H F' H' : Hp) : Prop where
  f : Same F F'
  h : Same H H'
  s : Same F' H'
  n : ∀ a, H a ≠ none → F' a = F a
section
variable {F H F' H' F2 H2 : Hp}
theorem Ext.refl (e : Same F H) : Ext F H F H := ⟨Same.refl _, Same.refl _, e, fun _ _ => rfl⟩
theorem Ext.trans (a : Ext F H F' H') (b : Ext F' H' F2 H2) : Ext F H F2 H2 := by
  refine ⟨a.f.trans b.f, a.h.trans b.h, b.s, fun c hc => ?_⟩
  have : H' c ≠ none := fun q => hc (a.h.free q)
  rw [b.n c this, a.n c hc]
theorem Ext.none_of {a : Addr} {o : HO} (e : Ext F H F' H') (h : H a = some o) (f : F a = none) : F' a = none := by
  rw [e.n a (by rw [h]; simp)]; exact f
/-- a new object, frozen -/
theorem Ext.new {p : Addr} {o : HO} (e : Same F H) (n : H p = none) : Ext F H (upd F p o) (upd H p o) := by
  have nf : F p = none := e.free n
  refine ⟨fun b x q => ?_, fun b x q => ?_, fun b x q => ?_, fun b hb => ?_⟩
  · rw [upd_ne (ne_of_none q nf)]; exact q
  · rw [upd_ne (ne_of_none q n)]; exact q
  · by_cases hb : b = p
    · subst hb; rw [upd_same] at q ⊢; exact q
    · rw [upd_ne hb] at q ⊢; exact e _ _ q
  · have : b ≠ p := fun z => hb (by rw [z]; exact n)
    rw [upd_ne this]
/-- a new object, not frozen -/
theorem Ext.grow {p : Addr} {o : HO} (e : Same F H) (n : H p = none) : Ext F H F (upd H p o) := by
  refine ⟨Same.refl _, fun b x q => ?_, fun b x q => ?_, fun b hb => rfl⟩
  · rw [upd_ne (ne_of_none q n)]; exact q
  · rw [upd_ne (ne_of_none (e _ _ q) n)]; exact e _ _ q
/-- what is new is frozen behind -/
theorem Ext.freeze {p : Addr} {o : HO} (e : Ext F H F' H') (n : H p = none) (nf : F' p = none) (h : H' p = some o) : Ext F H (upd F' p o) H' := by
  refine ⟨fun b x q => ?_, e.h, fun b x q => ?_, fun b hb => ?_⟩
  · rw [upd_ne (ne_of_none (e.f _ _ q) nf)]; exact e.f _ _ q
  · by_cases hb : b = p
    · subst hb; rw [upd_same] at q; rw [h]; exact q
    · rw [upd_ne hb] at q; exact e.s _ _ q
  · have : b ≠ p := fun z => hb (by rw [z]; exact n)
    rw [upd_ne this]; exact e.n _ hb
theorem same_upd {H : Hp} {p : Addr} {o : HO} (h : H p = none) : Same H (upd H p o) := fun b x e => by
  rw [upd_ne (ne_of_none e h)]; exact e
end

/-! ### names -/
inductive Slot where
  | un
  | val (d : D)
  | ol (ds : List D)
  | od (kvs : List (D × D))
abbrev Env := List Slot
def Slot.own : Slot → Bool
  | .ol _ => true
  | .od _ => true
  | _ => false

section
variable (w : World) (K : PySem.W.Frag)
def SlotAt (F H : Hp) (x : Option (Option V)) : Slot → Prop
  | .un => True
  | .val d => ∃ v, x = some (some v) ∧ Rep w K F v d
  | .ol ds => ∃ a vs, x = some (some (.ref a)) ∧ F a = none ∧ H a = some (.lst vs) ∧ Reps w K F vs ds
  | .od kvs => ∃ a L, x = some (some (.ref a)) ∧ F a = none ∧ H a = some (dictO w a L) ∧ RepE w K F L kvs
/-- what an expression may lean on -/
structure Sl (F : Hp) (σ : L2.St) (H : Hp) (ρ : Env) : Prop where
  same : Same F H
  len : ρ.length = σ.length
  slot : ∀ (i : Nat) (s : Slot), ρ[i]? = some s → SlotAt w K F H σ[i]? s
/-- what a statement may lean on: F0, B at the def's start -/
structure EnvOk (F0 B F : Hp) (σ : L2.St) (H : Hp) (ρ : Env) : Prop where
  sl : Sl w K F σ H ρ
  ext : Ext F0 B F H
  own : ∀ (i : Nat) (s : Slot) (a : Addr), ρ[i]? = some s → s.own = true → σ[i]? = some (some (.ref a)) → B a = none
  dis : ∀ (i j : Nat) (a : Addr) (s t : Slot), i ≠ j → ρ[i]? = some s → s.own = true → ρ[j]? = some t → t.own = true → σ[i]? = some (some (.ref a)) → σ[j]? ≠ some (some (.ref a))
end

section
variable {w : World} {K : PySem.W.Frag} {F H F' H' F0 B : Hp} {σ : L2.St} {ρ : Env}
theorem SlotAt.mono {x : Option (Option V)} {s : Slot} (e : Ext F H F' H') (h : SlotAt w K F H x s) : SlotAt w K F' H' x s := by
  cases s with
  | un => exact True.intro
  | val d => obtain ⟨v, a, b⟩ := h; exact ⟨v, a, b.mono e.f⟩
  | ol ds => obtain ⟨a, vs, h1, h2, h3, h4⟩ := h; exact ⟨a, vs, h1, e.none_of h3 h2, e.h _ _ h3, h4.mono e.f⟩
  | od kvs => obtain ⟨a, vs, h1, h2, h3, h4⟩ := h; exact ⟨a, vs, h1, e.none_of h3 h2, e.h _ _ h3, h4.mono e.f⟩
theorem Sl.mono (e : Ext F H F' H') (h : Sl w K F σ H ρ) : Sl w K F' σ H' ρ := ⟨e.s, h.len, fun i s q => (h.slot i s q).mono e⟩
theorem EnvOk.mono (e : Ext F H F' H') (h : EnvOk w K F0 B F σ H ρ) : EnvOk w K F0 B F' σ H' ρ := ⟨h.sl.mono e, h.ext.trans e, h.own, h.dis⟩
theorem SlotAt.ref {x : Option (Option V)} {s : Slot} (h : SlotAt w K F H x s) (o : s.own = true) : ∃ a u, x = some (some (.ref a)) ∧ F a = none ∧ H a = some u := by
  cases s with
  | un => cases o
  | val d => cases o
  | ol ds => obtain ⟨a, vs, h1, h2, h3, h4⟩ := h; exact ⟨a, _, h1, h2, h3⟩
  | od kvs => obtain ⟨a, vs, h1, h2, h3, h4⟩ := h; exact ⟨a, _, h1, h2, h3⟩

/-! ### peeks: a value that now reads so -/
inductive PRep (w : World) (K : PySem.W.Frag) (F H : Hp) : V → D → Prop
  | rep {v : V} {d : D} : Rep w K F v d → PRep w K F H v d
  | lst {a : Addr} {vs : List V} {ds : List D} : H a = some (.lst vs) → Reps w K F vs ds → PRep w K F H (.ref a) (.list ds)
  | dct {a : Addr} {L : DL} {kvs : List (D × D)} : H a = some (dictO w a L) → RepE w K F L kvs → PRep w K F H (.ref a) (.dict kvs)
inductive PReps (w : World) (K : PySem.W.Frag) (F H : Hp) : List V → List D → Prop
  | nil : PReps w K F H [] []
  | cons {v : V} {vs : List V} {d : D} {ds : List D} : PRep w K F H v d → PReps w K F H vs ds → PReps w K F H (v :: vs) (d :: ds)
theorem PRep.mono {v : V} {d : D} (e : Ext F H F' H') (h : PRep w K F H v d) : PRep w K F' H' v d := by
  cases h with
  | rep r => exact .rep (r.mono e.f)
  | lst a b => exact .lst (e.h _ _ a) (b.mono e.f)
  | dct a b => exact .dct (e.h _ _ a) (b.mono e.f)
theorem PReps.mono (e : Ext F H F' H') : ∀ {vs : List V} {ds : List D}, PReps w K F H vs ds → PReps w K F' H' vs ds
  | _, _, .nil => .nil
  | _, _, .cons h t => .cons (h.mono e) (PReps.mono e t)
theorem PReps.of : ∀ {vs : List V} {ds : List D}, Reps w K F vs ds → PReps w K F H vs ds
  | _, _, .nil => .nil
  | _, _, .cons h t => .cons (.rep h) (PReps.of t)
theorem PReps.length : ∀ {vs : List V} {ds : List D}, PReps w K F H vs ds → vs.length = ds.length
  | _, _, .nil => rfl
  | _, _, .cons h t => by rw [List.length_cons, List.length_cons, PReps.length t]
theorem PRep.now {v : V} {d : D} (e : Same F H) (h : PRep w K F H v d) (hd : ∀ kvs, d ≠ .dict kvs) : Rep w K H v d := by
  cases h with
  | rep r => exact r.mono e
  | lst a b => exact .lst (.inl (.inl a)) (b.mono e)
  | dct a b => exact absurd rfl (hd _)
theorem PRep.int_inv {v : V} {i : Int} (r : PRep w K F H v (.int i)) : v = .int i := by
  cases r with
  | rep r => exact r.int_inv
theorem PRep.str_inv {v : V} {i : Str} (r : PRep w K F H v (.str i)) : v = .str i := by
  cases r with
  | rep r => exact r.str_inv
theorem PRep.bool_inv {v : V} {i : Bool} (r : PRep w K F H v (.bool i)) : v = .bl i := by
  cases r with
  | rep r => exact r.bool_inv
theorem PRep.none_inv {v : V} (r : PRep w K F H v .none) : v = .non := by
  cases r with
  | rep r => exact r.none_inv
theorem PRep.tup_inv {v : V} {ds : List D} (e : Same F H) (r : PRep w K F H v (.tuple ds)) : ∃ a vs, v = .ref a ∧ SqT K H a vs ∧ Reps w K F vs ds := by
  cases r with
  | rep r => obtain ⟨a, vs, h1, h2, h3⟩ := r.tup_inv; exact ⟨a, vs, h1, SqT.mono e h2, h3⟩
theorem PRep.lst_inv {v : V} {ds : List D} (e : Same F H) (r : PRep w K F H v (.list ds)) : ∃ a vs, v = .ref a ∧ SqL K H a vs ∧ Reps w K F vs ds := by
  cases r with
  | rep r => obtain ⟨a, vs, h1, h2, h3⟩ := r.lst_inv; exact ⟨a, vs, h1, e.seq h2, h3⟩
  | lst a b => exact ⟨_, _, rfl, .inl (.inl a), b⟩
theorem PRep.dct_inv {v : V} {kvs : List (D × D)} (e : Same F H) (r : PRep w K F H v (.dict kvs)) : ∃ a L, v = .ref a ∧ (H a = some (dictO w a L) ∨ ∃ od, H a = some (.frz od (dictO w a L))) ∧ RepE w K F L kvs := by
  cases r with
  | rep r => obtain ⟨a, vs, od, h1, h2, h3⟩ := r.dct_inv; exact ⟨a, vs, h1, .inr ⟨od, e _ _ h2⟩, h3⟩
  | dct a b => exact ⟨_, _, rfl, .inl a, b⟩
end

/-! ### to the library's words -/
mutual
def plainD : D → Bool
  | .none => true
  | .bool _ => true
  | .int _ => true
  | .str _ => true
  | .tuple ds => plainDs ds
  | .list ds => plainDs ds
  | .dict _ => false
def plainDs : List D → Bool
  | [] => true
  | d :: ds => plainD d && plainDs ds
end
mutual
theorem plain_eq : ∀ d : D, plainD d = d.plain
  | .none => by simp [plainD, PyData.plain]
  | .bool _ => by simp [plainD, PyData.plain]
  | .int _ => by simp [plainD, PyData.plain]
  | .str _ => by simp [plainD, PyData.plain]
  | .tuple ds => by simp only [plainD, PyData.plain]; exact plains_eq ds
  | .list ds => by simp only [plainD, PyData.plain]; exact plains_eq ds
  | .dict _ => by simp [plainD, PyData.plain]
theorem plains_eq : ∀ ds : List D, plainDs ds = PyData.plainAll ds
  | [] => by simp [plainDs, PyData.plainAll]
  | d :: ds => by simp only [plainDs, PyData.plainAll, plain_eq d, plains_eq ds]
end
section
variable {w : World} {K : PySem.W.Frag} {F : Hp}
mutual
theorem Rep.dp : ∀ {v : V} {d : D}, plainD d = true → Rep w K F v d → Dp K F v d
  | _, _, _, .non => .non
  | _, _, _, .bl b => .bl b
  | _, _, _, .int i => .int i
  | _, _, _, .str x => .str x
  | _, _, p, .tup h r => .tup h (Reps.dp (by simpa [plainD] using p) r)
  | _, _, p, .lst h r => .lst h (Reps.dp (by simpa [plainD] using p) r)
  | _, _, p, .dct h r => by simp [plainD] at p
theorem Reps.dp : ∀ {vs : List V} {ds : List D}, plainDs ds = true → Reps w K F vs ds → DpAll K F vs ds
  | _, _, _, .nil => .nil
  | _, _, p, .cons h t => by
    rw [plainDs, Bool.and_eq_true] at p
    exact .cons (Rep.dp p.1 h) (Reps.dp p.2 t)
end
mutual
theorem Rep.of_dp : ∀ {v : V} {d : D}, Dp K F v d → Rep w K F v d
  | _, _, .non => .non
  | _, _, .bl b => .bl b
  | _, _, .int i => .int i
  | _, _, .str x => .str x
  | _, _, .tup h r => .tup h (Reps.of_dp r)
  | _, _, .lst h r => .lst h (Reps.of_dp r)
theorem Reps.of_dp : ∀ {vs : List V} {ds : List D}, DpAll K F vs ds → Reps w K F vs ds
  | _, _, .nil => .nil
  | _, _, .cons h t => .cons (Rep.of_dp h) (Reps.of_dp t)
end
theorem Rep.reads {X : Cx} {pins : List (Addr × Obj)} {σ : L2.St} {H : Hp} {s : Shared} (I : Inv X pins σ H s) {v : V} {d : D} {u : Value} (p : plainD d = true) (h : Rep X.w X.K H v d) (r : RelV v u) : ∃ as, Reads s.heap u d as :=
  Dp.reads I d v u (h.dp p) r
theorem Reps.reads {X : Cx} {pins : List (Addr × Obj)} {σ : L2.St} {H : Hp} {s : Shared} (I : Inv X pins σ H s) {vs : List V} {ds : List D} {us : List Value} (p : plainDs ds = true) (h : Reps X.w X.K H vs ds) (r : Vals vs us) : ∃ as, ReadsAll s.heap us ds as :=
  Dp.readsAll I ds vs us (h.dp p) r
end
end PD

/-! PD1: expressions over plain data. -/
namespace PD
open PySem PySem.Spec PyProof.Rows L2

/-! ### data that are compared: no dict, not deep -/
mutual
def okN : Nat → D → Bool
  | _, .none => true
  | _, .bool _ => true
  | _, .int _ => true
  | _, .str _ => true
  | 0, .tuple _ => false
  | n + 1, .tuple ds => okNs n ds
  | 0, .list _ => false
  | n + 1, .list ds => okNs n ds
  | _, .dict _ => false
def okNs : Nat → List D → Bool
  | _, [] => true
  | n, d :: ds => okN n d && okNs n ds
end
mutual
theorem okN_plain : ∀ (n : Nat) (d : D), okN n d = true → plainD d = true ∧ d.depth ≤ n
  | _, .none, _ => ⟨rfl, by simp [PyData.depth]⟩
  | _, .bool _, _ => ⟨rfl, by simp [PyData.depth]⟩
  | _, .int _, _ => ⟨rfl, by simp [PyData.depth]⟩
  | _, .str _, _ => ⟨rfl, by simp [PyData.depth]⟩
  | 0, .tuple _, h => by simp [okN] at h
  | n + 1, .tuple ds, h => by
    have := okNs_plain n ds (by simpa [okN] using h)
    exact ⟨by simpa [plainD] using this.1, by simp only [PyData.depth]; omega⟩
  | 0, .list _, h => by simp [okN] at h
  | n + 1, .list ds, h => by
    have := okNs_plain n ds (by simpa [okN] using h)
    exact ⟨by simpa [plainD] using this.1, by simp only [PyData.depth]; omega⟩
  | n, .dict _, h => by cases n <;> simp [okN] at h
theorem okNs_plain : ∀ (n : Nat) (ds : List D), okNs n ds = true → plainDs ds = true ∧ PyData.depthAll ds ≤ n
  | _, [], _ => ⟨rfl, by simp [PyData.depthAll]⟩
  | n, d :: ds, h => by
    rw [okNs, Bool.and_eq_true] at h
    have h1 := okN_plain n d h.1
    have h2 := okNs_plain n ds h.2
    exact ⟨by rw [plainDs, h1.1, h2.1]; rfl, by simp only [PyData.depthAll]; omega⟩
end
abbrev okD (d : D) : Bool := okN 40 d
abbrev okDs (ds : List D) : Bool := okNs 40 ds

/-! ### judgements -/
/-- an expression that gives plain data, frozen -/
structure DE (X : Cx) (e : Expr) (f : Env → Option D) : Prop where
  ex : ∃ t : TE, PE X e t ∧ ∀ (F : Hp) (σ : L2.St) (H : Hp) (ρ : Env) (d : D) (Q : VK), Sl X.w X.K F σ H ρ → f ρ = some d →
    (∀ v F' H', Ext F H F' H' → Rep X.w X.K F' v d → Q v H') → t σ H Q
/-- .. that may still be changed by its owner -/
structure DP (X : Cx) (e : Expr) (f : Env → Option D) : Prop where
  ex : ∃ t : TE, PE X e t ∧ ∀ (F : Hp) (σ : L2.St) (H : Hp) (ρ : Env) (d : D) (Q : VK), Sl X.w X.K F σ H ρ → f ρ = some d →
    (∀ v F' H', Ext F H F' H' → PRep X.w X.K F' H' v d → Q v H') → t σ H Q
/-- .. that is a new list -/
structure FL (X : Cx) (e : Expr) (f : Env → Option (List D)) : Prop where
  ex : ∃ t : TE, PE X e t ∧ ∀ (F : Hp) (σ : L2.St) (H : Hp) (ρ : Env) (ds : List D) (Q : VK), Sl X.w X.K F σ H ρ → f ρ = some ds →
    (∀ a vs F' H', Ext F H F' H' → H a = none → F' a = none → H' a = some (.lst vs) → Reps X.w X.K F' vs ds → Q (.ref a) H') → t σ H Q
structure FD (X : Cx) (e : Expr) (f : Env → Option (List (D × D))) : Prop where
  ex : ∃ t : TE, PE X e t ∧ ∀ (F : Hp) (σ : L2.St) (H : Hp) (ρ : Env) (kvs : List (D × D)) (Q : VK), Sl X.w X.K F σ H ρ → f ρ = some kvs →
    (∀ a L F' H', Ext F H F' H' → H a = none → F' a = none → H' a = some (dictO X.w a L) → RepE X.w X.K F' L kvs → Q (.ref a) H') → t σ H Q
/-- arguments -/
structure DA (X : Cx) (es : List Expr) (f : Env → Option (List D)) : Prop where
  ex : ∃ t : TA, PA X es t ∧ ∀ (F : Hp) (σ : L2.St) (H : Hp) (ρ : Env) (ds : List D) (Q : List V → Hp → Prop), Sl X.w X.K F σ H ρ → f ρ = some ds →
    (∀ vs F' H', Ext F H F' H' → PReps X.w X.K F' H' vs ds → Q vs H') → t σ H Q
structure DAE (X : Cx) (es : List Expr) (f : Env → Option (List D)) : Prop where
  ex : ∃ t : TA, PA X es t ∧ ∀ (F : Hp) (σ : L2.St) (H : Hp) (ρ : Env) (ds : List D) (Q : List V → Hp → Prop), Sl X.w X.K F σ H ρ → f ρ = some ds →
    (∀ vs F' H', Ext F H F' H' → Reps X.w X.K F' vs ds → Q vs H') → t σ H Q
/-- a test -/
structure DT (X : Cx) (e : Expr) (f : Env → Option Bool) : Prop where
  ex : ∃ t : TT, PT X e t ∧ ∀ (F : Hp) (σ : L2.St) (H : Hp) (ρ : Env) (b : Bool) (Q : Bool → Hp → Prop), Sl X.w X.K F σ H ρ → f ρ = some b →
    (∀ F' H', Ext F H F' H' → Q b H') → t σ H Q
/-- a test whatever its whole is -/
structure DW (X : Cx) (e : Expr) (f : Env → Option Bool) : Prop where
  ex : ∃ t : TT, PW X e t ∧ ∀ (F : Hp) (σ : L2.St) (H : Hp) (ρ : Env) (b : Bool) (Q : Bool → Hp → Prop), Sl X.w X.K F σ H ρ → f ρ = some b →
    (∀ F' H', Ext F H F' H' → Q b H') → t σ H Q

section
variable {X : Cx} {e a b c : Expr} {es : List Expr} {pos : Pos}

theorem DE.dp {f : Env → Option D} (h : DE X e f) : DP X e f := by
  obtain ⟨t, p, q⟩ := h.ex
  exact ⟨t, p, fun F σ H ρ d Q sl hf k => q F σ H ρ d Q sl hf fun v F' H' x r => k v F' H' x (.rep r)⟩
theorem FL.de {f : Env → Option (List D)} (h : FL X e f) : DE X e (fun ρ => (f ρ).map .list) := by
  obtain ⟨t, p, q⟩ := h.ex
  refine ⟨t, p, fun F σ H ρ d Q sl hf k => ?_⟩
  obtain ⟨ds, hds, rfl⟩ := Option.map_eq_some_iff.mp hf
  refine q F σ H ρ ds Q sl hds fun a vs F' H' x n nf ha r => ?_
  have x2 := x.freeze n nf ha
  exact k _ (upd F' a (.lst vs)) H' x2 (.lst (.inl (.inl upd_same)) (r.mono (same_upd nf)))
theorem FL.dp {f : Env → Option (List D)} (h : FL X e f) : DP X e (fun ρ => (f ρ).map .list) := h.de.dp
/-- .. and then the thing is locked -/
def tLk (t : TE) : TE := fun σ H Q => t σ H fun v H1 => ∃ a u, v = .ref a ∧ H1 a = some u ∧ Mut (some u) ∧ ∀ od, Q v (upd H1 a (.frz od u))
theorem pe_lk {t : TE} (h : PE X e t) : PE X e (tLk t) := by
  refine ⟨fun pins s σ H Q I hw => ?_⟩
  refine thn (h.run pins s σ H _ I hw) fun v s1 ⟨x, H1, I1, r1, a, u, ex, ha, mu, q⟩ => ?_
  obtain ⟨od, I2⟩ := I1.lock ha mu
  exact ⟨x, _, I2, r1, q od⟩
theorem Ext.lk {F H F' H' : Hp} {a : Addr} {o : HO} (x : Ext F H F' H') (n : H a = none) (nf : F' a = none) : Ext F H (upd F' a o) (upd H' a o) := by
  refine ⟨x.f.trans (same_upd nf), fun b u q => ?_, fun b u q => ?_, fun b hb => ?_⟩
  · rw [upd_ne (ne_of_none q n)]; exact x.h _ _ q
  · by_cases hb : b = a
    · subst hb; rw [upd_same] at q ⊢; exact q
    · rw [upd_ne hb] at q ⊢; exact x.s _ _ q
  · have : b ≠ a := fun z => hb (by rw [z]; exact n)
    rw [upd_ne this]; exact x.n _ hb
theorem FD.de {f : Env → Option (List (D × D))} (h : FD X e f) : DE X e (fun ρ => (f ρ).map .dict) := by
  obtain ⟨t, p, q⟩ := h.ex
  refine ⟨_, pe_lk p, fun F σ H ρ d Q sl hf k => ?_⟩
  obtain ⟨ds, hds, rfl⟩ := Option.map_eq_some_iff.mp hf
  refine q F σ H ρ ds _ sl hds fun a vs F' H' x n nf ha r => ?_
  refine ⟨a, _, rfl, ha, trivial, fun od => ?_⟩
  exact k _ (upd F' a (.frz od (dictO X.w a vs))) _ (x.lk n nf) (.dct upd_same (r.mono (same_upd nf)))

/-! ### names, constants -/
def getV (ρ : Env) (i : Nat) : Option D := match ρ[i]? with
  | some (.val d) => some d
  | _ => none
def getP (ρ : Env) (i : Nat) : Option D := match ρ[i]? with
  | some (.val d) => some d
  | some (.ol ds) => some (.list ds)
  | some (.od kvs) => some (.dict kvs)
  | _ => none
theorem de_var {i : Nat} (h : PE X e (tVar i)) : DE X e (fun ρ => getV ρ i) := by
  refine ⟨_, h, fun F σ H ρ d Q sl hf k => ?_⟩
  unfold getV at hf
  split at hf
  · rename_i d' hd
    cases hf
    obtain ⟨v, hv, r⟩ := sl.slot i _ hd
    exact ⟨v, hv, k v F H (.refl sl.same) r⟩
  · cases hf
theorem dp_var {i : Nat} (h : PE X e (tVar i)) : DP X e (fun ρ => getP ρ i) := by
  refine ⟨_, h, fun F σ H ρ d Q sl hf k => ?_⟩
  unfold getP at hf
  split at hf
  · rename_i d' hd
    cases hf
    obtain ⟨v, hv, r⟩ := sl.slot i _ hd
    exact ⟨v, hv, k v F H (.refl sl.same) (.rep r)⟩
  · rename_i ds hd
    cases hf
    obtain ⟨a, vs, hv, nf, ha, r⟩ := sl.slot i _ hd
    exact ⟨_, hv, k _ F H (.refl sl.same) (.lst ha r)⟩
  · rename_i ds hd
    cases hf
    obtain ⟨a, vs, hv, nf, ha, r⟩ := sl.slot i _ hd
    exact ⟨_, hv, k _ F H (.refl sl.same) (.dct ha r)⟩
  · cases hf
theorem de_const {v : V} {d : D} (h : PE X e (tC v)) (r : ∀ F, Rep X.w X.K F v d) : DE X e (fun _ => some d) := by
  refine ⟨_, h, fun F σ H ρ d' Q sl hf k => ?_⟩
  cases hf
  exact k v F H (.refl sl.same) (r F)
theorem de_int {i : Int} {j} : DE X (.Constant (.int i) j pos) (fun _ => some (.int i)) := de_const pe_int fun _ => .int i
theorem de_bl {i : Bool} {j} : DE X (.Constant (.bool i) j pos) (fun _ => some (.bool i)) := de_const pe_bl fun _ => .bl i
theorem de_non {j} : DE X (.Constant .none j pos) (fun _ => some .none) := de_const pe_non fun _ => .non
theorem de_str {x : Str} {j} : DE X (.Constant (.str x) j pos) (fun _ => some (.str x)) := de_const pe_str fun _ => .str x

/-! ### two-place operations on data -/
def OpD (X : Cx) (f : Value → Value → Sem Value) (g : D → D → Option D) : Prop :=
  OpR X f (fun x y H Q => ∃ F d e r, Same F H ∧ PRep X.w X.K F H x d ∧ PRep X.w X.K F H y e ∧ g d e = some r ∧ ∀ v F' H', Ext F H F' H' → Rep X.w X.K F' v r → Q v H')
def OpL (X : Cx) (f : Value → Value → Sem Value) (g : D → D → Option (List D)) : Prop :=
  OpR X f (fun x y H Q => ∃ F d e ds, Same F H ∧ PRep X.w X.K F H x d ∧ PRep X.w X.K F H y e ∧ g d e = some ds ∧ ∀ a vs F' H', Ext F H F' H' → H a = none → F' a = none → H' a = some (.lst vs) → Reps X.w X.K F' vs ds → Q (.ref a) H')
theorem de_op {op : Operator} {g : D → D → Option D} {fa fb : Env → Option D} (ho : OpD X (binaryOp op) g) (ha : DP X a fa) (hb : DP X b fb) : DE X (.BinOp a op b pos) (fun ρ => (fa ρ).bind fun x => (fb ρ).bind fun y => g x y) := by
  obtain ⟨t, p, q⟩ := ha.ex
  obtain ⟨t', p', q'⟩ := hb.ex
  refine ⟨_, pe_op ho p p', fun F σ H ρ d Q sl hf k => ?_⟩
  obtain ⟨x, hx, hf⟩ := Option.bind_eq_some_iff.mp hf
  obtain ⟨y, hy, hf⟩ := Option.bind_eq_some_iff.mp hf
  refine q F σ H ρ x _ sl hx fun v F1 H1 e1 r1 => q' F1 σ H1 ρ y _ (sl.mono e1) hy fun u F2 H2 e2 r2 => ?_
  exact ⟨F2, x, y, d, e2.s, r1.mono e2, r2, hf, fun v F' H' e3 r => k v F' H' ((e1.trans e2).trans e3) r⟩
theorem fl_op {op : Operator} {g : D → D → Option (List D)} {fa fb : Env → Option D} (ho : OpL X (binaryOp op) g) (ha : DP X a fa) (hb : DP X b fb) : FL X (.BinOp a op b pos) (fun ρ => (fa ρ).bind fun x => (fb ρ).bind fun y => g x y) := by
  obtain ⟨t, p, q⟩ := ha.ex
  obtain ⟨t', p', q'⟩ := hb.ex
  refine ⟨_, pe_op ho p p', fun F σ H ρ d Q sl hf k => ?_⟩
  obtain ⟨x, hx, hf⟩ := Option.bind_eq_some_iff.mp hf
  obtain ⟨y, hy, hf⟩ := Option.bind_eq_some_iff.mp hf
  refine q F σ H ρ x _ sl hx fun v F1 H1 e1 r1 => q' F1 σ H1 ρ y _ (sl.mono e1) hy fun u F2 H2 e2 r2 => ?_
  refine ⟨F2, x, y, d, e2.s, r1.mono e2, r2, hf, fun a vs F' H' e3 n nf ha r => k a vs F' H' ((e1.trans e2).trans e3) ?_ nf ha r⟩
  exact (e1.trans e2).h.free n
theorem de_cmp {op : CmpOp} {g : D → D → Option D} {fa fb : Env → Option D} (ho : OpD X (compareOp op) g) (ha : DP X a fa) (hb : DP X b fb) (hm : behindInMarks op b = false) : DE X (.Compare a [op] [b] pos) (fun ρ => (fa ρ).bind fun x => (fb ρ).bind fun y => g x y) := by
  obtain ⟨t, p, q⟩ := ha.ex
  obtain ⟨t', p', q'⟩ := hb.ex
  refine ⟨_, pe_cmpR ho p p' hm, fun F σ H ρ d Q sl hf k => ?_⟩
  obtain ⟨x, hx, hf⟩ := Option.bind_eq_some_iff.mp hf
  obtain ⟨y, hy, hf⟩ := Option.bind_eq_some_iff.mp hf
  refine q F σ H ρ x _ sl hx fun v F1 H1 e1 r1 => q' F1 σ H1 ρ y _ (sl.mono e1) hy fun u F2 H2 e2 r2 => ?_
  exact ⟨F2, x, y, d, e2.s, r1.mono e2, r2, hf, fun v F' H' e3 r => k v F' H' ((e1.trans e2).trans e3) r⟩
def boolOf : D → Option Bool
  | .bool b => some b
  | _ => none
theorem dt_cmp {op : CmpOp} {g : D → D → Option D} {fa fb : Env → Option D} (ho : OpD X (compareOp op) g) (ha : DP X a fa) (hb : DP X b fb) (hm : behindInMarks op b = false) : DT X (.Compare a [op] [b] pos) (fun ρ => (fa ρ).bind fun x => (fb ρ).bind fun y => (g x y).bind boolOf) := by
  obtain ⟨t, p, q⟩ := ha.ex
  obtain ⟨t', p', q'⟩ := hb.ex
  refine ⟨_, pt_cmpR ho p p' hm, fun F σ H ρ d Q sl hf k => ?_⟩
  obtain ⟨x, hx, hf⟩ := Option.bind_eq_some_iff.mp hf
  obtain ⟨y, hy, hf⟩ := Option.bind_eq_some_iff.mp hf
  obtain ⟨z, hz, hf⟩ := Option.bind_eq_some_iff.mp hf
  refine q F σ H ρ x _ sl hx fun v F1 H1 e1 r1 => q' F1 σ H1 ρ y _ (sl.mono e1) hy fun u F2 H2 e2 r2 => ?_
  refine ⟨F2, x, y, z, e2.s, r1.mono e2, r2, hz, fun v F' H' e3 r => ?_⟩
  cases z <;> simp only [boolOf] at hf <;> try cases hf
  exact ⟨_, r.bool_inv, k F' H' ((e1.trans e2).trans e3)⟩
/-- a op1 b op2 c -/
def chainF (g g' : D → D → Option D) (fa fb fc : Env → Option D) (ρ : Env) : Option D := (fa ρ).bind fun x => (fb ρ).bind fun y => (g x y).bind fun z => (boolOf z).bind fun k => if k = true then (fc ρ).bind fun u => g' y u else some (.bool false)
theorem de_chain {op op' : CmpOp} {g g' : D → D → Option D} {fa fb fc : Env → Option D} (ho : OpD X (compareOp op) g) (ho' : OpD X (compareOp op') g') (ha : DP X a fa) (hb : DP X b fb) (hc : DP X c fc)
    (hm : lastMarks [op, op'] [b, c] = false := by with_unfolding_all rfl) : DE X (.Compare a [op, op'] [b, c] pos) (chainF g g' fa fb fc) := by
  obtain ⟨t, p, q⟩ := ha.ex
  obtain ⟨t', p', q'⟩ := hb.ex
  obtain ⟨t2, p2, q2⟩ := hc.ex
  refine ⟨_, pe_chain ho ho' p p' p2 hm, fun F σ H ρ d Q sl hf k => ?_⟩
  unfold chainF at hf
  obtain ⟨x, hx, hf1⟩ := Option.bind_eq_some_iff.mp hf
  clear hf
  obtain ⟨y, hy, hf2⟩ := Option.bind_eq_some_iff.mp hf1
  clear hf1
  obtain ⟨z, hz, hf3⟩ := Option.bind_eq_some_iff.mp hf2
  clear hf2
  obtain ⟨kb, hk, hf⟩ := Option.bind_eq_some_iff.mp hf3
  clear hf3
  refine q F σ H ρ x _ sl hx fun v F1 H1 e1 r1 => q' F1 σ H1 ρ y _ (sl.mono e1) hy fun u F2 H2 e2 r2 => ?_
  refine ⟨F2, x, y, z, e2.s, r1.mono e2, r2, hz, fun v F3 H3 e3 r3 => ?_⟩
  cases z <;> simp only [boolOf] at hk <;> try cases hk
  refine ⟨kb, r3.bool_inv, ?_⟩
  cases kb with
  | false =>
    simp only [Bool.false_eq_true, if_false] at hf ⊢
    cases hf
    exact k _ F3 H3 ((e1.trans e2).trans e3) (.bl false)
  | true =>
    simp only [if_true] at hf ⊢
    obtain ⟨u', hu, hf⟩ := Option.bind_eq_some_iff.mp hf
    refine q2 F3 σ H3 ρ u' _ (((sl.mono e1).mono e2).mono e3) hu fun v4 F4 H4 e4 r4 => ?_
    exact ⟨F4, y, u', d, e4.s, (r2.mono e3).mono e4, r4, hf, fun v F' H' e5 r => k v F' H' ((((e1.trans e2).trans e3).trans e4).trans e5) r⟩
theorem dt_chain {op op' : CmpOp} {g g' : D → D → Option D} {fa fb fc : Env → Option D} (ho : OpD X (compareOp op) g) (ho' : OpD X (compareOp op') g') (ha : DP X a fa) (hb : DP X b fb) (hc : DP X c fc)
    (hm : lastMarks [op, op'] [b, c] = false := by with_unfolding_all rfl) : DT X (.Compare a [op, op'] [b, c] pos) (fun ρ => (chainF g g' fa fb fc ρ).bind boolOf) := by
  obtain ⟨t, p, q⟩ := ha.ex
  obtain ⟨t', p', q'⟩ := hb.ex
  obtain ⟨t2, p2, q2⟩ := hc.ex
  refine ⟨_, pt_chain ho ho' p p' p2 hm, fun F σ H ρ d Q sl hf k => ?_⟩
  obtain ⟨zz, hzz, hd⟩ := Option.bind_eq_some_iff.mp hf
  clear hf
  unfold chainF at hzz
  obtain ⟨x, hx, hf1⟩ := Option.bind_eq_some_iff.mp hzz
  clear hzz
  obtain ⟨y, hy, hf2⟩ := Option.bind_eq_some_iff.mp hf1
  clear hf1
  obtain ⟨z, hz, hf3⟩ := Option.bind_eq_some_iff.mp hf2
  clear hf2
  obtain ⟨kb, hk, hf⟩ := Option.bind_eq_some_iff.mp hf3
  clear hf3
  cases zz <;> simp only [boolOf] at hd <;> try cases hd
  refine q F σ H ρ x _ sl hx fun v F1 H1 e1 r1 => q' F1 σ H1 ρ y _ (sl.mono e1) hy fun u F2 H2 e2 r2 => ?_
  refine ⟨F2, x, y, z, e2.s, r1.mono e2, r2, hz, fun v F3 H3 e3 r3 => ?_⟩
  cases z <;> simp only [boolOf] at hk <;> try cases hk
  refine ⟨kb, r3.bool_inv, ?_⟩
  cases kb with
  | false =>
    simp only [Bool.false_eq_true, if_false] at hf ⊢
    cases hf
    exact ⟨_, rfl, k F3 H3 ((e1.trans e2).trans e3)⟩
  | true =>
    simp only [if_true] at hf ⊢
    obtain ⟨u', hu, hf⟩ := Option.bind_eq_some_iff.mp hf
    refine q2 F3 σ H3 ρ u' _ (((sl.mono e1).mono e2).mono e3) hu fun v4 F4 H4 e4 r4 => ?_
    exact ⟨F4, y, u', _, e4.s, (r2.mono e3).mono e4, r4, hf, fun v F' H' e5 r => ⟨_, r.bool_inv, k F' H' ((((e1.trans e2).trans e3).trans e4).trans e5)⟩⟩

/-! ### one-place operations -/
def UnD (X : Cx) (f : Value → Sem Value) (g : D → Option D) : Prop :=
  UnR X f (fun x H Q => ∃ F d r, Same F H ∧ PRep X.w X.K F H x d ∧ g d = some r ∧ ∀ v F' H', Ext F H F' H' → Rep X.w X.K F' v r → Q v H')
theorem de_un {op : UnaryOp} {g : D → Option D} {fa : Env → Option D} (ho : UnD X (unaryOp op) g) (ha : DP X a fa) : DE X (.UnaryOp op a pos) (fun ρ => (fa ρ).bind g) := by
  obtain ⟨t, p, q⟩ := ha.ex
  refine ⟨_, pe_un ho p, fun F σ H ρ d Q sl hf k => ?_⟩
  obtain ⟨x, hx, hf⟩ := Option.bind_eq_some_iff.mp hf
  refine q F σ H ρ x _ sl hx fun v F1 H1 e1 r1 => ?_
  exact ⟨F1, x, d, e1.s, r1, hf, fun v F' H' e3 r => k v F' H' (e1.trans e3) r⟩
def negD : D → Option D
  | .int i => some (.int (-i))
  | _ => none
theorem un_negD : UnD X (unaryOp .USub) negD := by
  intro pins s σ H x v Q I rx h
  obtain ⟨F, d, r, sm, p, hg, k⟩ := h
  cases d <;> simp only [negD] at hg <;> try cases hg
  cases p.int_inv
  exact un_neg pins s σ H _ v Q I rx ⟨_, rfl, k _ F H (.refl sm) (.int _)⟩

/-! ### arguments -/
theorem da_nil : DA X [] (fun _ => some []) := ⟨_, pa_nil, fun F σ H ρ d Q sl hf k => by cases hf; exact k [] F H (.refl sl.same) .nil⟩
theorem dae_nil : DAE X [] (fun _ => some []) := ⟨_, pa_nil, fun F σ H ρ d Q sl hf k => by cases hf; exact k [] F H (.refl sl.same) .nil⟩
def consF (f : Env → Option D) (g : Env → Option (List D)) (ρ : Env) : Option (List D) := (f ρ).bind fun x => (g ρ).bind fun xs => some (x :: xs)
theorem da_cons {f : Env → Option D} {g : Env → Option (List D)} (ha : DP X e f) (hr : DA X es g) (hs : starEach (e :: es) X.env = (false, eval e X.env) :: starEach es X.env := by rfl) : DA X (e :: es) (consF f g) := by
  obtain ⟨t, p, q⟩ := ha.ex
  obtain ⟨t', p', q'⟩ := hr.ex
  refine ⟨_, pa_cons p p' hs, fun F σ H ρ d Q sl hf k => ?_⟩
  obtain ⟨x, hx, hf⟩ := Option.bind_eq_some_iff.mp hf
  obtain ⟨y, hy, hf⟩ := Option.bind_eq_some_iff.mp hf
  cases hf
  refine q F σ H ρ x _ sl hx fun v F1 H1 e1 r1 => q' F1 σ H1 ρ y _ (sl.mono e1) hy fun u F2 H2 e2 r2 => ?_
  exact k _ F2 H2 (e1.trans e2) (.cons (r1.mono e2) r2)
theorem dae_cons {f : Env → Option D} {g : Env → Option (List D)} (ha : DE X e f) (hr : DAE X es g) (hs : starEach (e :: es) X.env = (false, eval e X.env) :: starEach es X.env := by rfl) : DAE X (e :: es) (consF f g) := by
  obtain ⟨t, p, q⟩ := ha.ex
  obtain ⟨t', p', q'⟩ := hr.ex
  refine ⟨_, pa_cons p p' hs, fun F σ H ρ d Q sl hf k => ?_⟩
  obtain ⟨x, hx, hf⟩ := Option.bind_eq_some_iff.mp hf
  obtain ⟨y, hy, hf⟩ := Option.bind_eq_some_iff.mp hf
  cases hf
  refine q F σ H ρ x _ sl hx fun v F1 H1 e1 r1 => q' F1 σ H1 ρ y _ (sl.mono e1) hy fun u F2 H2 e2 r2 => ?_
  exact k _ F2 H2 (e1.trans e2) (.cons (r1.mono e2.f) r2)

/-! ### displays -/
def lineD (ds : List D) : Option (List D) := if ds.length ≤ 16777216 then some ds else none
theorem lineD_some {ds es : List D} (h : lineD ds = some es) : es = ds ∧ ds.length ≤ sizeLine := by
  unfold lineD at h
  split at h
  · cases h; exact ⟨rfl, by rw [sizeLine_eq]; assumption⟩
  · cases h
theorem de_tup {x1} {f : Env → Option (List D)} (h : DAE X es f) : DE X (.Tuple es x1 pos) (fun ρ => ((f ρ).bind lineD).map .tuple) := by
  obtain ⟨t, p, q⟩ := h.ex
  refine ⟨_, pe_tup p, fun F σ H ρ d Q sl hf k => ?_⟩
  obtain ⟨ds, hf1, rfl⟩ := Option.map_eq_some_iff.mp hf
  obtain ⟨ds', hx, hf2⟩ := Option.bind_eq_some_iff.mp hf1
  obtain ⟨rfl, hl⟩ := lineD_some hf2
  refine q F σ H ρ _ _ sl hx fun vs F1 H1 e1 r1 => ?_
  refine ⟨by rw [r1.length]; exact hl, fun p np => k _ (upd F1 p (.tup vs)) _ (e1.trans (.new e1.s np)) ?_⟩
  exact .tup (.inl (.inl upd_same)) (r1.mono (same_upd (e1.s.free np)))
theorem fl_lst {f : Env → Option (List D)} (h : DAE X es f) : FL X (.List es pos) (fun ρ => (f ρ).bind lineD) := by
  obtain ⟨t, p, q⟩ := h.ex
  refine ⟨_, pe_lst p, fun F σ H ρ d Q sl hf k => ?_⟩
  obtain ⟨ds', hx, hf⟩ := Option.bind_eq_some_iff.mp hf
  obtain ⟨rfl, hl⟩ := lineD_some hf
  refine q F σ H ρ _ _ sl hx fun vs F1 H1 e1 r1 => ?_
  refine ⟨by rw [r1.length]; exact hl, fun p np => k _ vs F1 _ (e1.trans (.grow e1.s np)) (e1.h.free np) (e1.s.free np) upd_same r1⟩

/-! ### tests -/
theorem dt_val {f : Env → Option D} (h : DE X e f) (he : ∀ whole, isTrue e X.env whole = (do let v ← whole; standAt e.pos; holding [v] (truthy v)) := by intro _; rfl) : DT X e (fun ρ => (f ρ).bind boolOf) := by
  obtain ⟨t, p, q⟩ := h.ex
  refine ⟨_, pt_val p he, fun F σ H ρ d Q sl hf k => ?_⟩
  obtain ⟨x, hx, hf⟩ := Option.bind_eq_some_iff.mp hf
  cases x <;> simp only [boolOf] at hf <;> try cases hf
  refine q F σ H ρ _ _ sl hx fun v F1 H1 e1 r1 => ⟨_, r1.bool_inv, k F1 H1 e1⟩
/-- truth of a text, a list, a tuple, an int, None -/
def truD : D → Option Bool
  | .none => some false
  | .bool b => some b
  | .int i => some (i != 0)
  | .str x => if x.length ≤ 16777216 then some ((x.length : Int) != 0) else none
  | .list ds => some (!ds.isEmpty)
  | .tuple ds => some (!ds.isEmpty)
  | .dict _ => none
theorem Reps.isEmpty {w : World} {K : PySem.W.Frag} {F : Hp} {vs : List V} {ds : List D} (r : Reps w K F vs ds) : vs.isEmpty = ds.isEmpty := by cases r <;> rfl
theorem dt_truth {f : Env → Option D} (h : DP X e f) (he : ∀ whole, isTrue e X.env whole = (do let v ← whole; standAt e.pos; holding [v] (truthy v)) := by intro _; rfl) : DT X e (fun ρ => (f ρ).bind truD) := by
  obtain ⟨t, p, q⟩ := h.ex
  refine ⟨_, pt_truth p he, fun F σ H ρ d Q sl hf k => ?_⟩
  obtain ⟨x, hx, hf⟩ := Option.bind_eq_some_iff.mp hf
  refine q F σ H ρ _ _ sl hx fun v F1 H1 e1 r1 => ?_
  cases x with
  | none => cases hf; cases r1.none_inv; exact ⟨_, rfl, k F1 H1 e1⟩
  | bool b => cases hf; cases r1.bool_inv; exact ⟨_, rfl, k F1 H1 e1⟩
  | int i => cases hf; cases r1.int_inv; exact ⟨_, rfl, k F1 H1 e1⟩
  | str z =>
    simp only [truD] at hf
    split at hf
    · rename_i hz
      cases hf
      cases r1.str_inv
      exact ⟨_, ⟨by rw [sizeLine_eq]; exact hz, rfl⟩, k F1 H1 e1⟩
    · cases hf
  | list ds =>
    cases hf
    obtain ⟨a, vs, rfl, hs, rs⟩ := r1.lst_inv e1.s
    exact ⟨_, .inl ⟨vs, hs, by rw [rs.isEmpty]⟩, k F1 H1 e1⟩
  | tuple ds =>
    cases hf
    obtain ⟨a, vs, rfl, hs, rs⟩ := r1.tup_inv e1.s
    exact ⟨_, .inr (.inl ⟨vs, hs, by rw [rs.isEmpty]⟩), k F1 H1 e1⟩
  | dict _ => cases hf
theorem DW.dt {f : Env → Option Bool} (h : DW X e f) : DT X e f := by
  obtain ⟨t, p, q⟩ := h.ex
  exact ⟨t, p.pt, q⟩
theorem dw_and1 {f : Env → Option Bool} (h : DT X a f) : DW X (.BoolOp .And [a] pos) f := by
  obtain ⟨t, p, q⟩ := h.ex
  exact ⟨t, pw_and1 p, q⟩
theorem dw_or1 {f : Env → Option Bool} (h : DT X a f) : DW X (.BoolOp .Or [a] pos) f := by
  obtain ⟨t, p, q⟩ := h.ex
  exact ⟨t, pw_or1 p, q⟩
def andF {α : Type} (f : Env → Option Bool) (no : α) (g : Env → Option α) (ρ : Env) : Option α := (f ρ).bind fun k => if k = true then g ρ else some no
def orF {α : Type} (f : Env → Option Bool) (yes : α) (g : Env → Option α) (ρ : Env) : Option α := (f ρ).bind fun k => if k = true then some yes else g ρ
theorem dw_and {rest : List Expr} {f g : Env → Option Bool} (ha : DT X a f) (hb : DW X (.BoolOp .And (b :: rest) pos) g) : DW X (.BoolOp .And (a :: b :: rest) pos) (andF f false g) := by
  obtain ⟨t, p, q⟩ := ha.ex
  obtain ⟨t', p', q'⟩ := hb.ex
  refine ⟨_, pw_and p p', fun F σ H ρ d Q sl hf k => ?_⟩
  obtain ⟨x, hx, hf⟩ := Option.bind_eq_some_iff.mp hf
  refine q F σ H ρ x _ sl hx fun F1 H1 e1 => ?_
  cases x with
  | true =>
    simp only [if_true] at hf ⊢
    exact q' F1 σ H1 ρ _ _ (sl.mono e1) hf fun F2 H2 e2 => k F2 H2 (e1.trans e2)
  | false =>
    simp only [Bool.false_eq_true, if_false] at hf ⊢
    cases hf
    exact k F1 H1 e1
theorem dw_or {rest : List Expr} {f g : Env → Option Bool} (ha : DT X a f) (hb : DW X (.BoolOp .Or (b :: rest) pos) g) : DW X (.BoolOp .Or (a :: b :: rest) pos) (orF f true g) := by
  obtain ⟨t, p, q⟩ := ha.ex
  obtain ⟨t', p', q'⟩ := hb.ex
  refine ⟨_, pw_or p p', fun F σ H ρ d Q sl hf k => ?_⟩
  obtain ⟨x, hx, hf⟩ := Option.bind_eq_some_iff.mp hf
  refine q F σ H ρ x _ sl hx fun F1 H1 e1 => ?_
  cases x with
  | false =>
    simp only [Bool.false_eq_true, if_false] at hf ⊢
    exact q' F1 σ H1 ρ _ _ (sl.mono e1) hf fun F2 H2 e2 => k F2 H2 (e1.trans e2)
  | true =>
    simp only [if_true] at hf ⊢
    cases hf
    exact k F1 H1 e1
theorem dt_not {f : Env → Option Bool} (ha : DT X a f) : DT X (.UnaryOp .Not a pos) (fun ρ => (f ρ).map not) := by
  obtain ⟨t, p, q⟩ := ha.ex
  refine ⟨_, pt_not p, fun F σ H ρ d Q sl hf k => ?_⟩
  obtain ⟨x, hx, rfl⟩ := Option.map_eq_some_iff.mp hf
  exact q F σ H ρ x _ sl hx fun F1 H1 e1 => k F1 H1 e1
/-- as values, all but the last True or False -/
theorem de_one {op} {f : Env → Option D} (h : DE X a f) : DE X (.BoolOp op [a] pos) f := by
  obtain ⟨t, p, q⟩ := h.ex
  exact ⟨t, pe_one p, q⟩
theorem de_and {rest : List Expr} {f g : Env → Option D} (ha : DE X a f) (hb : DE X (.BoolOp .And (b :: rest) pos) g) : DE X (.BoolOp .And (a :: b :: rest) pos) (andF (fun ρ => (f ρ).bind boolOf) (.bool false) g) := by
  obtain ⟨t, p, q⟩ := ha.ex
  obtain ⟨t', p', q'⟩ := hb.ex
  refine ⟨_, pe_and p p', fun F σ H ρ d Q sl hf k => ?_⟩
  obtain ⟨y, hy, hf⟩ := Option.bind_eq_some_iff.mp hf
  obtain ⟨x, hx, hy⟩ := Option.bind_eq_some_iff.mp hy
  cases x <;> simp only [boolOf] at hy <;> try cases hy
  refine q F σ H ρ _ _ sl hx fun v F1 H1 e1 r1 => ⟨y, r1.bool_inv, ?_⟩
  cases y with
  | true =>
    simp only [if_true] at hf ⊢
    exact q' F1 σ H1 ρ _ _ (sl.mono e1) hf fun v F2 H2 e2 r => k v F2 H2 (e1.trans e2) r
  | false =>
    simp only [Bool.false_eq_true, if_false] at hf ⊢
    cases hf
    exact k _ F1 H1 e1 (.bl false)
theorem de_or {rest : List Expr} {f g : Env → Option D} (ha : DE X a f) (hb : DE X (.BoolOp .Or (b :: rest) pos) g) : DE X (.BoolOp .Or (a :: b :: rest) pos) (orF (fun ρ => (f ρ).bind boolOf) (.bool true) g) := by
  obtain ⟨t, p, q⟩ := ha.ex
  obtain ⟨t', p', q'⟩ := hb.ex
  refine ⟨_, pe_or p p', fun F σ H ρ d Q sl hf k => ?_⟩
  obtain ⟨y, hy, hf⟩ := Option.bind_eq_some_iff.mp hf
  obtain ⟨x, hx, hy⟩ := Option.bind_eq_some_iff.mp hy
  cases x <;> simp only [boolOf] at hy <;> try cases hy
  refine q F σ H ρ _ _ sl hx fun v F1 H1 e1 r1 => ⟨y, r1.bool_inv, ?_⟩
  cases y with
  | false =>
    simp only [Bool.false_eq_true, if_false] at hf ⊢
    exact q' F1 σ H1 ρ _ _ (sl.mono e1) hf fun v F2 H2 e2 r => k v F2 H2 (e1.trans e2) r
  | true =>
    simp only [if_true] at hf ⊢
    cases hf
    exact k _ F1 H1 e1 (.bl true)
theorem de_not {f : Env → Option D} (ha : DE X a f) : DE X (.UnaryOp .Not a pos) (fun ρ => ((f ρ).bind boolOf).map fun k => .bool (!k)) := by
  obtain ⟨t, p, q⟩ := ha.ex
  refine ⟨_, pe_not p, fun F σ H ρ d Q sl hf k => ?_⟩
  obtain ⟨y, hy, rfl⟩ := Option.map_eq_some_iff.mp hf
  obtain ⟨x, hx, hy⟩ := Option.bind_eq_some_iff.mp hy
  cases x <;> simp only [boolOf] at hy <;> try cases hy
  exact q F σ H ρ _ _ sl hx fun v F1 H1 e1 r1 => ⟨y, r1.bool_inv, k _ F1 H1 e1 (.bl _)⟩
def iteF' {α : Type} (f : Env → Option Bool) (g h : Env → Option α) (ρ : Env) : Option α := (f ρ).bind fun k => if k = true then g ρ else h ρ
theorem de_if {f : Env → Option Bool} {g h : Env → Option D} (hc : DT X c f) (ha : DE X a g) (hb : DE X b h) : DE X (.IfExp c a b pos) (iteF' f g h) := by
  obtain ⟨t0, p0, q0⟩ := hc.ex
  obtain ⟨t, p, q⟩ := ha.ex
  obtain ⟨t', p', q'⟩ := hb.ex
  refine ⟨_, pe_ifExp p0 p p', fun F σ H ρ d Q sl hf k => ?_⟩
  obtain ⟨x, hx, hf⟩ := Option.bind_eq_some_iff.mp hf
  refine q0 F σ H ρ x _ sl hx fun F1 H1 e1 => ?_
  cases x with
  | true =>
    simp only [if_true] at hf ⊢
    exact q F1 σ H1 ρ _ _ (sl.mono e1) hf fun v F2 H2 e2 r => k v F2 H2 (e1.trans e2) r
  | false =>
    simp only [Bool.false_eq_true, if_false] at hf ⊢
    exact q' F1 σ H1 ρ _ _ (sl.mono e1) hf fun v F2 H2 e2 r => k v F2 H2 (e1.trans e2) r

/-! ### calls of built-ins by data -/
def CallD (X : Cx) (f : Value) (g : List D → Option D) : Prop :=
  CallR X f (fun vs H Q => ∃ F ds r, Same F H ∧ PReps X.w X.K F H vs ds ∧ g ds = some r ∧ ∀ v F' H', Ext F H F' H' → Rep X.w X.K F' v r → Q v H')
def CallL (X : Cx) (f : Value) (g : List D → Option (List D)) : Prop :=
  CallR X f (fun vs H Q => ∃ F ds es, Same F H ∧ PReps X.w X.K F H vs ds ∧ g ds = some es ∧ ∀ a vs F' H', Ext F H F' H' → H a = none → F' a = none → H' a = some (.lst vs) → Reps X.w X.K F' vs es → Q (.ref a) H')
section
variable {x : Str} {p : Pos} {id T : String}
theorem de_callB {g : List D → Option D} {f : Env → Option (List D)} (hc : CallD X (.builtin id) g) (hg : Gl X x) (hm : X.mg x = none) (hv : bootBuiltins x = some (.builtin id)) (ha : DA X (e :: es) f) (hn : x ≠ "__name__" := by decide) (hdb : (x == ("__debug__" : Str)) = false := by decide)
    (he : starEach (e :: es) X.env = (false, eval e X.env) :: starEach es X.env := by rfl) (hpl : (backTo pos (starEach es X.env)).any (·.1) = false := by rfl) : DE X (.Call (.Name x p) (e :: es) [] pos) (fun ρ => (f ρ).bind g) := by
  obtain ⟨t, p, q⟩ := ha.ex
  refine ⟨_, pe_callB hc hg hm hv p hn hdb he hpl, fun F σ H ρ d Q sl hf k => ?_⟩
  obtain ⟨ds, hx, hf⟩ := Option.bind_eq_some_iff.mp hf
  exact q F σ H ρ ds _ sl hx fun vs F1 H1 e1 r1 => ⟨F1, ds, d, e1.s, r1, hf, fun v F' H' e2 r => k v F' H' (e1.trans e2) r⟩
theorem fl_callB {g : List D → Option (List D)} {f : Env → Option (List D)} (hc : CallL X (.builtin id) g) (hg : Gl X x) (hm : X.mg x = none) (hv : bootBuiltins x = some (.builtin id)) (ha : DA X (e :: es) f) (hn : x ≠ "__name__" := by decide) (hdb : (x == ("__debug__" : Str)) = false := by decide)
    (he : starEach (e :: es) X.env = (false, eval e X.env) :: starEach es X.env := by rfl) (hpl : (backTo pos (starEach es X.env)).any (·.1) = false := by rfl) : FL X (.Call (.Name x p) (e :: es) [] pos) (fun ρ => (f ρ).bind g) := by
  obtain ⟨t, p, q⟩ := ha.ex
  refine ⟨_, pe_callB hc hg hm hv p hn hdb he hpl, fun F σ H ρ d Q sl hf k => ?_⟩
  obtain ⟨ds, hx, hf⟩ := Option.bind_eq_some_iff.mp hf
  exact q F σ H ρ ds _ sl hx fun vs F1 H1 e1 r1 => ⟨F1, ds, d, e1.s, r1, hf, fun a vs F' H' e2 n nf h r => k a vs F' H' (e1.trans e2) (e1.h.free n) nf h r⟩
theorem de_callTy {g : List D → Option D} {f : Env → Option (List D)} (hc : CallD X (.type T) g) (hg : Gl X x) (hm : X.mg x = none) (hv : bootBuiltins x = some (.type T)) (ha : DA X (e :: es) f) (hn : x ≠ "__name__" := by decide) (hdb : (x == ("__debug__" : Str)) = false := by decide)
    (he : starEach (e :: es) X.env = (false, eval e X.env) :: starEach es X.env := by rfl) (hpl : (backTo pos (starEach es X.env)).any (·.1) = false := by rfl) : DE X (.Call (.Name x p) (e :: es) [] pos) (fun ρ => (f ρ).bind g) := by
  obtain ⟨t, p, q⟩ := ha.ex
  refine ⟨_, pe_callTy hc hg hm hv p hn hdb he hpl, fun F σ H ρ d Q sl hf k => ?_⟩
  obtain ⟨ds, hx, hf⟩ := Option.bind_eq_some_iff.mp hf
  exact q F σ H ρ ds _ sl hx fun vs F1 H1 e1 r1 => ⟨F1, ds, d, e1.s, r1, hf, fun v F' H' e2 r => k v F' H' (e1.trans e2) r⟩
theorem fl_callTy {g : List D → Option (List D)} {f : Env → Option (List D)} (hc : CallL X (.type T) g) (hg : Gl X x) (hm : X.mg x = none) (hv : bootBuiltins x = some (.type T)) (ha : DA X (e :: es) f) (hn : x ≠ "__name__" := by decide) (hdb : (x == ("__debug__" : Str)) = false := by decide)
    (he : starEach (e :: es) X.env = (false, eval e X.env) :: starEach es X.env := by rfl) (hpl : (backTo pos (starEach es X.env)).any (·.1) = false := by rfl) : FL X (.Call (.Name x p) (e :: es) [] pos) (fun ρ => (f ρ).bind g) := by
  obtain ⟨t, p, q⟩ := ha.ex
  refine ⟨_, pe_callTy hc hg hm hv p hn hdb he hpl, fun F σ H ρ d Q sl hf k => ?_⟩
  obtain ⟨ds, hx, hf⟩ := Option.bind_eq_some_iff.mp hf
  exact q F σ H ρ ds _ sl hx fun vs F1 H1 e1 r1 => ⟨F1, ds, d, e1.s, r1, hf, fun a vs F' H' e2 n nf h r => k a vs F' H' (e1.trans e2) (e1.h.free n) nf h r⟩
end
end
end PD

/-! PD2: operators and built-in functions over plain data. -/
namespace PD
open PySem PySem.Spec PyProof.Rows L2

section
variable {X : Cx}

/-! ### a new object -/
theorem new_lst {pins : List (Addr × Obj)} {σ : L2.St} {H F : Hp} {s : Shared} {Q : VK} {ys : List V} {its : List Value} {es : List D} {t' : Nat} (I : Inv X pins σ H s) (sm : Same F H) (hv : Vals ys its) (hz : ys.length ≤ sizeLine) (r : Reps X.w X.K F ys es)
    (k : ∀ a vs F' H', Ext F H F' H' → H a = none → F' a = none → H' a = some (.lst vs) → Reps X.w X.K F' vs es → Q (.ref a) H') :
    EP X pins σ Q (.ref s.heap.objs.size) { s with heap := s.heap.push { cls := .type "list", data := .seq its.toArray }, toks := t' } :=
  ⟨.ref _, _, I.lnew (t' := t') hv hz, rfl, k _ _ F _ (.grow sm I.fresh) I.fresh (sm.free I.fresh) upd_same r⟩
theorem sl16 : sizeLine = 16777216 := sizeLine_eq

/-! ### + -/
def addD : D → D → Option D
  | .int i, .int j => some (.int (i + j))
  | .str x, .str y => if x.length + y.length ≤ 16777216 then some (.str (x ++ y)) else none
  | .tuple xs, .tuple ys => if xs.length + ys.length ≤ 16777216 then some (.tuple (xs ++ ys)) else none
  | _, _ => none
theorem op_addD : OpD X (binaryOp .Add) addD := by
  intro pins s σ H x y v u Q I rx ry h
  obtain ⟨F, d, e, r, sm, p1, p2, hg, k⟩ := h
  unfold addD at hg
  split at hg
  · cases hg
    cases p1.int_inv; cases p2.int_inv
    exact op_add pins s σ H _ _ v u Q I rx ry ⟨_, _, rfl, rfl, k _ F H (.refl sm) (.int _)⟩
  · split at hg
    · rename_i hz
      cases hg
      cases p1.str_inv; cases p2.str_inv
      exact op_add_str pins s σ H _ _ v u Q I rx ry ⟨_, _, rfl, rfl, by rw [sl16]; exact hz, k _ F H (.refl sm) (.str _)⟩
    · cases hg
  · split at hg
    · rename_i xs ys hz
      cases hg
      have q1 := p1; have q2 := p2
      cases p1 with
      | rep p1 =>
        cases p2 with
        | rep p2 =>
          obtain ⟨a, vs, rfl, h1, r1⟩ := p1.tup_inv
          obtain ⟨b, ws, rfl, h2, r2⟩ := p2.tup_inv
          refine op_catA pins s σ H _ _ v u Q I rx ry ⟨a, b, vs, ws, rfl, rfl, SqT.mono sm h1, SqT.mono sm h2, by rw [r1.length, r2.length, sl16]; exact hz, fun e => ?_, fun _ e => ?_, fun _ _ p np => ?_⟩
          · subst e
            cases r1
            exact k _ F H (.refl sm) p2
          · subst e
            cases r2
            rw [List.append_nil] at k
            exact k _ F H (.refl sm) p1
          · exact k _ _ _ (.new sm np) (.tup (.inl (.inl upd_same)) ((r1.append r2).mono (same_upd (sm.free np))))
    · cases hg
  · cases hg
def catL : D → D → Option (List D)
  | .list xs, .list ys => if xs.length + ys.length ≤ 16777216 then some (xs ++ ys) else none
  | _, _ => none
theorem op_catL : OpL X (binaryOp .Add) catL := by
  intro pins s σ H x y v u Q I rx ry h
  obtain ⟨F, d, e, r, sm, p1, p2, hg, k⟩ := h
  unfold catL at hg
  split at hg
  · split at hg
    · rename_i xs ys hz
      cases hg
      obtain ⟨a, vs, rfl, h1, r1⟩ := p1.lst_inv sm
      obtain ⟨b, ws, rfl, h2, r2⟩ := p2.lst_inv sm
      cases rx
      cases ry
      obtain ⟨its, rv, ⟨⟨cls, dd, data, sl⟩, n, ho, hc, hd0, hd⟩, hl⟩ := I.list h1
      obtain ⟨its2, rv2, ⟨⟨cls2, dd2, data2, sl2⟩, n2, ho2, hc2, hd20, hd2⟩, hl2⟩ := I.list h2
      simp only at hc hd hc2 hd2
      subst hc hd hc2 hd2
      have e1 : its.toArray ++ its2.toArray = (its ++ its2).toArray := by simp
      have l1 := rv.length
      have l2 := rv2.length
      have l3 := r1.length
      have l4 := r2.length
      refine concat_meets ⟨_, ho, rfl⟩ ⟨_, ho2, rfl⟩ noFill_list_add seq_list_add PySem.F.slot_list_add PySem.F.entry_list_add (PySem.F.args_list_add_2 _ _) (list_addW a b its.toArray its2.toArray n n2 dd dd2 sl sl2 (by rw [List.size_toArray, List.size_toArray, sl16]; omega)) ⟨ho, ho2, ?_⟩
      rw [e1]
      exact new_lst (t' := s.toks) I sm (rv.append rv2) (by rw [List.length_append, sl16]; omega) (r1.append r2) k
    · cases hg
  · cases hg

/-! ### -, *, //, %, and the others -/
def subD : D → D → Option D
  | .int i, .int j => some (.int (i - j))
  | _, _ => none
theorem op_subD : OpD X (binaryOp .Sub) subD := by
  intro pins s σ H x y v u Q I rx ry h
  obtain ⟨F, d, e, r, sm, p1, p2, hg, k⟩ := h
  unfold subD at hg
  split at hg
  · cases hg
    cases p1.int_inv; cases p2.int_inv
    exact op_sub pins s σ H _ _ v u Q I rx ry ⟨_, _, rfl, rfl, k _ F H (.refl sm) (.int _)⟩
  · cases hg
/-- ints: one of them below 2 ^ 64, or both together below a million bits -/
def mulOk (i j : Int) : Prop := ((-18446744073709551616 < i ∧ i < 18446744073709551616) ∨ (-18446744073709551616 < j ∧ j < 18446744073709551616)) ∨ i.natAbs.log2 + j.natAbs.log2 < 1000000
noncomputable instance (i j : Int) : Decidable (mulOk i j) := Classical.propDecidable _
def strMulOk (x : Str) (n : Int) : Prop := n ≤ 1000 ∧ -1000 ≤ n ∧ x.length ≤ 1000
noncomputable instance (x : Str) (n : Int) : Decidable (strMulOk x n) := Classical.propDecidable _
noncomputable def mulD : D → D → Option D
  | .int i, .int j => if mulOk i j then some (.int (i * j)) else none
  | .str x, .int n => if strMulOk x n then some (.str (Txt.mul x n)) else none
  | .tuple xs, .int n => if xs ≠ [] ∧ 2 ≤ n ∧ n ≤ 1000 ∧ xs.length ≤ 1000 then some (.tuple (List.replicate n.toNat xs).flatten) else none
  | _, _ => none
theorem Reps.flatRep {w : World} {K : PySem.W.Frag} {F : Hp} {vs : List V} {ds : List D} (r : Reps w K F vs ds) : ∀ n : Nat, Reps w K F (List.replicate n vs).flatten (List.replicate n ds).flatten
  | 0 => .nil
  | n + 1 => by
    rw [List.replicate_succ, List.replicate_succ, List.flatten_cons, List.flatten_cons]
    exact r.append (Reps.flatRep r n)
theorem strMul_ok {x : Str} {n : Int} (h : strMulOk x n) : MulOk x n := by
  obtain ⟨h1, h2, h3⟩ := h
  refine ⟨?_, fun h4 h5 => ?_, fun h4 h5 => ?_⟩
  · have e1 : decide (n < -(2 ^ 63 : Int)) = false := decide_eq_false (by omega)
    have e2 : decide (n ≥ 2 ^ 63) = false := decide_eq_false (by omega)
    rw [e1, e2]; rfl
  · have : ((2 ^ 63 - 1) / n : Int) ≥ 1000 := by
      have : (1000 : Int) * n ≤ 2 ^ 63 - 1 := by omega
      exact (Int.le_ediv_iff_mul_le (by omega)).mpr this
    omega
  · have hb : x.length * n.toNat ≤ 1000 * 1000 := Nat.mul_le_mul h3 (by omega)
    unfold Builtin.Str.tooLong
    first
      | exact decide_eq_false (by rw [sl16]; omega)
      | (simp only [decide_eq_false_iff_not]; have := sl16; omega)
      | (have := sl16; simp; omega)
theorem op_mulD : OpD X (binaryOp .Mult) mulD := by
  intro pins s σ H x y v u Q I rx ry h
  obtain ⟨F, d, e, r, sm, p1, p2, hg, k⟩ := h
  unfold mulD at hg
  split at hg
  · split at hg
    · rename_i i j hz
      cases hg
      cases p1.int_inv; cases p2.int_inv
      rcases hz with hz | hz
      · exact op_mul pins s σ H _ _ v u Q I rx ry ⟨_, _, rfl, rfl, hz, k _ F H (.refl sm) (.int _)⟩
      · exact op_mulW pins s σ H _ _ v u Q I rx ry ⟨_, _, rfl, rfl, hz, k _ F H (.refl sm) (.int _)⟩
    · cases hg
  · split at hg
    · rename_i x n hz
      cases hg
      cases p1.str_inv; cases p2.int_inv
      obtain ⟨t, rfl⟩ := rx
      obtain ⟨t2, rfl⟩ := ry
      exact SB.mul (strMul_ok hz) fun t' tk => ⟨.str _, H, I.tok tk, ⟨_, rfl⟩, k _ F H (.refl sm) (.str _)⟩
    · cases hg
  · split at hg
    · rename_i xs n hz
      cases hg
      obtain ⟨hz1, hz2, hz3, hz4⟩ := hz
      obtain ⟨a, vs, rfl, h1, r1⟩ := p1.tup_inv sm
      cases p2.int_inv
      refine op_repT pins s σ H _ _ v u Q I rx ry ⟨a, n, vs, rfl, rfl, h1, ?_, hz2, hz3, by rw [r1.length]; exact hz4, fun p np => ?_⟩
      · rintro rfl
        cases r1
        exact hz1 rfl
      · exact k _ _ _ (.new sm np) (.tup (.inl (.inl upd_same)) ((r1.flatRep _).mono (same_upd (sm.free np))))
    · cases hg
  · cases hg
/-- how often, and how long -/
def repOk (n : Int) (l : Nat) : Prop := -1000000 ≤ n ∧ n ≤ 1000000 ∧ l * n.toNat ≤ 16777216
noncomputable instance (n : Int) (l : Nat) : Decidable (repOk n l) := Classical.propDecidable _
noncomputable def repL : D → D → Option (List D)
  | .list xs, .int n => if repOk n xs.length then some (List.replicate n.toNat xs).flatten else none
  | _, _ => none
theorem foldl_rep2 (its : List Value) (m : Nat) : List.foldl (fun x1 x2 => x1 ++ x2) #[] (List.replicate m its.toArray) = (List.replicate m its).flatten.toArray := size_rep its m
theorem op_repL : OpL X (binaryOp .Mult) repL := by
  intro pins s σ H x y v u Q I rx ry h
  obtain ⟨F, d, e, r, sm, p1, p2, hg, k⟩ := h
  unfold repL at hg
  split at hg
  · split at hg
    · rename_i xs n hz
      cases hg
      obtain ⟨hz1, hz2, hz3⟩ := hz
      obtain ⟨a, vs, rfl, h1, r1⟩ := p1.lst_inv sm
      cases p2.int_inv
      cases rx
      obtain ⟨t, rfl⟩ := ry
      obtain ⟨its, rv, ⟨⟨cls, dd, data, sl⟩, m, ho, hc, hd0, hd⟩, hl⟩ := I.list h1
      simp only at hc hd
      subst hc hd
      have l1 := rv.length
      have l3 := r1.length
      have hsz' : its.toArray.size * n.toNat ≤ 2 ^ 24 := by
        rw [List.size_toArray, ← l1, l3]; exact hz3
      have hlen : (List.replicate n.toNat vs).flatten.length ≤ sizeLine := by
        rw [lm_len_rep_flat, l3, sl16, Nat.mul_comm]; exact hz3
      refine wpAny_binaryOp_repeat_ref (T := "list") (U := "int") (by decide) ⟨_, ho, rfl⟩ (fun s' => typeIs_int s' n t) noFill_list_mul PySem.F.fills_int_mul PySem.F.slot_int_rmul repeat_list PySem.F.slot_int_index.lookup
        (call_meets PySem.F.slot_int_rmul (typeIs_int s n t) PySem.F.entry_int_rmul (PySem.F.args_int_rmul_2 _ _) (lm_int_rmul_list_any n t a its.toArray m dd sl)
          ⟨ho, rfl, ⟨_, ho, rfl⟩, call_meets PySem.F.slot_list_mul ⟨_, ho, rfl⟩ PySem.F.entry_list_mul (PySem.F.args_list_mul_2 _ _)
            (lm_list_mul_any a its.toArray m dd sl n t (by simp [Builtin.List.listFitsIndex]; omega) (by omega) (by simp [Builtin.List.listTooLong, sizeLine]; omega))
            ⟨ho, ?_⟩⟩)
      rw [listMul_foldl_if]
      have hv : Vals (List.replicate n.toNat vs).flatten (List.replicate n.toNat its).flatten := by
        generalize n.toNat = c
        induction c with
        | zero => exact .nil
        | succ c ih =>
          rw [List.replicate_succ, List.replicate_succ, List.flatten_cons, List.flatten_cons]
          exact rv.append ih
      exact new_lst (t' := s.toks) I sm hv hlen (r1.flatRep _) k
    · cases hg
  · cases hg
/-- // : a divisor that is not 0, below 2 ^ 30; or one above 0 of any fair size -/
def fdOk (j : Int) : Prop := 0 < j ∧ j < 1073741824
noncomputable instance (j : Int) : Decidable (fdOk j) := Classical.propDecidable _
def fdOk2 (j : Int) : Prop := 0 < j ∧ j.natAbs.log2 < 9000
noncomputable instance (j : Int) : Decidable (fdOk2 j) := Classical.propDecidable _
def fdOk3 (j : Int) : Prop := j ≠ 0 ∧ j.natAbs < 1073741824
noncomputable instance (j : Int) : Decidable (fdOk3 j) := Classical.propDecidable _
noncomputable def fdivD : D → D → Option D
  | .int i, .int j => if fdOk j then some (.int (i / j)) else if fdOk2 j then some (.int (i / j)) else if fdOk3 j then some (.int (i.fdiv j)) else none
  | _, _ => none
theorem op_fdivD : OpD X (binaryOp .FloorDiv) fdivD := by
  intro pins s σ H x y v u Q I rx ry h
  obtain ⟨F, d, e, r, sm, p1, p2, hg, k⟩ := h
  unfold fdivD at hg
  split at hg
  · split at hg
    · rename_i i j hz
      cases hg
      cases p1.int_inv; cases p2.int_inv
      exact op_fdiv pins s σ H _ _ v u Q I rx ry ⟨_, _, rfl, rfl, hz, k _ F H (.refl sm) (.int _)⟩
    · split at hg
      · rename_i hz
        cases hg
        cases p1.int_inv; cases p2.int_inv
        exact op_fdivW pins s σ H _ _ v u Q I rx ry ⟨_, _, rfl, rfl, hz, k _ F H (.refl sm) (.int _)⟩
      · split at hg
        · rename_i hz
          cases hg
          cases p1.int_inv; cases p2.int_inv
          exact op_fdivN pins s σ H _ _ v u Q I rx ry ⟨_, _, rfl, rfl, hz, k _ F H (.refl sm) (.int _)⟩
        · cases hg
  · cases hg
def modD : D → D → Option D
  | .int i, .int j => if 0 < j then some (.int (i % j)) else if j ≠ 0 then some (.int (i.fmod j)) else none
  | _, _ => none
theorem op_modD : OpD X (binaryOp .Mod) modD := by
  intro pins s σ H x y v u Q I rx ry h
  obtain ⟨F, d, e, r, sm, p1, p2, hg, k⟩ := h
  unfold modD at hg
  split at hg
  · split at hg
    · rename_i i j hz
      cases hg
      cases p1.int_inv; cases p2.int_inv
      exact op_mod pins s σ H _ _ v u Q I rx ry ⟨_, _, rfl, rfl, hz, k _ F H (.refl sm) (.int _)⟩
    · split at hg
      · rename_i hz
        cases hg
        cases p1.int_inv; cases p2.int_inv
        exact op_modN pins s σ H _ _ v u Q I rx ry ⟨_, _, rfl, rfl, hz, k _ F H (.refl sm) (.int _)⟩
      · cases hg
  · cases hg
def powOk (i j : Int) : Prop := 0 ≤ j ∧ j ≤ 1000000 ∧ i.natAbs < 18446744073709551616
noncomputable instance (i j : Int) : Decidable (powOk i j) := Classical.propDecidable _
noncomputable def powD : D → D → Option D
  | .int i, .int j => if powOk i j then some (.int (i ^ j.toNat)) else none
  | _, _ => none
theorem op_powD : OpD X (binaryOp .Pow) powD := by
  intro pins s σ H x y v u Q I rx ry h
  obtain ⟨F, d, e, r, sm, p1, p2, hg, k⟩ := h
  unfold powD at hg
  split at hg
  · split at hg
    · rename_i i j hz
      cases hg
      cases p1.int_inv; cases p2.int_inv
      exact op_pow pins s σ H _ _ v u Q I rx ry ⟨_, _, rfl, rfl, hz, k _ F H (.refl sm) (.int _)⟩
    · cases hg
  · cases hg
noncomputable def shlD : D → D → Option D
  | .int i, .int j => if powOk i j then some (.int (i * 2 ^ j.toNat)) else none
  | _, _ => none
theorem op_shlD : OpD X (binaryOp .LShift) shlD := by
  intro pins s σ H x y v u Q I rx ry h
  obtain ⟨F, d, e, r, sm, p1, p2, hg, k⟩ := h
  unfold shlD at hg
  split at hg
  · split at hg
    · rename_i i j hz
      cases hg
      cases p1.int_inv; cases p2.int_inv
      exact op_shl pins s σ H _ _ v u Q I rx ry ⟨_, _, rfl, rfl, hz, k _ F H (.refl sm) (.int _)⟩
    · cases hg
  · cases hg
def shrD : D → D → Option D
  | .int i, .int j => if 0 ≤ j then some (.int (i / 2 ^ j.toNat)) else none
  | _, _ => none
theorem op_shrD : OpD X (binaryOp .RShift) shrD := by
  intro pins s σ H x y v u Q I rx ry h
  obtain ⟨F, d, e, r, sm, p1, p2, hg, k⟩ := h
  unfold shrD at hg
  split at hg
  · split at hg
    · rename_i i j hz
      cases hg
      cases p1.int_inv; cases p2.int_inv
      exact op_shr pins s σ H _ _ v u Q I rx ry ⟨_, _, rfl, rfl, hz, k _ F H (.refl sm) (.int _)⟩
    · cases hg
  · cases hg
def bandD : D → D → Option D
  | .int i, .int j => some (.int (Builtin.bitAnd i j))
  | _, _ => none
theorem op_bandD : OpD X (binaryOp .BitAnd) bandD := by
  intro pins s σ H x y v u Q I rx ry h
  obtain ⟨F, d, e, r, sm, p1, p2, hg, k⟩ := h
  unfold bandD at hg
  split at hg
  · cases hg
    cases p1.int_inv; cases p2.int_inv
    exact op_and pins s σ H _ _ v u Q I rx ry ⟨_, _, rfl, rfl, k _ F H (.refl sm) (.int _)⟩
  · cases hg
def borD : D → D → Option D
  | .int i, .int j => some (.int (Builtin.bitOr i j))
  | _, _ => none
theorem op_borD : OpD X (binaryOp .BitOr) borD := by
  intro pins s σ H x y v u Q I rx ry h
  obtain ⟨F, d, e, r, sm, p1, p2, hg, k⟩ := h
  unfold borD at hg
  split at hg
  · cases hg
    cases p1.int_inv; cases p2.int_inv
    exact op_or pins s σ H _ _ v u Q I rx ry ⟨_, _, rfl, rfl, k _ F H (.refl sm) (.int _)⟩
  · cases hg

/-! ### comparisons -/
theorem PRep.reads {w : World} {K : PySem.W.Frag} {F : Hp} {pins : List (Addr × Obj)} {σ : L2.St} {H : Hp} {s : Shared} (I : Inv X pins σ H s) (sm : Same F H) {v : V} {d : D} {u : Value} (p : plainD d = true) (h : PRep X.w X.K F H v d) (r : RelV v u) : ∃ as, Reads s.heap u d as :=
  Rep.reads I p (h.now sm (by rintro kvs rfl; simp [plainD] at p)) r
def eqD (d e : D) : Option D := if okD d = true ∧ okD e = true then some (.bool (PyData.eqv d e)) else none
def neD (d e : D) : Option D := if okD d = true ∧ okD e = true then some (.bool (!PyData.eqv d e)) else none
theorem op_eqD' (hu : X.A.units + 64 < cLine) : OpD X (compareOp .Eq) eqD := by
  intro pins s σ H x y v u Q I rx ry h
  obtain ⟨F, d, e, r, sm, p1, p2, hg, k⟩ := h
  unfold eqD at hg
  split at hg
  · rename_i hz
    cases hg
    have o1 := okN_plain _ _ hz.1
    have o2 := okN_plain _ _ hz.2
    obtain ⟨as, r1⟩ := PRep.reads (w := X.w) (K := X.K) I sm o1.1 p1 rx
    obtain ⟨bs, r2⟩ := PRep.reads (w := X.w) (K := X.K) I sm o2.1 p2 ry
    exact PySem.SeqAt.eq_plain r1 r2 (by rw [← plain_eq]; exact o1.1) (by rw [← plain_eq]; exact o2.1) (by have := o1.2; omega) ⟨.bl _, H, I, rfl, k _ F H (.refl sm) (.bl _)⟩
  · cases hg
theorem op_neD' (hu : X.A.units + 64 < cLine) : OpD X (compareOp .NotEq) neD := by
  intro pins s σ H x y v u Q I rx ry h
  obtain ⟨F, d, e, r, sm, p1, p2, hg, k⟩ := h
  unfold neD at hg
  split at hg
  · rename_i hz
    cases hg
    have o1 := okN_plain _ _ hz.1
    have o2 := okN_plain _ _ hz.2
    obtain ⟨as, r1⟩ := PRep.reads (w := X.w) (K := X.K) I sm o1.1 p1 rx
    obtain ⟨bs, r2⟩ := PRep.reads (w := X.w) (K := X.K) I sm o2.1 p2 ry
    exact PySem.SeqAt.ne_plain r1 r2 (by rw [← plain_eq]; exact o1.1) (by rw [← plain_eq]; exact o2.1) (by have := o1.2; omega) ⟨.bl _, H, I, rfl, k _ F H (.refl sm) (.bl _)⟩
  · cases hg
def isNone : D → Bool
  | .none => true
  | _ => false
theorem isNone_ne {d : D} (h : isNone d = false) : d ≠ .none := by rintro rfl; cases h
def cmpOk (d e : D) : Prop := okD d = true ∧ okD e = true ∧ PySem.W.alike d e = true ∧ isNone d = false
instance (d e : D) : Decidable (cmpOk d e) := by unfold cmpOk; infer_instance
def ltD (d e : D) : Option D := if cmpOk d e then some (.bool (PySem.W.dataLt d e)) else none
def gtD (d e : D) : Option D := if cmpOk d e then some (.bool (PySem.W.dataLt e d)) else none
def leD (d e : D) : Option D := if cmpOk d e then some (.bool (!PySem.W.dataLt e d)) else none
def geD (d e : D) : Option D := if cmpOk d e then some (.bool (!PySem.W.dataLt d e)) else none
theorem op_ltD' (hu : X.A.units + 64 < cLine) : OpD X (compareOp .Lt) ltD := by
  intro pins s σ H x y v u Q I rx ry h
  obtain ⟨F, d, e, r, sm, p1, p2, hg, k⟩ := h
  unfold ltD at hg
  split at hg
  · rename_i hz
    cases hg
    have o1 := okN_plain _ _ hz.1
    have o2 := okN_plain _ _ hz.2.1
    obtain ⟨as, r1⟩ := PRep.reads (w := X.w) (K := X.K) I sm o1.1 p1 rx
    obtain ⟨bs, r2⟩ := PRep.reads (w := X.w) (K := X.K) I sm o2.1 p2 ry
    exact PySem.W.lt_data r1 r2 hz.2.2.1 (isNone_ne hz.2.2.2) (by have := o1.2; omega) ⟨.bl _, H, I, rfl, k _ F H (.refl sm) (.bl _)⟩
  · cases hg
theorem op_gtD' (hu : X.A.units + 64 < cLine) : OpD X (compareOp .Gt) gtD := by
  intro pins s σ H x y v u Q I rx ry h
  obtain ⟨F, d, e, r, sm, p1, p2, hg, k⟩ := h
  unfold gtD at hg
  split at hg
  · rename_i hz
    cases hg
    have o1 := okN_plain _ _ hz.1
    have o2 := okN_plain _ _ hz.2.1
    obtain ⟨as, r1⟩ := PRep.reads (w := X.w) (K := X.K) I sm o1.1 p1 rx
    obtain ⟨bs, r2⟩ := PRep.reads (w := X.w) (K := X.K) I sm o2.1 p2 ry
    exact PySem.W.gt_data r1 r2 hz.2.2.1 (isNone_ne hz.2.2.2) (by have := o1.2; omega) ⟨.bl _, H, I, rfl, k _ F H (.refl sm) (.bl _)⟩
  · cases hg
theorem op_leD' (hu : X.A.units + 64 < cLine) : OpD X (compareOp .LtE) leD := by
  intro pins s σ H x y v u Q I rx ry h
  obtain ⟨F, d, e, r, sm, p1, p2, hg, k⟩ := h
  unfold leD at hg
  split at hg
  · rename_i hz
    cases hg
    have o1 := okN_plain _ _ hz.1
    have o2 := okN_plain _ _ hz.2.1
    obtain ⟨as, r1⟩ := PRep.reads (w := X.w) (K := X.K) I sm o1.1 p1 rx
    obtain ⟨bs, r2⟩ := PRep.reads (w := X.w) (K := X.K) I sm o2.1 p2 ry
    exact PySem.W.le_data r1 r2 hz.2.2.1 (isNone_ne hz.2.2.2) (by have := o1.2; omega) ⟨.bl _, H, I, rfl, k _ F H (.refl sm) (.bl _)⟩
  · cases hg
theorem op_geD' (hu : X.A.units + 64 < cLine) : OpD X (compareOp .GtE) geD := by
  intro pins s σ H x y v u Q I rx ry h
  obtain ⟨F, d, e, r, sm, p1, p2, hg, k⟩ := h
  unfold geD at hg
  split at hg
  · rename_i hz
    cases hg
    have o1 := okN_plain _ _ hz.1
    have o2 := okN_plain _ _ hz.2.1
    obtain ⟨as, r1⟩ := PRep.reads (w := X.w) (K := X.K) I sm o1.1 p1 rx
    obtain ⟨bs, r2⟩ := PRep.reads (w := X.w) (K := X.K) I sm o2.1 p2 ry
    exact PySem.W.ge_data r1 r2 hz.2.2.1 (isNone_ne hz.2.2.2) (by have := o1.2; omega) ⟨.bl _, H, I, rfl, k _ F H (.refl sm) (.bl _)⟩
  · cases hg
/-- x in a list, a tuple (a dict, a text: elsewhere) -/
def inD (neg : Bool) (d e : D) : Option D := match e with
  | .list ds => if okD d = true ∧ okDs ds = true then some (.bool (neg ^^ ds.any fun y => PyData.eqv y d)) else none
  | .tuple ds => if okD d = true ∧ okDs ds = true then some (.bool (neg ^^ ds.any fun y => PyData.eqv y d)) else none
  | .str y => match d with
    | .str x => some (.bool (neg ^^ !(Builtin.Str.occurrences y x 0 y.length 1).isEmpty))
    | _ => none
  | _ => none
theorem plainDs_list {ds : List D} (h : plainDs ds = true) : plainD (.list ds) = true := by simpa [plainD] using h
theorem plainDs_tuple {ds : List D} (h : plainDs ds = true) : plainD (.tuple ds) = true := by simpa [plainD] using h
theorem op_inD' (hu : X.A.units + 64 < cLine) : OpD X (compareOp .In) (inD false) := by
  intro pins s σ H x y v u Q I rx ry h
  obtain ⟨F, d, e, r, sm, p1, p2, hg, k⟩ := h
  unfold inD at hg
  split at hg
  · split at hg
    · rename_i hz
      cases hg
      have o1 := okN_plain _ _ hz.1
      have o2 := okNs_plain _ _ hz.2
      obtain ⟨as, r1⟩ := PRep.reads (w := X.w) (K := X.K) I sm o1.1 p1 rx
      obtain ⟨bs, r2⟩ := PRep.reads (w := X.w) (K := X.K) I sm (plainDs_list o2.1) p2 ry
      refine PySem.SeqAt.in_list_data r2 r1 (by rw [← plains_eq]; exact o2.1) (by rw [← plain_eq]; exact o1.1) (by have := o1.2; omega) ⟨.bl _, H, I, rfl, ?_⟩
      rw [Bool.false_xor] at k
      exact k _ F H (.refl sm) (.bl _)
    · cases hg
  · split at hg
    · rename_i hz
      cases hg
      have o1 := okN_plain _ _ hz.1
      have o2 := okNs_plain _ _ hz.2
      obtain ⟨as, r1⟩ := PRep.reads (w := X.w) (K := X.K) I sm o1.1 p1 rx
      obtain ⟨bs, r2⟩ := PRep.reads (w := X.w) (K := X.K) I sm (plainDs_tuple o2.1) p2 ry
      refine PySem.SeqAt.in_tuple_data r2 r1 (by rw [← plains_eq]; exact o2.1) (by rw [← plain_eq]; exact o1.1) (by have := o1.2; omega) ⟨.bl _, H, I, rfl, ?_⟩
      rw [Bool.false_xor] at k
      exact k _ F H (.refl sm) (.bl _)
    · cases hg
  · split at hg
    · cases hg
      cases p1.str_inv; cases p2.str_inv
      rw [Bool.false_xor] at k
      exact op_in_str pins s σ H _ _ v u Q I rx ry ⟨_, _, rfl, rfl, k _ F H (.refl sm) (.bl _)⟩
    · cases hg
  · cases hg
theorem op_notInD' (hu : X.A.units + 64 < cLine) : OpD X (compareOp .NotIn) (inD true) := by
  intro pins s σ H x y v u Q I rx ry h
  obtain ⟨F, d, e, r, sm, p1, p2, hg, k⟩ := h
  unfold inD at hg
  split at hg
  · split at hg
    · rename_i hz
      cases hg
      have o1 := okN_plain _ _ hz.1
      have o2 := okNs_plain _ _ hz.2
      obtain ⟨as, r1⟩ := PRep.reads (w := X.w) (K := X.K) I sm o1.1 p1 rx
      obtain ⟨bs, r2⟩ := PRep.reads (w := X.w) (K := X.K) I sm (plainDs_list o2.1) p2 ry
      refine PySem.SeqAt.notIn_list_data r2 r1 (by rw [← plains_eq]; exact o2.1) (by rw [← plain_eq]; exact o1.1) (by have := o1.2; omega) ⟨.bl _, H, I, rfl, ?_⟩
      rw [Bool.true_xor] at k
      exact k _ F H (.refl sm) (.bl _)
    · cases hg
  · split at hg
    · rename_i hz
      cases hg
      have o1 := okN_plain _ _ hz.1
      have o2 := okNs_plain _ _ hz.2
      obtain ⟨as, r1⟩ := PRep.reads (w := X.w) (K := X.K) I sm o1.1 p1 rx
      obtain ⟨bs, r2⟩ := PRep.reads (w := X.w) (K := X.K) I sm (plainDs_tuple o2.1) p2 ry
      refine PySem.SeqAt.notIn_tuple_data r2 r1 (by rw [← plains_eq]; exact o2.1) (by rw [← plain_eq]; exact o1.1) (by have := o1.2; omega) ⟨.bl _, H, I, rfl, ?_⟩
      rw [Bool.true_xor] at k
      exact k _ F H (.refl sm) (.bl _)
    · cases hg
  · split at hg
    · cases hg
      cases p1.str_inv; cases p2.str_inv
      rw [Bool.true_xor] at k
      exact op_notin_str pins s σ H _ _ v u Q I rx ry ⟨_, _, rfl, rfl, k _ F H (.refl sm) (.bl _)⟩
    · cases hg
  · cases hg
/-- x is None, is not None -/
def isD (d e : D) : Option D := match e with
  | .none => some (.bool (isNone d))
  | _ => none
def isNotD (d e : D) : Option D := match e with
  | .none => some (.bool (!isNone d))
  | _ => none
theorem PRep.isNone_iff {F H : Hp} {v : V} {d : D} (p : PRep X.w X.K F H v d) : decide (v = .non) = isNone d := by
  cases p with
  | rep p => cases p <;> rfl
  | lst _ _ => rfl
  | dct _ _ => rfl
theorem op_isD : OpD X (compareOp .Is) isD := by
  intro pins s σ H x y v u Q I rx ry h
  obtain ⟨F, d, e, r, sm, p1, p2, hg, k⟩ := h
  unfold isD at hg
  split at hg
  · cases hg
    cases p2.none_inv
    exact op_isN pins s σ H _ _ v u Q I rx ry ⟨rfl, by rw [p1.isNone_iff]; exact k _ F H (.refl sm) (.bl _)⟩
  · cases hg
theorem op_isNotD : OpD X (compareOp .IsNot) isNotD := by
  intro pins s σ H x y v u Q I rx ry h
  obtain ⟨F, d, e, r, sm, p1, p2, hg, k⟩ := h
  unfold isNotD at hg
  split at hg
  · cases hg
    cases p2.none_inv
    exact op_notN pins s σ H _ _ v u Q I rx ry ⟨rfl, by rw [p1.isNone_iff]; exact k _ F H (.refl sm) (.bl _)⟩
  · cases hg
end
end PD

/-! PD3: built-in functions, subscripts and slices over plain data. -/
namespace PD
open PySem PySem.Spec PyProof.Rows L2
open PySem.W (AlikeAll minD maxD reads_keeps min_list_data min_tuple_data max_list_data max_tuple_data iter_tupleW cmpIn_lt moved_old alike)

section
variable {X : Cx}

def intsOf : List D → Option (List Int)
  | [] => some []
  | .int i :: r => (intsOf r).map fun ns => i :: ns
  | _ => none
theorem intsOf_some : ∀ {ds : List D} {ns : List Int}, intsOf ds = some ns → ds = ns.map .int
  | [], _, h => by cases h; rfl
  | .int i :: r, ns, h => by
    simp only [intsOf] at h
    obtain ⟨ms, hm, rfl⟩ := Option.map_eq_some_iff.mp h
    rw [intsOf_some hm]; rfl
  | .none :: _, _, h => by simp [intsOf] at h
  | .bool _ :: _, _, h => by simp [intsOf] at h
  | .str _ :: _, _, h => by simp [intsOf] at h
  | .list _ :: _, _, h => by simp [intsOf] at h
  | .tuple _ :: _, _, h => by simp [intsOf] at h
  | .dict _ :: _, _, h => by simp [intsOf] at h
theorem intsOf_map : ∀ ns : List Int, intsOf (ns.map .int) = some ns
  | [] => rfl
  | n :: ns => by simp [intsOf, intsOf_map ns]
def boolsOf : List D → Option (List Bool)
  | [] => some []
  | .bool i :: r => (boolsOf r).map fun ns => i :: ns
  | _ => none
theorem boolsOf_some : ∀ {ds : List D} {ns : List Bool}, boolsOf ds = some ns → ds = ns.map .bool
  | [], _, h => by cases h; rfl
  | .bool i :: r, ns, h => by
    simp only [boolsOf] at h
    obtain ⟨ms, hm, rfl⟩ := Option.map_eq_some_iff.mp h
    rw [boolsOf_some hm]; rfl
  | .none :: _, _, h => by simp [boolsOf] at h
  | .int _ :: _, _, h => by simp [boolsOf] at h
  | .str _ :: _, _, h => by simp [boolsOf] at h
  | .list _ :: _, _, h => by simp [boolsOf] at h
  | .tuple _ :: _, _, h => by simp [boolsOf] at h
  | .dict _ :: _, _, h => by simp [boolsOf] at h
theorem boolsOf_map : ∀ ns : List Bool, boolsOf (ns.map .bool) = some ns
  | [] => rfl
  | n :: ns => by simp [boolsOf, boolsOf_map ns]

theorem PReps.one {F H : Hp} {vs : List V} {d : D} (r : PReps X.w X.K F H vs [d]) : ∃ v, vs = [v] ∧ PRep X.w X.K F H v d := by
  cases r with
  | cons a b => cases b; exact ⟨_, rfl, a⟩
theorem PReps.two {F H : Hp} {vs : List V} {d e : D} (r : PReps X.w X.K F H vs [d, e]) : ∃ v u, vs = [v, u] ∧ PRep X.w X.K F H v d ∧ PRep X.w X.K F H u e := by
  cases r with
  | cons a b =>
    obtain ⟨u, rfl, q⟩ := PReps.one b
    exact ⟨_, _, rfl, a, q⟩
theorem PReps.three {F H : Hp} {vs : List V} {d e f : D} (r : PReps X.w X.K F H vs [d, e, f]) : ∃ v u x, vs = [v, u, x] ∧ PRep X.w X.K F H v d ∧ PRep X.w X.K F H u e ∧ PRep X.w X.K F H x f := by
  cases r with
  | cons a b =>
    obtain ⟨u, x, rfl, q, q'⟩ := PReps.two b
    exact ⟨_, _, _, rfl, a, q, q'⟩

/-! ### len, int, abs, str -/
def lenD : List D → Option D
  | [.list ds] => some (.int ds.length)
  | [.tuple ds] => some (.int ds.length)
  | [.str x] => if x.length ≤ 16777216 then some (.int x.length) else none
  | _ => none
theorem call_lenD' : CallD X (.builtin "len") lenD := by
  intro pins s σ H vs us Q I rv h
  obtain ⟨F, ds, r, sm, p, hg, k⟩ := h
  unfold lenD at hg
  split at hg
  · cases hg
    obtain ⟨v, rfl, p1⟩ := p.one
    obtain ⟨a, ws, rfl, h1, r1⟩ := p1.lst_inv sm
    exact call_len pins s σ H _ us Q I rv ⟨_, _, rfl, .inl ⟨ws, h1, rfl⟩, by rw [r1.length]; exact k _ F H (.refl sm) (.int _)⟩
  · cases hg
    obtain ⟨v, rfl, p1⟩ := p.one
    obtain ⟨a, ws, rfl, h1, r1⟩ := p1.tup_inv sm
    exact call_len pins s σ H _ us Q I rv ⟨_, _, rfl, .inr ⟨ws, h1, rfl⟩, by rw [r1.length]; exact k _ F H (.refl sm) (.int _)⟩
  · split at hg
    · rename_i hz
      cases hg
      obtain ⟨v, rfl, p1⟩ := p.one
      cases p1.str_inv
      exact call_len pins s σ H _ us Q I rv ⟨_, _, rfl, ⟨by rw [sl16]; exact hz, rfl⟩, k _ F H (.refl sm) (.int _)⟩
    · cases hg
  · cases hg
def intD : List D → Option D
  | [.int i] => some (.int i)
  | [.bool b] => some (.int (if b = true then 1 else 0))
  | _ => none
theorem call_intD : CallD X (.type "int") intD := by
  intro pins s σ H vs us Q I rv h
  obtain ⟨F, ds, r, sm, p, hg, k⟩ := h
  unfold intD at hg
  split at hg
  · cases hg
    obtain ⟨v, rfl, p1⟩ := p.one
    cases p1.int_inv
    exact call_int1 pins s σ H _ us Q I rv (.inl ⟨_, rfl, k _ F H (.refl sm) (.int _)⟩)
  · cases hg
    obtain ⟨v, rfl, p1⟩ := p.one
    cases p1.bool_inv
    exact call_int1 pins s σ H _ us Q I rv (.inr ⟨_, rfl, k _ F H (.refl sm) (.int _)⟩)
  · cases hg
def absD : List D → Option D
  | [.int i] => some (.int (if i < 0 then -i else i))
  | _ => none
theorem call_absD : CallD X (.builtin "abs") absD := by
  intro pins s σ H vs us Q I rv h
  obtain ⟨F, ds, r, sm, p, hg, k⟩ := h
  unfold absD at hg
  split at hg
  · cases hg
    obtain ⟨v, rfl, p1⟩ := p.one
    cases p1.int_inv
    exact call_abs pins s σ H _ us Q I rv ⟨_, rfl, k _ F H (.refl sm) (.int _)⟩
  · cases hg
def strD : List D → Option D
  | [.int i] => if i.natAbs.log2 < 1920 then some (.str (toString i)) else none
  | _ => none
theorem call_strD : CallD X (.type "str") strD := by
  intro pins s σ H vs us Q I rv h
  obtain ⟨F, ds, r, sm, p, hg, k⟩ := h
  unfold strD at hg
  split at hg
  · split at hg
    · rename_i hz
      cases hg
      obtain ⟨v, rfl, p1⟩ := p.one
      cases p1.int_inv
      exact call_str_int pins s σ H _ us Q I rv ⟨_, rfl, hz, k _ F H (.refl sm) (.str _)⟩
    · cases hg
  · cases hg

/-! ### min, max of some ints -/
def max2D : List D → Option D
  | [.int i, .int j] => some (.int (if j > i then j else i))
  | _ => none
theorem call_max2D (hc : X.calm = true) : CallD X (.builtin "max") max2D := by
  intro pins s σ H vs us Q I rv h
  obtain ⟨F, ds, r, sm, p, hg, k⟩ := h
  unfold max2D at hg
  split at hg
  · cases hg
    obtain ⟨v, u, rfl, p1, q1⟩ := p.two
    cases p1.int_inv; cases q1.int_inv
    exact call_max2 hc pins s σ H _ us Q I rv ⟨_, _, rfl, k _ F H (.refl sm) (.int _)⟩
  · cases hg
def min2D : List D → Option D
  | [.int i, .int j] => some (.int (if j < i then j else i))
  | _ => none
theorem call_min2D (hc : X.calm = true) : CallD X (.builtin "min") min2D := by
  intro pins s σ H vs us Q I rv h
  obtain ⟨F, ds, r, sm, p, hg, k⟩ := h
  unfold min2D at hg
  split at hg
  · cases hg
    obtain ⟨v, u, rfl, p1, q1⟩ := p.two
    cases p1.int_inv; cases q1.int_inv
    exact call_min2 hc pins s σ H _ us Q I rv ⟨_, _, rfl, k _ F H (.refl sm) (.int _)⟩
  · cases hg
def min3I (i j m : Int) : Int := let a := if j < i then j else i; if m < a then m else a
def min3D : List D → Option D
  | [.int i, .int j, .int m] => some (.int (min3I i j m))
  | _ => none
theorem call_min3D (hc : X.calm = true) : CallD X (.builtin "min") min3D := by
  intro pins s σ H vs us Q I rv h
  obtain ⟨F, ds, r, sm, p, hg, k⟩ := h
  unfold min3D at hg
  split at hg
  · rename_i i j m
    cases hg
    obtain ⟨v, u, x, rfl, p1, q1, q2⟩ := p.three
    cases p1.int_inv; cases q1.int_inv; cases q2.int_inv
    refine call_min3Nu hc pins s σ H _ us Q I rv ⟨.int i, .int j, .int m, .int (min3I i j m), rfl, ?_, k _ F H (.refl sm) (.int _)⟩
    have hl : ∀ x y : Int, nuLt (.int x) (.int y) = some (decide (x < y)) := fun _ _ => rfl
    unfold nuMin3 nuMin2 min3I
    rw [hl]
    by_cases h1 : j < i
    · by_cases h2 : m < j <;> simp [h1, h2, hl]
    · by_cases h2 : m < i <;> simp [h1, h2, hl]
  · cases hg

/-! ### min, max of a list of alike data -/
def alikeB (ds : List D) : Bool := ds.all fun x => !isNone x && ds.all fun y => PySem.W.alike x y
theorem alikeB_all {ds : List D} (h : alikeB ds = true) : AlikeAll ds := by
  unfold alikeB at h
  rw [List.all_eq_true] at h
  refine ⟨fun x hx y hy => ?_, fun x hx => ?_⟩
  · have := h x hx
    rw [Bool.and_eq_true, List.all_eq_true] at this
    exact this.2 y hy
  · have := h x hx
    rw [Bool.and_eq_true] at this
    exact isNone_ne (by simpa using this.1)
def minL : List D → Option D
  | [.list (d :: ds)] => if okDs (d :: ds) = true ∧ alikeB (d :: ds) = true then some (minD d ds) else none
  | [.tuple (d :: ds)] => if okDs (d :: ds) = true ∧ alikeB (d :: ds) = true then some (minD d ds) else none
  | _ => none
def maxL : List D → Option D
  | [.list (d :: ds)] => if okDs (d :: ds) = true ∧ alikeB (d :: ds) = true then some (maxD d ds) else none
  | [.tuple (d :: ds)] => if okDs (d :: ds) = true ∧ alikeB (d :: ds) = true then some (maxD d ds) else none
  | _ => none
/-- an item that reads as d is d -/
theorem item_is {F H : Hp} {pins : List (Addr × Obj)} {σ : L2.St} {s : Shared} {ds : List D} {ws : List V} {its : List Value} {i : Nat} {v : Value} {d : D} {h' : Heap} {bs : List Addr} (I : Inv X pins σ H s) (sm : Same F H) (ok : plainDs ds = true) (r : Reps X.w X.K F ws ds) (rv : Vals ws its) (hi : its[i]? = some v)
    (hk : ∀ b o, s.heap.get? b = some o → h'.get? b = some o) (hr : Reads h' v d bs) : ∃ x, RelV x v ∧ Rep X.w X.K F x d := by
  have hl : i < ws.length := by
    have := (List.getElem?_eq_some_iff.mp hi).1
    have := rv.length
    omega
  have hx : ws[i]? = some ws[i] := List.getElem?_eq_getElem hl
  obtain ⟨u, hu, ru⟩ := rv.get hx
  rw [hi] at hu
  cases hu
  obtain ⟨d', hd', rd⟩ := r.get' hx
  have pd : plainD d' = true := by
    have hm := List.mem_of_getElem? hd'
    clear hd' rd
    induction ds generalizing ws its i with
    | nil => cases hm
    | cons a as ih =>
      rw [plainDs, Bool.and_eq_true] at ok
      rcases List.mem_cons.mp hm with rfl | hm
      · exact ok.1
      · clear ih
        have : ∀ (l : List D), plainDs l = true → ∀ z ∈ l, plainD z = true := by
          intro l
          induction l with
          | nil => intro _ z hz; cases hz
          | cons b bs ih =>
            intro hb z hz
            rw [plainDs, Bool.and_eq_true] at hb
            rcases List.mem_cons.mp hz with rfl | hz
            · exact hb.1
            · exact ih hb.2 z hz
        exact this as ok.2 _ hm
  obtain ⟨as, r2⟩ := Rep.reads I pd (rd.mono sm) ru
  have e : d' = d := PySem.SeqAt.plain_unique d' d v as bs (by rw [← plain_eq]; exact pd) (reads_keeps hk r2) hr
  subst e
  exact ⟨_, ru, rd⟩
theorem call_minL (hc : X.calm = true) (hu : X.A.units + 64 < cLine) : CallD X (.builtin "min") minL := by
  intro pins s σ H vs us Q I rv h
  obtain ⟨F, ds, r, sm, p, hg, k⟩ := h
  unfold minL at hg
  split at hg
  · split at hg
    · rename_i d ds hz
      cases hg
      obtain ⟨v, rfl, p1⟩ := p.one
      obtain ⟨a, ws, rfl, h1, r1⟩ := p1.lst_inv sm
      obtain ⟨u, rfl, ru⟩ := vals1 rv
      cases ru
      obtain ⟨its, rvs, pl, hl⟩ := I.list h1
      have ok := okNs_plain _ _ hz.1
      obtain ⟨as, ra⟩ := Reps.reads I ok.1 (r1.mono sm) rvs
      refine min_list_data (I.ok.hd hc) pl.isList (by simpa using ra) (alikeB_all hz.2) (by have := ok.2; omega) fun i v h' tk bs hv hr hk => ?_
      obtain ⟨x, rx, rd⟩ := item_is I sm ok.1 r1 rvs (by simpa using hv) hk hr
      exact ⟨x, H, I.kept hk, rx, k x F H (.refl sm) rd⟩
    · cases hg
  · split at hg
    · rename_i d ds hz
      cases hg
      obtain ⟨v, rfl, p1⟩ := p.one
      obtain ⟨a, ws, rfl, h1, r1⟩ := p1.tup_inv sm
      obtain ⟨u, rfl, ru⟩ := vals1 rv
      cases ru
      obtain ⟨its, rvs, pl, hl⟩ := I.tuple h1
      have ok := okNs_plain _ _ hz.1
      obtain ⟨as, ra⟩ := Reps.reads I ok.1 (r1.mono sm) rvs
      refine min_tuple_data (I.ok.hd hc) (show s.heap.IsTuple a its.toArray from pl) (by simpa using ra) (alikeB_all hz.2) (by have := ok.2; omega) fun i v h' tk bs hv hr hk => ?_
      obtain ⟨x, rx, rd⟩ := item_is I sm ok.1 r1 rvs (by simpa using hv) hk hr
      exact ⟨x, H, I.kept hk, rx, k x F H (.refl sm) rd⟩
    · cases hg
  · cases hg
theorem call_maxL (hc : X.calm = true) (hu : X.A.units + 64 < cLine) : CallD X (.builtin "max") maxL := by
  intro pins s σ H vs us Q I rv h
  obtain ⟨F, ds, r, sm, p, hg, k⟩ := h
  unfold maxL at hg
  split at hg
  · split at hg
    · rename_i d ds hz
      cases hg
      obtain ⟨v, rfl, p1⟩ := p.one
      obtain ⟨a, ws, rfl, h1, r1⟩ := p1.lst_inv sm
      obtain ⟨u, rfl, ru⟩ := vals1 rv
      cases ru
      obtain ⟨its, rvs, pl, hl⟩ := I.list h1
      have ok := okNs_plain _ _ hz.1
      obtain ⟨as, ra⟩ := Reps.reads I ok.1 (r1.mono sm) rvs
      refine max_list_data (I.ok.hd hc) pl.isList (by simpa using ra) (alikeB_all hz.2) (by have := ok.2; omega) fun i v h' tk bs hv hr hk => ?_
      obtain ⟨x, rx, rd⟩ := item_is I sm ok.1 r1 rvs (by simpa using hv) hk hr
      exact ⟨x, H, I.kept hk, rx, k x F H (.refl sm) rd⟩
    · cases hg
  · split at hg
    · rename_i d ds hz
      cases hg
      obtain ⟨v, rfl, p1⟩ := p.one
      obtain ⟨a, ws, rfl, h1, r1⟩ := p1.tup_inv sm
      obtain ⟨u, rfl, ru⟩ := vals1 rv
      cases ru
      obtain ⟨its, rvs, pl, hl⟩ := I.tuple h1
      have ok := okNs_plain _ _ hz.1
      obtain ⟨as, ra⟩ := Reps.reads I ok.1 (r1.mono sm) rvs
      refine max_tuple_data (I.ok.hd hc) (show s.heap.IsTuple a its.toArray from pl) (by simpa using ra) (alikeB_all hz.2) (by have := ok.2; omega) fun i v h' tk bs hv hr hk => ?_
      obtain ⟨x, rx, rd⟩ := item_is I sm ok.1 r1 rvs (by simpa using hv) hk hr
      exact ⟨x, H, I.kept hk, rx, k x F H (.refl sm) rd⟩
    · cases hg
  · cases hg
/-- min of two alike data -/
theorem call_min_twoH {prog : Program} {w : World} {A : Around} {E : Value → Shared → Prop} {s : Shared} {a b : Value} {Q : Value → Shared → Prop}
    (h : wpAny (model prog w) A.in1 (pyIter (.ref s.heap.objs.size)) (fun it s₂ => ∃ I fp wr G n P St H bt, it = .ref I ∧ WalksS prog w A.in1 I fp wr G n P St ∧ St 0 s₂ ∧ (∀ b ∈ fp, b < s₂.heap.objs.size) ∧ 0 < n ∧
      (∀ b o, H.get? b = some o → b ∉ wr) ∧ (∀ b o, H.get? b = some o → s₂.heap.get? b = some o) ∧ CmpIn prog w A.in1 .Lt H P bt ∧ ∀ v s', P (argBest bt (n - 1)) v → Moved wr G s₂ s' → Q v s') E
      { s with heap := s.heap.push { cls := .type "tuple", data := .seq #[a, b] } }) :
    wpAny (model prog w) A (call (.builtin "min") [a, b]) Q E s := by
  have hname : (toString "min" ++ toString ".loop" : String) = "min.loop" := by decide
  refine call_function_tree F.kind_min F.plain_min F.entry_min (F.args_min2 _ _) ?_
  show wpAny _ A.in1 (Builtin.Builtins.bindParams "min" ["key", "default"] 0 ⟨[], []⟩ >>= _) _ _ s
  refine wpAny_bind (wpAny_of_eq (show Builtin.Builtins.bindParams "min" ["key", "default"] 0 ⟨[], []⟩ = pure [none, none] from rfl) ?_)
  show wpAny _ A.in1 (newTuple [a, b] >>= _) _ _ s
  refine wpAny_bind (wpAny_newObj_type ?_ (by show 2 ≤ sizeLine; decide))
  refine wpAny_bind (wpAny_mono h (fun it s₂ h₂ => ?_) fun _ _ e => e)
  obtain ⟨I, fp, wr, G, n, P, St, H, bt, rfl, W, hst, hfp, hn, hw, hkeep, hcmp, hQ⟩ := h₂
  refine wpAny_bind (wpAny_newObj_type ?_)
  have hSf : s₂.heap.objs.size ∉ fp := fun hm => Nat.lt_irrefl _ (hfp _ hm)
  rw [hname]
  refine wpAny_pure ⟨plainId_quiet F.plain_min_loop _, codeAny_min_loop_firstH W H hw bt hcmp s₂.heap.objs.size hSf (fresh_in hkeep) _ hn (fun b o e => Heap.get?_push_of_some _ (hkeep b o e)) (W.frame 0 s₂ _ s₂.toks hst (Nat.le_refl _) fun b _ o e => Heap.get?_push_of_some _ e) (Heap.get?_push_size _ rfl) fun v s' hP hm => ?_⟩
  exact hQ v s' hP (Moved.drop_new (tk := s₂.toks) hm (Nat.le_refl _))
def isMut : D → Bool
  | .list _ => true
  | .dict _ => true
  | _ => false
theorem PRep.rep_of {F H : Hp} {v : V} {d : D} (p : PRep X.w X.K F H v d) (h : isMut d = false) : Rep X.w X.K F v d := by
  cases p with
  | rep r => exact r
  | lst _ _ => cases h
  | dct _ _ => cases h
def min2L : List D → Option D
  | [d, e] => if (okDs [d, e] = true ∧ alikeB [d, e] = true) ∧ isMut d = false ∧ isMut e = false then some (if PySem.W.dataLt e d = true then e else d) else none
  | _ => none
theorem call_min2L (hc : X.calm = true) (hu : X.A.units + 64 < cLine) : CallD X (.builtin "min") min2L := by
  intro pins s σ H vs us Q I rv h
  obtain ⟨F, ds, r, sm, p, hg, k⟩ := h
  unfold min2L at hg
  split at hg
  · split at hg
    · rename_i d e hz
      cases hg
      obtain ⟨x, y, rfl, p1, p2⟩ := p.two
      obtain ⟨u1, u2, rfl, ru1, ru2⟩ := vals2 rv
      have ok := okNs_plain _ _ hz.1.1
      have okp := ok.1
      rw [plainDs, plainDs, Bool.and_eq_true, Bool.and_eq_true] at okp
      obtain ⟨as, ra⟩ := PRep.reads (w := X.w) (K := X.K) I sm okp.1 p1 ru1
      obtain ⟨bs, rb⟩ := PRep.reads (w := X.w) (K := X.K) I sm okp.2.1 p2 ru2
      have kp : ∀ b o, s.heap.get? b = some o → (s.heap.push { cls := .type "tuple", data := .seq #[u1, u2] }).get? b = some o := fun b o e => Heap.get?_push_of_some _ e
      have rall : ReadsAll (s.heap.push { cls := .type "tuple", data := .seq #[u1, u2] }) #[u1, u2].toList [d, e] _ := .cons (reads_keeps kp ra) (.cons (reads_keeps kp rb) .nil)
      have hT : (s.heap.push { cls := .type "tuple", data := .seq #[u1, u2] }).IsTuple s.heap.objs.size #[u1, u2] := ⟨_, Heap.get?_push_size _ rfl, rfl, 0, rfl⟩
      refine call_min_twoH (iter_tupleW (A := X.A.in1) (s := { s with heap := s.heap.push { cls := .type "tuple", data := .seq #[u1, u2] } }) (I.ok.hd hc) hT fun s₂ ee W st hfp hw hk => ?_)
      refine ⟨_, _, _, _, _, _, _, s.heap.push { cls := .type "tuple", data := .seq #[u1, u2] }, _, rfl, W, st, hfp, by simp, hw, hk, cmpIn_lt (s := { s with heap := s.heap.push { cls := .type "tuple", data := .seq #[u1, u2] } }) (A := X.A.in1) rall (alikeB_all hz.1.2) (by show X.A.units + 1 + _ < _; have := ok.2; omega), fun v s' hP m => ?_⟩
      obtain ⟨h', tk, rfl, hk'⟩ := moved_old ee rfl m
      have J : Inv X pins σ H { s with heap := h', toks := tk } := I.kept fun b o q => hk' b o (kp b o q)
      have hP' : v = if PySem.W.dataLt e d = true then u2 else u1 := by
        cases hlt : PySem.W.dataLt e d <;> simp [argBest, hlt] at hP <;> simp [hP]
      rw [hP']
      by_cases hlt : PySem.W.dataLt e d = true
      · rw [if_pos hlt] at k ⊢
        exact ⟨y, H, J, ru2, k y F H (.refl sm) (p2.rep_of hz.2.2)⟩
      · rw [if_neg hlt] at k ⊢
        exact ⟨x, H, J, ru1, k x F H (.refl sm) (p1.rep_of hz.2.1)⟩
    · cases hg
  · cases hg

/-! ### sum, all, any -/
def sumD : List D → Option D
  | [.list ds] => (intsOf ds).map fun ns => .int ns.sum
  | _ => none
theorem call_sumD (hc : X.calm = true) : CallD X (.builtin "sum") sumD := by
  intro pins s σ H vs us Q I rv h
  obtain ⟨F, ds, r, sm, p, hg, k⟩ := h
  unfold sumD at hg
  split at hg
  · obtain ⟨ns, hn, rfl⟩ := Option.map_eq_some_iff.mp hg
    obtain ⟨v, rfl, p1⟩ := p.one
    obtain ⟨a, ws, rfl, h1, r1⟩ := p1.lst_inv sm
    cases intsOf_some hn
    cases r1.ints_inv
    exact cr_sum hc pins s σ H _ us Q I rv ⟨a, ns, rfl, h1, k _ F H (.refl sm) (.int _)⟩
  · cases hg
def allD : List D → Option D
  | [.list ds] => (boolsOf ds).map fun ns => .bool (ns.all id)
  | _ => none
theorem call_allD (hc : X.calm = true) : CallD X (.builtin "all") allD := by
  intro pins s σ H vs us Q I rv h
  obtain ⟨F, ds, r, sm, p, hg, k⟩ := h
  unfold allD at hg
  split at hg
  · obtain ⟨ns, hn, rfl⟩ := Option.map_eq_some_iff.mp hg
    obtain ⟨v, rfl, p1⟩ := p.one
    obtain ⟨a, ws, rfl, h1, r1⟩ := p1.lst_inv sm
    cases boolsOf_some hn
    cases r1.bools_inv
    exact cr_all hc pins s σ H _ us Q I rv ⟨a, ns, rfl, h1, k _ F H (.refl sm) (.bl _)⟩
  · cases hg
def anyD : List D → Option D
  | [.list ds] => (boolsOf ds).map fun ns => .bool (ns.any id)
  | _ => none
theorem call_anyD (hc : X.calm = true) : CallD X (.builtin "any") anyD := by
  intro pins s σ H vs us Q I rv h
  obtain ⟨F, ds, r, sm, p, hg, k⟩ := h
  unfold anyD at hg
  split at hg
  · obtain ⟨ns, hn, rfl⟩ := Option.map_eq_some_iff.mp hg
    obtain ⟨v, rfl, p1⟩ := p.one
    obtain ⟨a, ws, rfl, h1, r1⟩ := p1.lst_inv sm
    cases boolsOf_some hn
    cases r1.bools_inv
    exact cr_any hc pins s σ H _ us Q I rv ⟨a, ns, rfl, h1, k _ F H (.refl sm) (.bl _)⟩
  · cases hg

/-! ### tuple(x), list(x) -/
def tupD : List D → Option D
  | [.list ds] => some (.tuple ds)
  | [.tuple ds] => some (.tuple ds)
  | _ => none
theorem call_tupD : CallD X (.type "tuple") tupD := by
  intro pins s σ H vs us Q I rv h
  obtain ⟨F, ds, r, sm, p, hg, k⟩ := h
  unfold tupD at hg
  split at hg
  · cases hg
    obtain ⟨v, rfl, p1⟩ := p.one
    obtain ⟨a, ws, rfl, h1, r1⟩ := p1.lst_inv sm
    exact call_tuple_of pins s σ H _ us Q I rv ⟨a, ws, rfl, .inl ⟨h1, fun l nl => k _ _ _ (.new sm nl) (.tup (.inl (.inl upd_same)) (r1.mono (same_upd (sm.free nl))))⟩⟩
  · cases hg
    obtain ⟨v, rfl, p1⟩ := p.one
    obtain ⟨a, ws, rfl, h1, r1⟩ := p1.tup_inv sm
    refine call_tuple_of pins s σ H _ us Q I rv ⟨a, ws, rfl, .inr ⟨h1, k _ F H (.refl sm) ?_⟩⟩
    cases p1 with
    | rep p1 => exact p1
  · cases hg
def listL : List D → Option (List D)
  | [.list ds] => some ds
  | [.tuple ds] => some ds
  | _ => none
theorem call_listL : CallL X (.type "list") listL := by
  intro pins s σ H vs us Q I rv h
  obtain ⟨F, ds, r, sm, p, hg, k⟩ := h
  unfold listL at hg
  split at hg
  · cases hg
    obtain ⟨v, rfl, p1⟩ := p.one
    obtain ⟨a, ws, rfl, h1, r1⟩ := p1.lst_inv sm
    exact call_list_of pins s σ H _ us Q I rv ⟨a, ws, rfl, .inl h1, fun l nl => k l ws F _ (.grow sm nl) nl (sm.free nl) upd_same r1⟩
  · cases hg
    obtain ⟨v, rfl, p1⟩ := p.one
    obtain ⟨a, ws, rfl, h1, r1⟩ := p1.tup_inv sm
    exact call_list_of pins s σ H _ us Q I rv ⟨a, ws, rfl, .inr h1, fun l nl => k l ws F _ (.grow sm nl) nl (sm.free nl) upd_same r1⟩
  · cases hg

/-! ### sorted(x) of a list or tuple of alike data -/
def sortableB (ds : List D) : Bool := (ds.all fun d => match d with | .tuple (_ :: _) => true | _ => false) || (ds.all fun d => match d with | .none => false | .tuple _ => false | _ => true)
theorem sortableB_ok {ds : List D} (h : sortableB ds = true) : PySem.W.Sortable ds := by
  unfold sortableB at h
  rw [Bool.or_eq_true, List.all_eq_true, List.all_eq_true] at h
  rcases h with h | h
  · refine .inl fun d hd => ?_
    have := h d hd
    split at this
    · exact ⟨_, _, rfl⟩
    · cases this
  · refine .inr fun d hd => ?_
    have := h d hd
    refine ⟨?_, fun xs => ?_⟩ <;> rintro rfl <;> cases this
def leData (d e : D) : Bool := !PySem.W.dataLt e d
def sortL : List D → Option (List D)
  | [.list ds] => if okDs ds = true ∧ alikeB ds = true ∧ sortableB ds = true then some (ds.mergeSort leData) else none
  | _ => none
theorem eachIs_of {α β : Type} {R : α → β → Prop} : ∀ {as : List α} {bs : List β}, as.length = bs.length → (∀ (i : Nat) (a : α) (b : β), as[i]? = some a → bs[i]? = some b → R a b) → PySem.W.EachIs R as bs
  | [], [], _, _ => .nil
  | [], _ :: _, h, _ => by simp at h
  | _ :: _, [], h, _ => by simp at h
  | a :: as, b :: bs, h, k => .cons (k 0 a b rfl rfl) (eachIs_of (by simpa using h) fun i x y hx hy => k (i + 1) x y hx hy)
theorem okDs_mem : ∀ {n : Nat} {ds : List D}, okNs n ds = true → ∀ d ∈ ds, okN n d = true
  | n, d :: ds, h, x, hx => by
    rw [okNs, Bool.and_eq_true] at h
    rcases List.mem_cons.mp hx with rfl | hx
    · exact h.1
    · exact okDs_mem h.2 x hx
theorem each_out {F : Hp} : ∀ {out : List Value} {es : List D}, PySem.W.EachIs (fun (u : Value) (d : D) => ∃ v, RelV v u ∧ Rep X.w X.K F v d) out es → ∃ ys, Vals ys out ∧ Reps X.w X.K F ys es
  | _, _, .nil => ⟨[], .nil, .nil⟩
  | _, _, .cons h t => by
    obtain ⟨v, a, b⟩ := h
    obtain ⟨ys, c, d⟩ := each_out t
    exact ⟨v :: ys, .cons a c, .cons b d⟩
theorem call_sortL (hu : X.A.units + 64 < cLine) : CallL X (.builtin "sorted") sortL := by
  intro pins s σ H vs us Q I rv h
  obtain ⟨F, ds, r, sm, p, hg, k⟩ := h
  unfold sortL at hg
  split at hg
  · split at hg
    · rename_i ds hz
      cases hg
      obtain ⟨v, rfl, p1⟩ := p.one
      obtain ⟨a, ws, rfl, h1, r1⟩ := p1.lst_inv sm
      obtain ⟨u, rfl, ru⟩ := vals1 rv
      cases ru
      obtain ⟨its, rvs, pl, hl⟩ := I.list h1
      have l1 := rvs.length
      have l2 := r1.length
      have ok := okNs_plain _ _ hz.1
      have e1 : PySem.W.EachIs (fun (u : Value) (d : D) => ∃ v, RelV v u ∧ Rep X.w X.K F v d) its ds := eachIs_of (by omega) fun i u d hi hd => by
        obtain ⟨v, hv, rd⟩ := r1.get hd
        obtain ⟨u', hu', ru⟩ := rvs.get hv
        rw [hi] at hu'
        cases hu'
        exact ⟨v, ru, rd⟩
      have e2 : PySem.W.EachIs (fun (u : Value) (d : D) => ∃ as, Reads s.heap u d as) its ds := eachIs_of (by omega) fun i u d hi hd => by
        obtain ⟨v, hv, rd⟩ := r1.get hd
        obtain ⟨u', hu', ru⟩ := rvs.get hv
        rw [hi] at hu'
        cases hu'
        exact Rep.reads I (okN_plain _ _ (okDs_mem hz.1 d (List.mem_of_getElem? hd))).1 (rd.mono sm) ru
      refine PySem.W.sorted_data (enc := fun d => d) pl.isList e1 e2 (by rw [List.map_id']; exact (alikeB_all hz.2.1).1) (by rw [List.map_id']; exact sortableB_ok hz.2.2) (by rw [← l2]; exact hl)
        (fun d hd => by have := (okN_plain _ _ (okDs_mem hz.1 d hd)).2; omega) fun out ho eo => ?_
      obtain ⟨c, hc⟩ := sortedAll_at s.heap its out.toArray
      obtain ⟨ys, hy, ry⟩ := each_out eo
      have hold : ∀ b o, s.heap.get? b = some o → (sortedAll s.heap its out.toArray).get? b = some o := fun b o e => sortedAll_old e
      have np : H (s.heap.objs.size + 1) = none := I.hok.fresh (Nat.le_succ _)
      have hylen : ys.length ≤ sizeLine := by rw [hy.length, ho, ← l2]; exact hl
      have J : Inv X pins σ (upd H (s.heap.objs.size + 1) (.lst ys)) { s with heap := sortedAll s.heap its out.toArray } := I.laid (t' := s.toks) hold (Nat.le_succ _) ⟨hylen, out, c, hy, hc⟩
      exact ⟨.ref (s.heap.objs.size + 1), _, J, rfl, k _ ys F _ (.grow sm np) np (sm.free np) upd_same ry⟩
    · cases hg
  · cases hg

/-! ### isinstance -/
def tyOf : D → String
  | .none => "NoneType"
  | .bool _ => "bool"
  | .int _ => "int"
  | .str _ => "str"
  | .list _ => "list"
  | .tuple _ => "tuple"
  | .dict _ => "dict"
def isDict : D → Bool
  | .dict _ => true
  | _ => false
def isiD (T : String) (d : D) : Option D := if isDict d = true then none else (kitB (tyOf d) T).map .bool
theorem PRep.tyX {F H : Hp} {pins : List (Addr × Obj)} {σ : L2.St} {s : Shared} {v : V} {d : D} (sm : Same F H) (p : PRep X.w X.K F H v d) (h : isDict d = false) : TyX X.K H v (.type (tyOf d)) := by
  cases d with
  | none => cases p.none_inv; exact .base .non
  | bool b => cases p.bool_inv; exact .base (.bl b)
  | int i => cases p.int_inv; exact .base (.int i)
  | str x => cases p.str_inv; exact .base (.str x)
  | list ds =>
    obtain ⟨a, vs, rfl, h1, r1⟩ := p.lst_inv sm
    rcases h1 with (h1 | ⟨o, h1⟩) | ⟨o, its, n, hk, hc, _⟩
    · exact .base (.lst h1)
    · exact .base (.frz h1)
    · exact .kList hk hc
  | tuple ds =>
    obtain ⟨a, vs, rfl, h1, r1⟩ := p.tup_inv sm
    rcases h1 with (h1 | ⟨o, h1⟩) | ⟨o, its, n, hk, hc, _⟩
    · exact .base (.tup h1)
    · exact .fTuple h1
    · exact .kTuple hk hc
  | dict _ => cases h
theorem de_isi {a : Expr} {x : Str} {p : Pos} {pos px : Pos} {T : String} {f : Env → Option D} (ha : DP X a f) (hg : Gl X "isinstance") (hm : X.mg "isinstance" = none) (hgT : Gl X x) (hmT : X.mg x = none) (hv : bootBuiltins x = some (.type T)) (hn : x ≠ "__name__" := by decide) (hdb : (x == ("__debug__" : Str)) = false := by decide)
    (he : starEach [a, .Name x px] X.env = (false, eval a X.env) :: starEach [.Name x px] X.env := by rfl) (he2 : starEach [.Name x px] X.env = (false, eval (.Name x px) X.env) :: starEach [] X.env := by rfl) (hpl : (backTo pos (starEach [.Name x px] X.env)).any (·.1) = false := by rfl)
    (hvi : bootBuiltins "isinstance" = some (.builtin "isinstance") := by decide +kernel) :
    DE X (.Call (.Name "isinstance" p) [a, .Name x px] [] pos) (fun ρ => (f ρ).bind (isiD T)) := by
  obtain ⟨t, q, h⟩ := ha.ex
  refine ⟨_, pe_callB call_isi hg hm hvi (pa_cons q (pa_cons (pe_bltn (v := .ty T) hgT hmT hv rfl hn hdb) pa_nil he2) he) (by decide) (by decide) he hpl, fun F σ H ρ d Q sl hf k => ?_⟩
  obtain ⟨y, hy, hf⟩ := Option.bind_eq_some_iff.mp hf
  refine h F σ H ρ y _ sl hy fun v F1 H1 e1 r1 => ?_
  unfold isiD at hf
  split at hf
  · cases hf
  · rename_i hd
    obtain ⟨b, hb, rfl⟩ := Option.map_eq_some_iff.mp hf
    exact ⟨v, .ty T, .type (tyOf y), .type T, b, rfl, .ty T, PRep.tyX (pins := []) (σ := σ) (s := X.s_0) e1.s r1 (by simpa using hd), kit_ty hb, k _ F1 H1 e1 (.bl b)⟩

/-! ### subscripts -/
def IxD (X : Cx) (g : D → D → Option D) : Prop :=
  IxR X (fun x y H Q => ∃ F d e r, Same F H ∧ PRep X.w X.K F H x d ∧ PRep X.w X.K F H y e ∧ g d e = some r ∧ ∀ v F' H', Ext F H F' H' → Rep X.w X.K F' v r → Q v H')
theorem de_ix {a b : Expr} {pos : Pos} {g : D → D → Option D} {fa fb : Env → Option D} (ho : IxD X g) (ha : DP X a fa) (hb : DP X b fb) (hs : PlainIx b := by exact fun _ _ => rfl) : DE X (.Subscript a b pos) (fun ρ => (fa ρ).bind fun x => (fb ρ).bind fun y => g x y) := by
  obtain ⟨t, p, q⟩ := ha.ex
  obtain ⟨t', p', q'⟩ := hb.ex
  refine ⟨_, pe_ix ho p p' hs, fun F σ H ρ d Q sl hf k => ?_⟩
  obtain ⟨x, hx, hf1⟩ := Option.bind_eq_some_iff.mp hf
  obtain ⟨y, hy, hf2⟩ := Option.bind_eq_some_iff.mp hf1
  refine q F σ H ρ x _ sl hx fun v F1 H1 e1 r1 => q' F1 σ H1 ρ y _ (sl.mono e1) hy fun u F2 H2 e2 r2 => ?_
  exact ⟨F2, x, y, d, e2.s, r1.mono e2, r2, hf2, fun v F' H' e3 r => k v F' H' ((e1.trans e2).trans e3) r⟩
def ixD : D → D → Option D
  | .list ds, .int i => atI ds i
  | .tuple ds, .int i => atI ds i
  | .str z, .int i => if z.length ≤ 16777216 then (atI z.cps.toList i).map fun c => .str ⟨#[c]⟩ else none
  | _, _ => none
theorem atI_reps {F : Hp} {vs : List V} {ds : List D} {i : Int} {d : D} (r : Reps X.w X.K F vs ds) (h : atI ds i = some d) : ∃ v, atI vs i = some v ∧ Rep X.w X.K F v d := by
  unfold atI at h ⊢
  obtain ⟨j, hj, hd⟩ := Option.bind_eq_some_iff.mp h
  obtain ⟨v, hv, rd⟩ := r.get hd
  exact ⟨v, by rw [r.length, hj]; exact hv, rd⟩
theorem ix_ixD : IxD X ixD := by
  intro value slice pins s σ H x y v u Q I rx ry h hs
  obtain ⟨F, d, e, r, sm, p1, p2, hg, k⟩ := h
  unfold ixD at hg
  split at hg
  · obtain ⟨a, vs, rfl, h1, r1⟩ := p1.lst_inv sm
    cases p2.int_inv
    obtain ⟨z, hz, rz⟩ := atI_reps r1 hg
    exact ix_list value slice pins s σ H _ _ v u Q I rx ry ⟨a, vs, _, z, rfl, rfl, h1, hz, k z F H (.refl sm) rz⟩ hs
  · obtain ⟨a, vs, rfl, h1, r1⟩ := p1.tup_inv sm
    cases p2.int_inv
    obtain ⟨z, hz, rz⟩ := atI_reps r1 hg
    exact ix_tup value slice pins s σ H _ _ v u Q I rx ry ⟨a, vs, _, z, rfl, rfl, h1, hz, k z F H (.refl sm) rz⟩ hs
  · split at hg
    · rename_i hz
      obtain ⟨c, hc, rfl⟩ := Option.map_eq_some_iff.mp hg
      cases p1.str_inv
      cases p2.int_inv
      exact ix_str value slice pins s σ H _ _ v u Q I rx ry ⟨_, _, c, rfl, rfl, by rw [sl16]; exact hz, hc, k _ F H (.refl sm) (.str _)⟩ hs
    · cases hg
  · cases hg

/-! ### slices -/
/-- a part of a slice -/
structure DO (X : Cx) (e : Option Expr) (f : Env → Option (Option Int)) : Prop where
  ex : ∃ t : TO, PO X e t ∧ ∀ (F : Hp) (σ : L2.St) (H : Hp) (ρ : Env) (o : Option Int) (Q : Option Int → Hp → Prop), Sl X.w X.K F σ H ρ → f ρ = some o →
    (∀ F' H', Ext F H F' H' → Q o H') → t σ H Q
theorem do_none : DO X none (fun _ => some none) := ⟨_, po_none, fun F σ H ρ o Q sl hf k => by cases hf; exact k F H (.refl sl.same)⟩
def intOf : D → Option Int
  | .int i => some i
  | _ => none
theorem do_some {e : Expr} {f : Env → Option D} (h : DP X e f) : DO X (some e) (fun ρ => ((f ρ).bind intOf).map some) := by
  obtain ⟨t, p, q⟩ := h.ex
  refine ⟨_, po_some p, fun F σ H ρ o Q sl hf k => ?_⟩
  obtain ⟨i, hi, rfl⟩ := Option.map_eq_some_iff.mp hf
  obtain ⟨d, hd, hi⟩ := Option.bind_eq_some_iff.mp hi
  cases d <;> simp only [intOf] at hi <;> try cases hi
  refine q F σ H ρ _ _ sl hd fun v F1 H1 e1 r1 => ⟨_, r1.int_inv, k F1 H1 e1⟩
def cutD (xs : List D) (lo hi : Option Int) : List D := (xs.drop (HT.sIx xs.length 0 lo)).take (HT.sIx xs.length xs.length hi - HT.sIx xs.length 0 lo)
theorem Reps.cut {F : Hp} {vs : List V} {ds : List D} (r : Reps X.w X.K F vs ds) (lo hi : Option Int) : Reps X.w X.K F (cutV vs lo hi) (cutD ds lo hi) := by
  unfold cutV cutD
  rw [r.length]
  exact (r.drop _).take _
/-- of a tuple or a text -/
def slD (d : D) (lo hi : Option Int) : Option D := match d with
  | .tuple ds => some (.tuple (cutD ds lo hi))
  | .str z => if z.length ≤ 16777216 then some (.str (cutS z lo hi)) else none
  | _ => none
/-- of a list -/
def slL (d : D) (lo hi : Option Int) : Option (List D) := match d with
  | .list ds => some (cutD ds lo hi)
  | _ => none
theorem cut_whole {ds : List D} {lo hi : Option Int} (h : HT.sIx ds.length 0 lo = 0 ∧ HT.sIx ds.length ds.length hi = ds.length) : cutD ds lo hi = ds := by
  unfold cutD
  rw [h.1, h.2]
  simp
def slR (X : Cx) : V → Option Int → Option Int → Hp → VK → Prop := fun x lo hi H Q => ∃ F d r, Same F H ∧ PRep X.w X.K F H x d ∧ slD d lo hi = some r ∧ ∀ v F' H', Ext F H F' H' → Rep X.w X.K F' v r → Q v H'
theorem sl_slD : SlR X (slR X) := by
  intro pins s σ H x v vl vu lo hi sl Q I rx hs pl pu h
  obtain ⟨F, d, r, sm, p, hg, k⟩ := h
  unfold slD at hg
  split at hg
  · cases hg
    have q := p
    obtain ⟨a, vs, rfl, h1, r1⟩ := p.tup_inv sm
    refine sl_tupA pins s σ H _ v vl vu lo hi sl Q I rx hs pl pu ⟨a, vs, rfl, h1, fun hw => ?_, fun hw l nl => ?_⟩
    · rw [r1.length] at hw
      rw [cut_whole hw] at k
      cases q with
      | rep q => exact k _ F H (.refl sm) q
    · exact k _ _ _ (.new sm nl) (.tup (.inl (.inl upd_same)) ((r1.cut lo hi).mono (same_upd (sm.free nl))))
  · split at hg
    · rename_i hz
      cases hg
      cases p.str_inv
      exact sl_str pins s σ H _ v vl vu lo hi sl Q I rx hs pl pu ⟨_, rfl, by rw [sl16]; exact hz, k _ F H (.refl sm) (.str _)⟩
    · cases hg
  · cases hg
theorem de_slice {a : Expr} {lo hi : Option Expr} {pos p2 : Pos} {f : Env → Option D} {g h : Env → Option (Option Int)} (ha : DP X a f) (hl : DO X lo g) (hh : DO X hi h) : DE X (.Subscript a (.Slice lo hi none p2) pos) (fun ρ => (f ρ).bind fun x => (g ρ).bind fun l => (h ρ).bind fun u => slD x l u) := by
  obtain ⟨t, p, q⟩ := ha.ex
  obtain ⟨t1, p1, q1⟩ := hl.ex
  obtain ⟨t2, p2, q2⟩ := hh.ex
  refine ⟨_, pe_slice sl_slD p p1 p2, fun F σ H ρ d Q sl hf k => ?_⟩
  obtain ⟨x, hx, hf1⟩ := Option.bind_eq_some_iff.mp hf
  obtain ⟨y, hy, hf2⟩ := Option.bind_eq_some_iff.mp hf1
  obtain ⟨z, hz, hf3⟩ := Option.bind_eq_some_iff.mp hf2
  refine q F σ H ρ x _ sl hx fun v F1 H1 e1 r1 => q1 F1 σ H1 ρ y _ (sl.mono e1) hy fun F2 H2 e2 => q2 F2 σ H2 ρ z _ ((sl.mono e1).mono e2) hz fun F3 H3 e3 => ?_
  exact ⟨F3, x, d, e3.s, (r1.mono e2).mono e3, hf3, fun v F' H' e4 r => k v F' H' (((e1.trans e2).trans e3).trans e4) r⟩
theorem fl_slice {a : Expr} {lo hi : Option Expr} {pos p2 : Pos} {f : Env → Option D} {g h : Env → Option (Option Int)} (ha : DP X a f) (hl : DO X lo g) (hh : DO X hi h) : FL X (.Subscript a (.Slice lo hi none p2) pos) (fun ρ => (f ρ).bind fun x => (g ρ).bind fun l => (h ρ).bind fun u => slL x l u) := by
  obtain ⟨t, p, q⟩ := ha.ex
  obtain ⟨t1, p1, q1⟩ := hl.ex
  obtain ⟨t2, p2, q2⟩ := hh.ex
  refine ⟨_, pe_slice sl_list p p1 p2, fun F σ H ρ d Q sl hf k => ?_⟩
  obtain ⟨x, hx, hf1⟩ := Option.bind_eq_some_iff.mp hf
  obtain ⟨y, hy, hf2⟩ := Option.bind_eq_some_iff.mp hf1
  obtain ⟨z, hz, hf3⟩ := Option.bind_eq_some_iff.mp hf2
  refine q F σ H ρ x _ sl hx fun v F1 H1 e1 r1 => q1 F1 σ H1 ρ y _ (sl.mono e1) hy fun F2 H2 e2 => q2 F2 σ H2 ρ z _ ((sl.mono e1).mono e2) hz fun F3 H3 e3 => ?_
  unfold slL at hf3
  split at hf3
  · cases hf3
    obtain ⟨a, vs, rfl, h1, r⟩ := ((r1.mono e2).mono e3).lst_inv e3.s
    refine ⟨a, vs, rfl, h1, fun l nl => ?_⟩
    have e := (e1.trans e2).trans e3
    exact k l _ F3 _ (e.trans (.grow e3.s nl)) (e.h.free nl) (e3.s.free nl) upd_same (r.cut _ _)
  · cases hf3

/-! ### list(range(..)) -/
def rgD (a b : Int) : List D := (List.range (b - a).toNat).map fun i => .int (a + (i : Nat))
theorem Reps.rg {F : Hp} (a b : Int) : Reps X.w X.K F (rgV a b) (rgD a b) := by
  unfold rgV rgD
  generalize List.range (b - a).toNat = l
  induction l with
  | nil => exact .nil
  | cons n l ih => exact .cons (.int _) ih
def rgOk (n : Int) : Prop := -1000000 ≤ n ∧ n ≤ 1000000
noncomputable instance (n : Int) : Decidable (rgOk n) := Classical.propDecidable _
noncomputable def rgL1 : D → Option (List D)
  | .int n => if rgOk n then some (rgD 0 n) else none
  | _ => none
theorem fl_listRg1 {a : Expr} {p p2 pos pos2 : Pos} {f : Env → Option D} (hc : X.calm = true) (ha : DP X a f) (hg : Gl X "list") (hm : X.mg "list" = none) (hgr : Gl X "range") (hmr : X.mg "range" = none)
    (na : starEach [a] X.env = (false, eval a X.env) :: starEach [] X.env := by rfl) (nb : starEach [.Call (.Name "range" p2) [a] [] pos2] X.env = (false, eval (.Call (.Name "range" p2) [a] [] pos2) X.env) :: starEach [] X.env := by rfl) :
    FL X (.Call (.Name "list" p) [.Call (.Name "range" p2) [a] [] pos2] [] pos) (fun ρ => (f ρ).bind rgL1) := by
  obtain ⟨t, q, h⟩ := ha.ex
  refine ⟨_, pe_listRg hc hg hm (prg_1 hgr hmr q na) nb, fun F σ H ρ d Q sl hf k => ?_⟩
  obtain ⟨x, hx, hf1⟩ := Option.bind_eq_some_iff.mp hf
  refine h F σ H ρ x _ sl hx fun v F1 H1 e1 r1 => ?_
  unfold rgL1 at hf1
  split at hf1
  · split at hf1
    · rename_i n hz
      unfold rgOk at hz
      cases hf1
      refine ⟨n, r1.int_inv, ⟨by omega, by omega, by omega, by omega, by omega⟩, fun l nl => ?_⟩
      exact k l _ F1 _ (e1.trans (.grow e1.s nl)) (e1.h.free nl) (e1.s.free nl) upd_same (Reps.rg 0 n)
    · cases hf1
  · cases hf1
end
end PD

/-! PD4: targets, what is walked, list comprehensions over plain data. -/
namespace PD
open PySem PySem.Spec PyProof.Rows L2

/-! ### readings in one form -/
def tDE (w : World) (K : PySem.W.Frag) (f : Env → Option D) : TE := fun σ H Q => ∃ F ρ d, Sl w K F σ H ρ ∧ f ρ = some d ∧ ∀ v F' H', Ext F H F' H' → Rep w K F' v d → Q v H'
def tDT (w : World) (K : PySem.W.Frag) (f : Env → Option Bool) : TT := fun σ H Q => ∃ F ρ b, Sl w K F σ H ρ ∧ f ρ = some b ∧ ∀ F' H', Ext F H F' H' → Q b H'
section
variable {X : Cx} {e : Expr}
theorem DE.pe {f : Env → Option D} (h : DE X e f) : PE X e (tDE X.w X.K f) := by
  obtain ⟨t, p, q⟩ := h.ex
  exact ⟨fun pins s σ H Q I ⟨F, ρ, d, sl, hf, k⟩ => p.run pins s σ H Q I (q F σ H ρ d Q sl hf k)⟩
theorem DT.pt {f : Env → Option Bool} (h : DT X e f) : PT X e (tDT X.w X.K f) := by
  obtain ⟨t, p, q⟩ := h.ex
  exact ⟨fun pins s σ H Q I ⟨F, ρ, d, sl, hf, k⟩ => p.run pins s σ H Q I (q F σ H ρ d Q sl hf k)⟩
end

/-! ### targets -/
abbrev Puts := List (Nat × D)
def setAll (σ : L2.St) (ws : List (Nat × V)) : L2.St := ws.foldl (fun s p => s.set p.1 (some p.2)) σ
def putAll (ρ : Env) (us : Puts) : Env := us.foldl (fun s p => s.set p.1 (.val p.2)) ρ
inductive PutsR (w : World) (K : PySem.W.Frag) (F : Hp) : List (Nat × V) → Puts → Prop
  | nil : PutsR w K F [] []
  | cons {i : Nat} {v : V} {d : D} {ws : List (Nat × V)} {us : Puts} : Rep w K F v d → PutsR w K F ws us → PutsR w K F ((i, v) :: ws) ((i, d) :: us)
theorem PutsR.append {w : World} {K : PySem.W.Frag} {F : Hp} : ∀ {ws ws' : List (Nat × V)} {us us' : Puts}, PutsR w K F ws us → PutsR w K F ws' us' → PutsR w K F (ws ++ ws') (us ++ us')
  | _, _, _, _, .nil, h => h
  | _, _, _, _, .cons r t, h => .cons r (PutsR.append t h)
theorem PutsR.ix {w : World} {K : PySem.W.Frag} {F : Hp} : ∀ {ws : List (Nat × V)} {us : Puts}, PutsR w K F ws us → ws.map (·.1) = us.map (·.1)
  | _, _, .nil => rfl
  | _, _, .cons _ t => by rw [List.map_cons, List.map_cons, PutsR.ix t]
def tDG (w : World) (K : PySem.W.Frag) (g : D → Option Puts) : TG := fun v σ H Q => ∃ F d us, Same F H ∧ Rep w K F v d ∧ g d = some us ∧ ∀ ws, PutsR w K F ws us → Q (setAll σ ws) H
def tDGs (w : World) (K : PySem.W.Frag) (g : List D → Option Puts) : TGs := fun vs σ H Q => ∃ F ds us, Same F H ∧ Reps w K F vs ds ∧ g ds = some us ∧ ∀ ws, PutsR w K F ws us → Q (setAll σ ws) H
/-- a target: which places it stores, and what -/
structure DG (X : Cx) (tg : Expr) (is : List Nat) (g : D → Option Puts) : Prop where
  pg : PG X tg (tDG X.w X.K g)
  ix : ∀ d us, g d = some us → us.map (·.1) = is
structure DGs (X : Cx) (tgs : List Expr) (is : List Nat) (g : List D → Option Puts) : Prop where
  pg : PGs X tgs (tDGs X.w X.K g)
  ix : ∀ d us, g d = some us → us.map (·.1) = is
section
variable {X : Cx} {pos : Pos}
theorem PG.imp {tg : Expr} {t t' : TG} (h : PG X tg t) (k : ∀ v σ H Q, t' v σ H Q → t v σ H Q) : PG X tg t' := ⟨fun pins s σ H v u Q I r q => h.run pins s σ H v u Q I r (k _ _ _ _ q)⟩
theorem PGs.imp {tg : List Expr} {t t' : TGs} (h : PGs X tg t) (k : ∀ v σ H Q, t' v σ H Q → t v σ H Q) : PGs X tg t' := ⟨fun pins s σ H v u Q I r q => h.run pins s σ H v u Q I r (k _ _ _ _ q)⟩
theorem dg_name {i : Nat} {tg : Expr} (h : PG X tg (gName i)) : DG X tg [i] (fun d => some [(i, d)]) := by
  refine ⟨PG.imp h fun v σ H Q q => ?_, fun d us e => by cases e; rfl⟩
  obtain ⟨F, d, us, sm, r, e, k⟩ := q
  cases e
  exact k [(i, v)] (.cons r .nil)
def gsNil : List D → Option Puts
  | [] => some []
  | _ => none
def gsCons (g : D → Option Puts) (gs : List D → Option Puts) : List D → Option Puts
  | d :: ds => (g d).bind fun a => (gs ds).map fun b => a ++ b
  | _ => none
theorem dgs_nil : DGs X [] [] gsNil := by
  refine ⟨PGs.imp pgs_nil fun v σ H Q q => ?_, fun d us e => ?_⟩
  · obtain ⟨F, d, us, sm, r, e, k⟩ := q
    cases r with
    | nil => cases e; exact ⟨rfl, k [] .nil⟩
    | cons _ _ => cases e
  · cases d with
    | nil => cases e; rfl
    | cons _ _ => cases e
theorem setAll_append (σ : L2.St) (a b : List (Nat × V)) : setAll σ (a ++ b) = setAll (setAll σ a) b := List.foldl_append
theorem dgs_cons {e : Expr} {es : List Expr} {is js : List Nat} {g : D → Option Puts} {gs : List D → Option Puts} (h1 : DG X e is g) (h2 : DGs X es js gs)
    (hs : (assignEach (e :: es) X.env).map (·.2) = assign e X.env :: (assignEach es X.env).map (·.2) := by rfl) : DGs X (e :: es) (is ++ js) (gsCons g gs) := by
  refine ⟨PGs.imp (pgs_cons h1.pg h2.pg hs) fun v σ H Q q => ?_, fun d us e => ?_⟩
  · obtain ⟨F, d, us, sm, r, e, k⟩ := q
    cases r with
    | nil => cases e
    | cons r t =>
      obtain ⟨a, ha, e⟩ := Option.bind_eq_some_iff.mp e
      obtain ⟨b, hb, rfl⟩ := Option.map_eq_some_iff.mp e
      refine ⟨_, _, rfl, F, _, a, sm, r, ha, fun ws hw => ⟨F, _, b, sm, t, hb, fun ws' hw' => ?_⟩⟩
      have := k (ws ++ ws') (hw.append hw')
      rw [setAll_append] at this
      exact this
  · cases d with
    | nil => cases e
    | cons d ds =>
      obtain ⟨a, ha, e⟩ := Option.bind_eq_some_iff.mp e
      obtain ⟨b, hb, rfl⟩ := Option.map_eq_some_iff.mp e
      rw [List.map_append, h1.ix _ _ ha, h2.ix _ _ hb]
def gTupD (n : Nat) (gs : List D → Option Puts) : D → Option Puts
  | .tuple ds => if ds.length = n then gs ds else none
  | _ => none
theorem dg_tup {es : List Expr} {k n : Nat} {is : List Nat} {gs : List D → Option Puts} (hc : X.calm = true) (h : DGs X es is gs)
    (hn : (assignEach es X.env).length = n := by rfl) (hst : (assignEach es X.env).findIdx? (·.1) = none := by rfl) : DG X (.Tuple es k pos) is (gTupD n gs) := by
  refine ⟨PG.imp (pg_tup hc h.pg hn hst) fun v σ H Q q => ?_, fun d us e => ?_⟩
  · obtain ⟨F, d, us, sm, r, e, k⟩ := q
    unfold gTupD at e
    split at e
    · split at e
      · rename_i hl
        obtain ⟨a, vs, rfl, h1, rs⟩ := r.tup_inv
        exact ⟨a, vs, rfl, SqT.mono sm h1, by rw [rs.length]; exact hl, F, _, us, sm, rs, e, k⟩
      · cases e
    · cases e
  · unfold gTupD at e
    split at e
    · split at e
      · exact h.ix _ _ e
      · cases e
    · cases e
end

section
variable {w : World} {K : PySem.W.Frag} {F H F0 B : Hp} {σ : L2.St} {ρ : Env}
theorem Sl.put {i : Nat} {v : V} {d : D} (h : Sl w K F σ H ρ) (r : Rep w K F v d) : Sl w K F (σ.set i (some v)) H (ρ.set i (.val d)) := by
  have hl := h.len
  refine ⟨h.same, by rw [List.length_set, List.length_set]; exact hl, fun j s hj => ?_⟩
  by_cases e : i = j
  · subst e
    have hi : i < ρ.length := by
      have := (List.getElem?_eq_some_iff.mp hj).1
      rw [List.length_set] at this
      exact this
    rw [List.getElem?_set_self hi] at hj
    cases hj
    exact ⟨v, by rw [List.getElem?_set_self (by omega)], r⟩
  · rw [List.getElem?_set_ne e] at hj ⊢
    exact h.slot j s hj
theorem EnvOk.put {i : Nat} {v : V} {d : D} (h : EnvOk w K F0 B F σ H ρ) (r : Rep w K F v d) : EnvOk w K F0 B F (σ.set i (some v)) H (ρ.set i (.val d)) := by
  have key : ∀ (j : Nat) (s : Slot), (ρ.set i (.val d))[j]? = some s → s.own = true → j ≠ i ∧ ρ[j]? = some s := fun j s hj ho => by
    by_cases e : i = j
    · subst e
      have hi : i < ρ.length := by
        have := (List.getElem?_eq_some_iff.mp hj).1
        rw [List.length_set] at this
        exact this
      rw [List.getElem?_set_self hi] at hj
      cases hj
      cases ho
    · rw [List.getElem?_set_ne e] at hj
      exact ⟨fun q => e q.symm, hj⟩
  refine ⟨h.sl.put r, h.ext, fun j s a hj ho hs => ?_, fun j k a s t hjk hj ho hk hk2 hs => ?_⟩
  · obtain ⟨n, q⟩ := key j s hj ho
    rw [List.getElem?_set_ne (Ne.symm n)] at hs
    exact h.own j s a q ho hs
  · obtain ⟨n, q⟩ := key j s hj ho
    obtain ⟨n2, q2⟩ := key k t hk hk2
    rw [List.getElem?_set_ne (Ne.symm n)] at hs
    rw [List.getElem?_set_ne (Ne.symm n2)]
    exact h.dis j k a s t hjk q ho q2 hk2 hs
end
theorem Sl.putAll {w : World} {K : PySem.W.Frag} {F H : Hp} {ws : List (Nat × V)} {us : Puts} (p : PutsR w K F ws us) : ∀ {s : L2.St} {r : Env}, Sl w K F s H r → Sl w K F (setAll s ws) H (PD.putAll r us) := by
  induction p with
  | nil => intro s r h; exact h
  | cons q t ih => intro s r h; exact ih (h.put q)
theorem EnvOk.putAll {w : World} {K : PySem.W.Frag} {F H F0 B : Hp} {ws : List (Nat × V)} {us : Puts} (p : PutsR w K F ws us) : ∀ {s : L2.St} {r : Env}, EnvOk w K F0 B F s H r → EnvOk w K F0 B F (setAll s ws) H (PD.putAll r us) := by
  induction p with
  | nil => intro s r h; exact h
  | cons q t ih => intro s r h; exact ih (h.put q)

/-! ### what is walked -/
/-- at every growth of the heap: the items are ds -/
def ItP (w : World) (K : PySem.W.Frag) (F1 H1 : Hp) (J : It) (ds : List D) : Prop :=
  ∀ (i : Nat) (F2 H2 : Hp), Ext F1 H1 F2 H2 → (∀ d, ds[i]? = some d → J.go i H2 ∧ ∀ x H3, J.yld i H2 x H3 → ∃ F3, Ext F2 H2 F3 H3 ∧ Rep w K F3 x d) ∧ (i = ds.length → J.stop i H2)
/-- .. wherever what is frozen stands -/
def ItS (w : World) (K : PySem.W.Frag) (F1 : Hp) (J : It) (ds : List D) : Prop :=
  ∀ (i : Nat) (F2 H2 : Hp), Same F1 F2 → Same F2 H2 → (∀ d, ds[i]? = some d → J.go i H2 ∧ ∀ x H3, J.yld i H2 x H3 → ∃ F3, Ext F2 H2 F3 H3 ∧ Rep w K F3 x d) ∧ (i = ds.length → J.stop i H2)
theorem ItS.p {w : World} {K : PySem.W.Frag} {F1 H1 : Hp} {J : It} {ds : List D} (h : ItS w K F1 J ds) : ItP w K F1 H1 J ds := fun i F2 H2 e => h i F2 H2 e.f e.s
/-- walked in a comprehension -/
structure DIP (X : Cx) (tg iter : Expr) (f : Env → Option (List D)) : Prop where
  ex : ∃ wi : TI, PI X tg iter wi ∧ ∀ (F : Hp) (σ : L2.St) (H : Hp) (ρ : Env) (ds : List D) (R : It → Hp → Prop), Sl X.w X.K F σ H ρ → f ρ = some ds →
    (∀ J F' H', Ext F H F' H' → ItP X.w X.K F' H' J ds → R J H') → wi σ H R
/-- walked by a for -/
structure DI (X : Cx) (tg iter : Expr) (f : Env → Option (List D)) : Prop where
  ex : ∃ wi : TI, PI X tg iter wi ∧ ∀ (F : Hp) (σ : L2.St) (H : Hp) (ρ : Env) (ds : List D) (R : It → Hp → Prop), Sl X.w X.K F σ H ρ → f ρ = some ds →
    (∀ J F' H', Ext F H F' H' → ItS X.w X.K F' J ds → R J H') → wi σ H R
section
variable {X : Cx} {tg : Expr}
theorem DI.p {iter : Expr} {f : Env → Option (List D)} (h : DI X tg iter f) : DIP X tg iter f := by
  obtain ⟨t, p, q⟩ := h.ex
  exact ⟨t, p, fun F σ H ρ ds R sl hf k => q F σ H ρ ds R sl hf fun J F' H' e i => k J F' H' e i.p⟩
def seqOf : D → Option (List D)
  | .list ds => some ds
  | _ => none
def tupOf : D → Option (List D)
  | .tuple ds => some ds
  | _ => none
theorem itl_ok {F : Hp} {a : Addr} {vs : List V} {ds : List D} (h1 : SqL X.K F a vs) (r : Reps X.w X.K F vs ds) : ItS X.w X.K F (Itl X.K a) ds := by
  intro i F2 H2 e1 e2
  have hq : SqL X.K H2 a vs := (e1.trans e2).seq h1
  refine ⟨fun d hd => ?_, fun hi => ⟨vs, hq, by rw [r.length]; omega⟩⟩
  obtain ⟨v, hv, rd⟩ := r.get hd
  refine ⟨⟨vs, v, hq, hv⟩, fun x H3 y => ?_⟩
  obtain ⟨rfl, y⟩ := y
  have e : x = v := by
    have := y vs hq
    rw [hv] at this
    exact (Option.some.inj this).symm
  subst e
  exact ⟨F2, .refl e2, rd.mono e1⟩
theorem itt_ok {F : Hp} {a : Addr} {vs : List V} {ds : List D} (h1 : SqT X.K F a vs) (r : Reps X.w X.K F vs ds) : ItS X.w X.K F (Itt X.K a) ds := by
  intro i F2 H2 e1 e2
  have hq : SqT X.K H2 a vs := SqT.mono (e1.trans e2) h1
  refine ⟨fun d hd => ?_, fun hi => ⟨vs, hq, by rw [r.length]; omega⟩⟩
  obtain ⟨v, hv, rd⟩ := r.get hd
  refine ⟨⟨vs, v, hq, hv⟩, fun x H3 y => ?_⟩
  obtain ⟨rfl, y⟩ := y
  have e : x = v := by
    have := y vs hq
    rw [hv] at this
    exact (Option.some.inj this).symm
  subst e
  exact ⟨F2, .refl e2, rd.mono e1⟩
theorem di_list {l : Expr} {f : Env → Option D} (h : DE X l f) : DI X tg l (fun ρ => (f ρ).bind seqOf) := by
  obtain ⟨t, p, q⟩ := h.ex
  refine ⟨_, pi_list p, fun F σ H ρ ds R sl hf k => ?_⟩
  obtain ⟨x, hx, hf1⟩ := Option.bind_eq_some_iff.mp hf
  refine q F σ H ρ x _ sl hx fun v F1 H1 e1 r1 => ?_
  cases x <;> simp only [seqOf] at hf1 <;> try cases hf1
  obtain ⟨a, vs, rfl, h1, r⟩ := r1.lst_inv
  exact ⟨a, rfl, ⟨vs, e1.s.seq h1⟩, k _ F1 H1 e1 (itl_ok h1 r)⟩
theorem dip_list {l : Expr} {f : Env → Option D} (h : DP X l f) : DIP X tg l (fun ρ => (f ρ).bind seqOf) := by
  obtain ⟨t, p, q⟩ := h.ex
  refine ⟨_, pi_list p, fun F σ H ρ ds R sl hf k => ?_⟩
  obtain ⟨x, hx, hf1⟩ := Option.bind_eq_some_iff.mp hf
  refine q F σ H ρ x _ sl hx fun v F1 H1 e1 r1 => ?_
  cases x <;> simp only [seqOf] at hf1 <;> try cases hf1
  obtain ⟨a, vs, rfl, h1, r⟩ := r1.lst_inv e1.s
  refine ⟨a, rfl, ⟨vs, h1⟩, k _ F1 H1 e1 fun i F2 H2 e2 => ?_⟩
  have hq : SqL X.K H2 a vs := e2.h.seq h1
  refine ⟨fun d hd => ?_, fun hi => ⟨vs, hq, by rw [r.length]; omega⟩⟩
  obtain ⟨v, hv, rd⟩ := r.get hd
  refine ⟨⟨vs, v, hq, hv⟩, fun x H3 y => ?_⟩
  obtain ⟨rfl, y⟩ := y
  have e : x = v := by
    have := y vs hq
    rw [hv] at this
    exact (Option.some.inj this).symm
  subst e
  exact ⟨F2, .refl e2.s, rd.mono e2.f⟩
theorem di_tup {l : Expr} {f : Env → Option D} (h : DE X l f) : DI X tg l (fun ρ => (f ρ).bind tupOf) := by
  obtain ⟨t, p, q⟩ := h.ex
  refine ⟨_, pi_tup p, fun F σ H ρ ds R sl hf k => ?_⟩
  obtain ⟨x, hx, hf1⟩ := Option.bind_eq_some_iff.mp hf
  refine q F σ H ρ x _ sl hx fun v F1 H1 e1 r1 => ?_
  cases x <;> simp only [tupOf] at hf1 <;> try cases hf1
  obtain ⟨a, vs, rfl, h1, r⟩ := r1.tup_inv
  exact ⟨a, rfl, ⟨vs, SqT.mono e1.s h1⟩, k _ F1 H1 e1 (itt_ok h1 r)⟩
/-- a range -/
def smallI (n : Int) : Prop := -4611686018427387904 ≤ n ∧ n < 4611686018427387904
noncomputable instance (n : Int) : Decidable (smallI n) := Classical.propDecidable _
theorem itr_ok {F : Hp} (lo : Int) (n : Nat) : ItS X.w X.K F (Itr lo n) ((List.range n).map fun i => .int (lo + (i : Nat))) := by
  intro i F2 H2 e1 e2
  refine ⟨fun d hd => ?_, fun hi => ?_⟩
  · rw [List.getElem?_map] at hd
    have hi : i < n := by
      by_cases h : i < n
      · exact h
      · rw [List.getElem?_eq_none (by simp; omega)] at hd; cases hd
    rw [List.getElem?_range hi] at hd
    cases hd
    refine ⟨hi, fun x H3 y => ?_⟩
    obtain ⟨rfl, rfl⟩ := y
    exact ⟨F2, .refl e2, .int _⟩
  · rw [List.length_map, List.length_range] at hi
    exact Nat.le_of_eq hi.symm
noncomputable def rg1 : List D → Option (List D)
  | [.int n] => if smallI n then some (rgD 0 n) else none
  | _ => none
noncomputable def rg2 : List D → Option (List D)
  | [.int a, .int b] => if smallI a ∧ smallI b then some (rgD a b) else none
  | _ => none
theorem di_range1 {a : Expr} {p pos : Pos} {f : Env → Option (List D)} (hg : Gl X "range") (hm : X.mg "range" = none) (ha : DA X [a] f) (hs : starEach [a] X.env = [(false, eval a X.env)] := by rfl) : DI X tg (.Call (.Name "range" p) [a] [] pos) (fun ρ => (f ρ).bind rg1) := by
  obtain ⟨t, q, h⟩ := ha.ex
  refine ⟨_, pi_range1 hg hm q hs, fun F σ H ρ ds R sl hf k => ?_⟩
  obtain ⟨x, hx, hf1⟩ := Option.bind_eq_some_iff.mp hf
  refine h F σ H ρ x _ sl hx fun v F1 H1 e1 r1 => ?_
  unfold rg1 at hf1
  split at hf1
  · split at hf1
    · rename_i n hz
      cases hf1
      obtain ⟨u, rfl, r2⟩ := r1.one
      refine ⟨n, by rw [r2.int_inv], hz.1, hz.2, k _ F1 H1 e1 ?_⟩
      have := itr_ok (X := X) (F := F1) 0 n.toNat
      unfold rgD
      rw [Int.sub_zero]
      exact this
    · cases hf1
  · cases hf1
theorem di_range2 {a b : Expr} {p pos : Pos} {f : Env → Option (List D)} (hg : Gl X "range") (hm : X.mg "range" = none) (ha : DA X [a, b] f) (hs : starEach [a, b] X.env = [(false, eval a X.env), (false, eval b X.env)] := by rfl) (hs2 : starEach [b] X.env = [(false, eval b X.env)] := by rfl) :
    DI X tg (.Call (.Name "range" p) [a, b] [] pos) (fun ρ => (f ρ).bind rg2) := by
  obtain ⟨t, q, h⟩ := ha.ex
  refine ⟨_, pi_range2 hg hm q hs hs2, fun F σ H ρ ds R sl hf k => ?_⟩
  obtain ⟨x, hx, hf1⟩ := Option.bind_eq_some_iff.mp hf
  refine h F σ H ρ x _ sl hx fun v F1 H1 e1 r1 => ?_
  unfold rg2 at hf1
  split at hf1
  · split at hf1
    · rename_i i j hz
      cases hf1
      obtain ⟨u, u', rfl, r2, r3⟩ := r1.two
      exact ⟨i, j, by rw [r2.int_inv, r3.int_inv], ⟨hz.1.1, hz.1.2, hz.2.1, hz.2.2⟩, k _ F1 H1 e1 (itr_ok i _)⟩
    · cases hf1
  · cases hf1
/-- enumerate of a list -/
def enumD (ds : List D) : List D := ds.zipIdx.map fun p => .tuple [.int (p.2 : Nat), p.1]
theorem enumD_get (ds : List D) (i : Nat) : (enumD ds)[i]? = (ds[i]?).map fun d => .tuple [.int (i : Nat), d] := by
  unfold enumD
  rw [List.getElem?_map, List.getElem?_zipIdx]
  cases ds[i]? <;> simp
theorem enumD_len (ds : List D) : (enumD ds).length = ds.length := by unfold enumD; rw [List.length_map, List.length_zipIdx]
theorem tup2 {F H : Hp} {p : Addr} {x y : V} {d e : D} (r1 : Rep X.w X.K F x d) (r2 : Rep X.w X.K F y e) (sm : Same F H) (np : H p = none) : Rep X.w X.K (upd F p (.tup [x, y])) (.ref p) (.tuple [d, e]) :=
  .tup (.inl (.inl upd_same)) (.cons (r1.mono (same_upd (sm.free np))) (.cons (r2.mono (same_upd (sm.free np))) .nil))
theorem ite_ok {F : Hp} {a : Addr} {vs : List V} {ds : List D} (h1 : SqL X.K F a vs) (r : Reps X.w X.K F vs ds) : ItS X.w X.K F (Ite X.K a) (enumD ds) := by
  intro i F2 H2 e1 e2
  have hq : SqL X.K H2 a vs := (e1.trans e2).seq h1
  refine ⟨fun d hd => ?_, fun hi => ⟨vs, hq, by rw [r.length]; rw [enumD_len] at hi; omega⟩⟩
  rw [enumD_get] at hd
  obtain ⟨d0, hd0, rfl⟩ := Option.map_eq_some_iff.mp hd
  obtain ⟨v, hv, rd⟩ := r.get hd0
  refine ⟨⟨vs, v, hq, hv⟩, fun x H3 y => ?_⟩
  obtain ⟨T, y1, rfl, nT, rfl, y2⟩ := y
  have e : y1 = v := by
    have := y2 vs hq
    rw [hv] at this
    exact (Option.some.inj this).symm
  subst e
  exact ⟨_, .new e2 nT, tup2 (.int _) (rd.mono e1) e2 nT⟩
end
end PD

/-! PD5: list comprehensions over plain data. -/
namespace PD
open PySem PySem.Spec PyProof.Rows L2

def wipeE (ρ : Env) : List Nat → Env
  | [] => ρ
  | v :: vs => (wipeE ρ vs).set v .un
theorem wipe_get (σ : L2.St) : ∀ (vs : List Nat) (j : Nat), (wipe σ vs)[j]? = if j ∈ vs then (if j < σ.length then some none else none) else σ[j]?
  | [], j => by simp [wipe]
  | v :: vs, j => by
    unfold wipe
    by_cases h : v = j
    · subst h
      rw [if_pos (List.mem_cons_self)]
      by_cases hl : v < σ.length
      · rw [if_pos hl, List.getElem?_set_self (by rw [wipe_length]; exact hl)]
      · rw [if_neg hl, List.getElem?_eq_none (by rw [List.length_set, wipe_length]; omega)]
    · rw [List.getElem?_set_ne h, wipe_get σ vs j]
      have : j ∈ v :: vs ↔ j ∈ vs := by
        rw [List.mem_cons]
        exact ⟨fun q => q.elim (fun z => absurd z.symm h) id, .inr⟩
      by_cases hm : j ∈ vs
      · rw [if_pos hm, if_pos (this.mpr hm)]
      · rw [if_neg hm, if_neg fun z => hm (this.mp z)]
theorem wipeE_get (ρ : Env) : ∀ (vs : List Nat) (j : Nat) (s : Slot), (wipeE ρ vs)[j]? = some s → s = .un ∨ ρ[j]? = some s
  | [], j, s, h => .inr h
  | v :: vs, j, s, h => by
    unfold wipeE at h
    by_cases hv : v = j
    · subst hv
      by_cases hl : v < (wipeE ρ vs).length
      · rw [List.getElem?_set_self hl] at h
        cases h
        exact .inl rfl
      · rw [List.getElem?_eq_none (by rw [List.length_set]; omega)] at h
        cases h
    · rw [List.getElem?_set_ne hv] at h
      exact wipeE_get ρ vs j s h
theorem wipeE_un (ρ : Env) : ∀ (vs : List Nat) (j : Nat) (s : Slot), (wipeE ρ vs)[j]? = some s → j ∈ vs → s = .un
  | [], j, s, h, hm => by cases hm
  | v :: vs, j, s, h, hm => by
    unfold wipeE at h
    by_cases hv : v = j
    · subst hv
      by_cases hl : v < (wipeE ρ vs).length
      · rw [List.getElem?_set_self hl] at h
        cases h
        rfl
      · rw [List.getElem?_eq_none (by rw [List.length_set]; omega)] at h
        cases h
    · rw [List.getElem?_set_ne hv] at h
      rcases List.mem_cons.mp hm with e | hm
      · exact absurd e.symm hv
      · exact wipeE_un ρ vs j s h hm
theorem wipeE_length (ρ : Env) : ∀ vs : List Nat, (wipeE ρ vs).length = ρ.length
  | [] => rfl
  | v :: vs => by unfold wipeE; rw [List.length_set, wipeE_length ρ vs]
theorem setAll_length : ∀ (ws : List (Nat × V)) (σ : L2.St), (setAll σ ws).length = σ.length
  | [], _ => rfl
  | p :: ws, σ => by
    show (setAll (σ.set p.1 (some p.2)) ws).length = _
    rw [setAll_length ws, List.length_set]
theorem setAll_out : ∀ (ws : List (Nat × V)) (σ : L2.St) (j : Nat), j ∉ ws.map (·.1) → (setAll σ ws)[j]? = σ[j]?
  | [], _, _, _ => rfl
  | p :: ws, σ, j, h => by
    rw [List.map_cons, List.mem_cons, not_or] at h
    show (setAll (σ.set p.1 (some p.2)) ws)[j]? = _
    rw [setAll_out ws _ j h.2, List.getElem?_set_ne (Ne.symm h.1)]
theorem wipe_setAll {σ : L2.St} {vs : List Nat} {ws : List (Nat × V)} (h : ∀ i ∈ ws.map (·.1), i ∈ vs) : wipe (setAll (wipe σ vs) ws) vs = wipe σ vs := by
  refine List.ext_getElem? fun j => ?_
  rw [wipe_get, wipe_get, setAll_length, wipe_length]
  by_cases hj : j ∈ vs
  · rw [if_pos hj, if_pos hj]
  · rw [if_neg hj, if_neg hj, setAll_out ws _ j fun q => hj (h j q), wipe_get, if_neg hj]
theorem Sl.wipe {w : World} {K : PySem.W.Frag} {F H : Hp} {σ : L2.St} {ρ : Env} (h : Sl w K F σ H ρ) (vs : List Nat) : Sl w K F (L2.wipe σ vs) H (wipeE ρ vs) := by
  refine ⟨h.same, by rw [wipeE_length, wipe_length]; exact h.len, fun j s hj => ?_⟩
  rcases wipeE_get ρ vs j s hj with rfl | hs
  · exact True.intro
  · by_cases hm : j ∈ vs
    · rw [wipeE_un ρ vs j s hj hm]
      exact True.intro
    · rw [wipe_get, if_neg hm]
      exact h.slot j s hs
theorem Ext.wr {F H F' H' : Hp} {p : Addr} {o : HO} (e : Ext F H F' H') (n : H p = none) (nf : F' p = none) : Ext F H F' (upd H' p o) := by
  refine ⟨e.f, fun b x q => ?_, fun b x q => ?_, e.n⟩
  · rw [upd_ne (ne_of_none q n)]; exact e.h _ _ q
  · rw [upd_ne (ne_of_none q nf)]; exact e.s _ _ q

/-- [elt for target in items if test], item by item -/
def lcGo (vs : List Nat) (g : D → Option Puts) (tt : Env → Option Bool) (fe : Env → Option D) (ρ : Env) : List D → Option (List D)
  | [] => some []
  | x :: xs => (g x).bind fun us => (tt (putAll (wipeE ρ vs) us)).bind fun b => if b = true then (fe (putAll (wipeE ρ vs) us)).bind fun y => (lcGo vs g tt fe ρ xs).map fun ys => y :: ys else lcGo vs g tt fe ρ xs
def lcF (vs : List Nat) (f : Env → Option (List D)) (g : D → Option Puts) (tt : Env → Option Bool) (fe : Env → Option D) (ρ : Env) : Option (List D) :=
  (f ρ).bind fun ds => if ds.length ≤ 16777216 then lcGo vs g tt fe ρ ds else none

/-- a clause's tests -/
structure DTs (X : Cx) (ifs : List Expr) (f : Env → Option Bool) : Prop where
  pts : PTs X ifs (tDT X.w X.K f)
section
variable {X : Cx}
theorem dts_nil : DTs X [] (fun _ => some true) := ⟨⟨fun pins s σ H Q I ⟨F, ρ, b, sl, hf, k⟩ => by
  cases hf
  exact pts_nil.run pins s σ H Q I (k F H (.refl sl.same))⟩⟩
theorem dts_one {c : Expr} {f : Env → Option Bool} (h : DT X c f) : DTs X [c] f := ⟨pts_one h.pt⟩

theorem tLc_ok {w : World} {K : PySem.W.Frag} {F H : Hp} {σ : L2.St} {ρ : Env} {ds out : List D} {wi : TI} {vs is : List Nat} {g : D → Option Puts} {tt : Env → Option Bool} {fe : Env → Option D} {Q : VK}
    (sl : Sl w K F σ H ρ) (hix : ∀ d us, g d = some us → us.map (·.1) = is) (hsub : ∀ i ∈ is, i ∈ vs) (hl : ds.length ≤ 16777216) (hgo : lcGo vs g tt fe ρ ds = some out)
    (hwi : ∀ R : It → Hp → Prop, (∀ J F' H', Ext F H F' H' → ItP w K F' H' J ds → R J H') → wi σ H R)
    (k : ∀ a ws F' H', Ext F H F' H' → H a = none → F' a = none → H' a = some (.lst ws) → Reps w K F' ws out → Q (.ref a) H') :
    tLc wi (tDG w K g) (tDT w K tt) (tDE w K fe) vs σ H Q := by
  refine hwi _ fun J F1 H1 e1 it D nD => ?_
  refine ⟨fun i m H' => m = ds.length - i ∧ i ≤ ds.length ∧ ∃ F' vacc dacc, Ext F1 H1 F' H' ∧ F' D = none ∧ H' D = some (.lst vacc) ∧ Reps w K F' vacc dacc ∧ dacc.length ≤ i ∧ ∃ rest, lcGo vs g tt fe ρ (ds.drop i) = some rest ∧ dacc ++ rest = out,
    ⟨ds.length, by omega, Nat.zero_le _, F1, [], [], .grow e1.s nD, e1.s.free nD, upd_same, .nil, Nat.le_refl _, out, hgo, rfl⟩, ?_⟩
  rintro i m H2 ⟨rfl, hi, F2, vacc, dacc, e2, nF, hD, racc, hlen, rest, hrest, hout⟩
  obtain ⟨it1, it2⟩ := it i F2 H2 e2
  by_cases hlt : i < ds.length
  · obtain ⟨go, yl⟩ := it1 ds[i] (List.getElem?_eq_getElem hlt)
    refine .inr ⟨go, fun H' => ∃ F' vacc dacc, Ext F1 H1 F' H' ∧ F' D = none ∧ H' D = some (.lst vacc) ∧ Reps w K F' vacc dacc ∧ dacc.length ≤ i + 1 ∧ ∃ rest, lcGo vs g tt fe ρ (ds.drop (i + 1)) = some rest ∧ dacc ++ rest = out,
      fun H' h' => ⟨ds.length - (i + 1), by omega, rfl, hlt, h'⟩, fun x H3 y => ?_⟩
    obtain ⟨F3, e3, rx⟩ := yl x H3 y
    rw [List.drop_eq_getElem_cons hlt] at hrest
    unfold lcGo at hrest
    obtain ⟨us, hus, h1⟩ := Option.bind_eq_some_iff.mp hrest
    obtain ⟨b, hb, h2⟩ := Option.bind_eq_some_iff.mp h1
    refine ⟨F3, ds[i], us, e3.s, rx, hus, fun ws hw => ⟨wipe_setAll ?_, ?_⟩⟩
    · intro j hj
      rw [hw.ix, hix _ _ hus] at hj
      exact hsub j hj
    · have sl3 : Sl w K F3 (setAll (L2.wipe σ vs) ws) H3 (putAll (wipeE ρ vs) us) := Sl.putAll hw (((sl.mono e1).mono (e2.trans e3)).wipe vs)
      refine ⟨F3, _, b, sl3, hb, fun F4 H4 e4 => ?_⟩
      have e24 := (e2.trans e3).trans e4
      have nF4 : F4 D = none := (e3.trans e4).none_of hD nF
      have hD4 : H4 D = some (.lst vacc) := (e3.trans e4).h _ _ hD
      cases b with
      | false =>
        simp only [Bool.false_eq_true, if_false] at h2 ⊢
        exact ⟨F4, vacc, dacc, e24, nF4, hD4, racc.mono (e3.trans e4).f, Nat.le_succ_of_le hlen, rest, h2, hout⟩
      | true =>
        simp only [if_true] at h2 ⊢
        obtain ⟨yd, hyd, h3⟩ := Option.bind_eq_some_iff.mp h2
        obtain ⟨rest', hr', rfl⟩ := Option.map_eq_some_iff.mp h3
        refine ⟨F4, _, yd, sl3.mono e4, hyd, fun v F5 H5 e5 r5 => ⟨vacc, e5.h _ _ hD4, ?_, ?_⟩⟩
        · have := racc.length
          rw [sl16]
          omega
        · refine ⟨F5, vacc ++ [v], dacc ++ [yd], (e24.trans e5).wr nD (e5.none_of hD4 nF4), e5.none_of hD4 nF4, upd_same, (racc.mono ((e3.trans e4).trans e5).f).append (.one r5), ?_, rest', hr', ?_⟩
          · rw [List.length_append, List.length_singleton]; omega
          · rw [List.append_assoc]; exact hout
  · have hi' : i = ds.length := by omega
    refine .inl ⟨it2 hi', k D vacc F2 H2 (e1.trans e2) (e1.h.free nD) nF hD ?_⟩
    rw [hi', List.drop_length] at hrest
    cases hrest
    rw [List.append_nil] at hout
    subst hout
    exact racc
/-- [elt for target in iter if ..] as a value -/
theorem fl_lc {elt tg iter : Expr} {ifs : List Expr} {scope : Scope} {own : List (Str × Nat)} {pos : Pos} {is : List Nat} {f : Env → Option (List D)} {g : D → Option Puts} {tt : Env → Option Bool} {fe : Env → Option D} (hc : X.calm = true) (hN : X.N.Nodup) (hi : DIP X tg iter f) (ok : BlkOk X.N X.env.scope scope own)
    (hg : ∀ (s : Shared) (H : Hp) (C : Addr) (cl : List (Str × Addr)) (fp : List Addr), DG (X.blk s H scope (compEnvC scope cl C X.env) fp) tg is g)
    (ht : ∀ (s : Shared) (H : Hp) (C : Addr) (cl : List (Str × Addr)) (fp : List Addr), DTs (X.blk s H scope (compEnvC scope cl C X.env) fp) ifs tt)
    (he : ∀ (s : Shared) (H : Hp) (C : Addr) (cl : List (Str × Addr)) (fp : List Addr), DE (X.blk s H scope (compEnvC scope cl C X.env) fp) elt fe)
    (hsub : ∀ i ∈ is, i ∈ own.map (·.2) := by decide) (hs : ∀ x, foldedSetIterable iter X.env x = pure x := by intro _; rfl) :
    FL X (.ListComp elt [⟨tg, iter, ifs, 0⟩] scope pos) (lcF (own.map (·.2)) f g tt fe) := by
  obtain ⟨wi, p, q⟩ := hi.ex
  refine ⟨_, pe_lc (g := tDG X.w X.K g) (tt := tDT X.w X.K tt) (te := tDE X.w X.K fe) hc hN p ok (fun s H C cl fp => (hg s H C cl fp).pg) (fun s H C cl fp => (ht s H C cl fp).pts) (fun s H C cl fp => (he s H C cl fp).pe) hs, fun F σ H ρ out Q sl hf k => ?_⟩
  obtain ⟨ds, hds, h1⟩ := Option.bind_eq_some_iff.mp hf
  split at h1
  · rename_i hl
    exact tLc_ok sl (hg X.s_0 H 0 [] []).ix hsub hl h1 (fun R h => q F σ H ρ ds R sl hds h) k
  · cases h1
end
end PD

/-! PD6: statements over plain data. -/
namespace PD
open PySem PySem.Spec PyProof.Rows L2

inductive Out where
  | nx (ρ : Env)
  | rt (d : D)
  | bk (ρ : Env)
  | ct (ρ : Env)
def EndsOk (w : World) (K : PySem.W.Frag) (F0 B F : Hp) (De : Ends) : Out → Prop
  | .nx ρ => ∀ F' σ' H', Same F F' → EnvOk w K F0 B F' σ' H' ρ → De.nx σ' H'
  | .rt d => ∀ v F' H', Ext F0 B F' H' → Rep w K F' v d → De.rt v H'
  | .bk ρ => ∀ F' σ' H', Same F F' → EnvOk w K F0 B F' σ' H' ρ → De.bk σ' H'
  | .ct ρ => ∀ F' σ' H', Same F F' → EnvOk w K F0 B F' σ' H' ρ → De.ct σ' H'
theorem EndsOk.mono {w : World} {K : PySem.W.Frag} {F0 B F F' : Hp} {De : Ends} {o : Out} (e : Same F F') (h : EndsOk w K F0 B F De o) : EndsOk w K F0 B F' De o := by
  cases o with
  | nx ρ => exact fun F2 σ' H' s => h F2 σ' H' (e.trans s)
  | rt d => exact h
  | bk ρ => exact fun F2 σ' H' s => h F2 σ' H' (e.trans s)
  | ct ρ => exact fun F2 σ' H' s => h F2 σ' H' (e.trans s)
structure DS (X : Cx) (st : Stmt) (g : Env → Option Out) : Prop where
  ex : ∃ t : TS, PS X st t ∧ ∀ (F0 B F : Hp) (σ : L2.St) (H : Hp) (ρ : Env) (o : Out) (De : Ends), EnvOk X.w X.K F0 B F σ H ρ → g ρ = some o → EndsOk X.w X.K F0 B F De o → t De σ H
structure DSs (X : Cx) (st : List Stmt) (g : Env → Option Out) : Prop where
  ex : ∃ t : TS, PSs X st t ∧ ∀ (F0 B F : Hp) (σ : L2.St) (H : Hp) (ρ : Env) (o : Out) (De : Ends), EnvOk X.w X.K F0 B F σ H ρ → g ρ = some o → EndsOk X.w X.K F0 B F De o → t De σ H

section
variable {X : Cx} {st : Stmt} {sts : List Stmt} {e : Expr} {pos : Pos}
def thenF (g h : Env → Option Out) (ρ : Env) : Option Out := (g ρ).bind fun o => match o with
  | .nx ρ' => h ρ'
  | o => some o
theorem dss_nil : DSs X [] (fun ρ => some (.nx ρ)) := ⟨_, pss_nil, fun F0 B F σ H ρ o De en hg k => by cases hg; exact k F σ H (Same.refl _) en⟩
theorem dss_cons {g h : Env → Option Out} (h1 : DS X st g) (h2 : DSs X sts h) : DSs X (st :: sts) (thenF g h) := by
  obtain ⟨t, p, q⟩ := h1.ex
  obtain ⟨t2, p2, q2⟩ := h2.ex
  refine ⟨_, pss_cons p p2, fun F0 B F σ H ρ o De en hg k => ?_⟩
  obtain ⟨o1, h3, h4⟩ := Option.bind_eq_some_iff.mp hg
  refine q F0 B F σ H ρ o1 _ en h3 ?_
  cases o1 with
  | nx ρ' => exact fun F' σ' H' s en' => q2 F0 B F' σ' H' ρ' o De en' h4 (k.mono s)
  | rt d => cases h4; exact k
  | bk ρ' => cases h4; exact k
  | ct ρ' => cases h4; exact k
theorem dss_one {g : Env → Option Out} (h1 : DS X st g) : DSs X [st] g := by
  obtain ⟨t, p, q⟩ := h1.ex
  exact ⟨_, pss_one p, q⟩

/-! ### freezing -/
def frz (i : Nat) (ρ : Env) : Env := match ρ[i]? with
  | some (.ol ds) => ρ.set i (.val (.list ds))
  | some (.od kvs) => ρ.set i (.val (.dict kvs))
  | _ => ρ
theorem EnvOk.frzAt {w : World} {K : PySem.W.Frag} {F H F0 B : Hp} {σ : L2.St} {ρ : Env} {i : Nat} {a : Addr} {o : HO} {s : Slot} {d : D} (h : EnvOk w K F0 B F σ H ρ) (hs : ρ[i]? = some s) (ho : s.own = true) (ha : σ[i]? = some (some (.ref a))) (nF : F a = none) (hH : H a = some o)
    (r : Rep w K (upd F a o) (.ref a) d) : Same F (upd F a o) ∧ EnvOk w K F0 B (upd F a o) σ H (ρ.set i (.val d)) := by
  have nB := h.own i s a hs ho ha
  have sF : Same F (upd F a o) := same_upd nF
  have e1 : Ext F0 B (upd F a o) H := by
    refine ⟨h.ext.f.trans sF, h.ext.h, fun b x q => ?_, fun b hb => ?_⟩
    · by_cases hb : b = a
      · subst hb; rw [upd_same] at q; rw [hH]; exact q
      · rw [upd_ne hb] at q; exact h.sl.same _ _ q
    · have : b ≠ a := fun z => hb (by rw [z]; exact nB)
      rw [upd_ne this]; exact h.ext.n _ hb
  have key : ∀ (j : Nat) (t : Slot), (ρ.set i (.val d))[j]? = some t → t.own = true → j ≠ i ∧ ρ[j]? = some t := fun j t hj ho => by
    by_cases e : i = j
    · subst e
      have hi : i < ρ.length := by
        have := (List.getElem?_eq_some_iff.mp hj).1
        rw [List.length_set] at this
        exact this
      rw [List.getElem?_set_self hi] at hj
      cases hj
      cases ho
    · rw [List.getElem?_set_ne e] at hj
      exact ⟨fun q => e q.symm, hj⟩
  refine ⟨sF, ⟨e1.s, by rw [List.length_set]; exact h.sl.len, fun j t hj => ?_⟩, e1, fun j t b hj ho2 hb => ?_, fun j k b t t' hjk hj ho2 hk hk2 hb => ?_⟩
  · by_cases e : i = j
    · subst e
      rw [List.getElem?_set_self (List.getElem?_eq_some_iff.mp hs).1] at hj
      cases hj
      exact ⟨_, ha, r⟩
    · rw [List.getElem?_set_ne e] at hj
      have q := h.sl.slot j t hj
      cases t with
      | un => exact True.intro
      | val d2 => obtain ⟨v, a1, b1⟩ := q; exact ⟨v, a1, b1.mono sF⟩
      | ol ds =>
        obtain ⟨b, vs, h1, h2, h3, h4⟩ := q
        have hne : b ≠ a := fun z => by
          subst z
          exact h.dis i j b s _ e hs ho hj rfl ha h1
        exact ⟨b, vs, h1, by rw [upd_ne hne]; exact h2, h3, h4.mono sF⟩
      | od kvs =>
        obtain ⟨b, vs, h1, h2, h3, h4⟩ := q
        have hne : b ≠ a := fun z => by
          subst z
          exact h.dis i j b s _ e hs ho hj rfl ha h1
        exact ⟨b, vs, h1, by rw [upd_ne hne]; exact h2, h3, h4.mono sF⟩
  · obtain ⟨_, q⟩ := key j t hj ho2
    exact h.own j t b q ho2 hb
  · obtain ⟨_, q⟩ := key j t hj ho2
    obtain ⟨_, q2⟩ := key k t' hk hk2
    exact h.dis j k b t t' hjk q ho2 q2 hk2 hb
theorem EnvOk.lkAt {w : World} {K : PySem.W.Frag} {F H F0 B : Hp} {σ : L2.St} {ρ : Env} {i : Nat} {a : Addr} {o o' : HO} {s : Slot} {d : D} (h : EnvOk w K F0 B F σ H ρ) (hs : ρ[i]? = some s) (ho : s.own = true) (ha : σ[i]? = some (some (.ref a))) (nF : F a = none) (hH : H a = some o)
    (r : Rep w K (upd F a o') (.ref a) d) : Same F (upd F a o') ∧ EnvOk w K F0 B (upd F a o') σ (upd H a o') (ρ.set i (.val d)) := by
  have nB := h.own i s a hs ho ha
  have sF : Same F (upd F a o') := same_upd nF
  have e1 : Ext F0 B (upd F a o') (upd H a o') := by
    refine ⟨h.ext.f.trans sF, fun b x q => ?_, fun b x q => ?_, fun b hb => ?_⟩
    · rw [upd_ne (ne_of_none q nB)]; exact h.ext.h _ _ q
    · by_cases hb : b = a
      · subst hb; rw [upd_same] at q ⊢; exact q
      · rw [upd_ne hb] at q ⊢; exact h.sl.same _ _ q
    · have : b ≠ a := fun z => hb (by rw [z]; exact nB)
      rw [upd_ne this]; exact h.ext.n _ hb
  have key : ∀ (j : Nat) (t : Slot), (ρ.set i (.val d))[j]? = some t → t.own = true → j ≠ i ∧ ρ[j]? = some t := fun j t hj ho => by
    by_cases e : i = j
    · subst e
      have hi : i < ρ.length := by
        have := (List.getElem?_eq_some_iff.mp hj).1
        rw [List.length_set] at this
        exact this
      rw [List.getElem?_set_self hi] at hj
      cases hj
      cases ho
    · rw [List.getElem?_set_ne e] at hj
      exact ⟨fun q => e q.symm, hj⟩
  refine ⟨sF, ⟨e1.s, by rw [List.length_set]; exact h.sl.len, fun j t hj => ?_⟩, e1, fun j t b hj ho2 hb => ?_, fun j k b t t' hjk hj ho2 hk hk2 hb => ?_⟩
  · by_cases e : i = j
    · subst e
      rw [List.getElem?_set_self (List.getElem?_eq_some_iff.mp hs).1] at hj
      cases hj
      exact ⟨_, ha, r⟩
    · rw [List.getElem?_set_ne e] at hj
      have q := h.sl.slot j t hj
      cases t with
      | un => exact True.intro
      | val d2 => obtain ⟨v, a1, b1⟩ := q; exact ⟨v, a1, b1.mono sF⟩
      | ol ds =>
        obtain ⟨b, vs, h1, h2, h3, h4⟩ := q
        have hne : b ≠ a := fun z => by
          subst z
          exact h.dis i j b s _ e hs ho hj rfl ha h1
        exact ⟨b, vs, h1, by rw [upd_ne hne]; exact h2, by rw [upd_ne hne]; exact h3, h4.mono sF⟩
      | od kvs =>
        obtain ⟨b, vs, h1, h2, h3, h4⟩ := q
        have hne : b ≠ a := fun z => by
          subst z
          exact h.dis i j b s _ e hs ho hj rfl ha h1
        exact ⟨b, vs, h1, by rw [upd_ne hne]; exact h2, by rw [upd_ne hne]; exact h3, h4.mono sF⟩
  · obtain ⟨_, q⟩ := key j t hj ho2
    exact h.own j t b q ho2 hb
  · obtain ⟨_, q⟩ := key j t hj ho2
    obtain ⟨_, q2⟩ := key k t' hk hk2
    exact h.dis j k b t t' hjk q ho2 q2 hk2 hb
/-- .. where a thing may be locked first -/
def tFz (t : TS) : TS := fun De σ H => t De σ H ∨ ∃ a u, H a = some u ∧ Mut (some u) ∧ ∀ od, t De σ (upd H a (.frz od u))
theorem pss_fz {t : TS} (h : PSs X sts t) : PSs X sts (tFz t) := by
  refine ⟨fun pins s σ H De I hw => ?_⟩
  rcases hw with hw | ⟨a, u, ha, mu, hw⟩
  · exact h.run pins s σ H De I hw
  · obtain ⟨od, I2⟩ := I.lock ha mu
    exact h.run pins s σ _ De I2 (hw od)
theorem ps_fz {t : TS} (h : PS X st t) : PS X st (tFz t) := by
  refine ⟨fun pins s σ H De I hw => ?_⟩
  rcases hw with hw | ⟨a, u, ha, mu, hw⟩
  · exact h.run pins s σ H De I hw
  · obtain ⟨od, I2⟩ := I.lock ha mu
    exact h.run pins s σ _ De I2 (hw od)
theorem EnvOk.frz {w : World} {K : PySem.W.Frag} {F H F0 B : Hp} {σ : L2.St} {ρ : Env} (h : EnvOk w K F0 B F σ H ρ) (i : Nat) (R : Hp → Hp → Prop) (hR : ∀ F' H', Same F F' → EnvOk w K F0 B F' σ H' (PD.frz i ρ) → R F' H') :
    (∃ F', R F' H) ∨ ∃ a u, H a = some u ∧ Mut (some u) ∧ ∀ od, ∃ F', R F' (upd H a (.frz od u)) := by
  unfold PD.frz at hR
  split at hR
  · rename_i ds hs
    obtain ⟨a, vs, h1, h2, h3, h4⟩ := h.sl.slot i _ hs
    obtain ⟨s, e⟩ := h.frzAt hs rfl h1 h2 h3 (.lst (.inl (.inl upd_same)) (h4.mono (same_upd h2)))
    exact .inl ⟨_, hR _ _ s e⟩
  · rename_i ds hs
    obtain ⟨a, vs, h1, h2, h3, h4⟩ := h.sl.slot i _ hs
    refine .inr ⟨a, _, h3, trivial, fun od => ?_⟩
    obtain ⟨s, e⟩ := h.lkAt (o' := .frz od (dictO w a vs)) hs rfl h1 h2 h3 (.dct upd_same (h4.mono (same_upd h2)))
    exact ⟨_, hR _ _ s e⟩
  · exact .inl ⟨F, hR _ _ (Same.refl _) h⟩
theorem dss_frz {g : Env → Option Out} (i : Nat) (h : DSs X sts g) : DSs X sts (fun ρ => g (PD.frz i ρ)) := by
  obtain ⟨t, p, q⟩ := h.ex
  refine ⟨_, pss_fz p, fun F0 B F σ H ρ o De en hg k => ?_⟩
  rcases en.frz i (fun F' H' => t De σ H') (fun F' H' s en' => q F0 B F' σ H' _ o De en' hg (k.mono s)) with ⟨_, z⟩ | ⟨a, u, ha, mu, z⟩
  · exact .inl z
  · exact .inr ⟨a, u, ha, mu, fun od => (z od).choose_spec⟩
theorem ds_frz {g : Env → Option Out} (i : Nat) (h : DS X st g) : DS X st (fun ρ => g (PD.frz i ρ)) := by
  obtain ⟨t, p, q⟩ := h.ex
  refine ⟨_, ps_fz p, fun F0 B F σ H ρ o De en hg k => ?_⟩
  rcases en.frz i (fun F' H' => t De σ H') (fun F' H' s en' => q F0 B F' σ H' _ o De en' hg (k.mono s)) with ⟨_, z⟩ | ⟨a, u, ha, mu, z⟩
  · exact .inl z
  · exact .inr ⟨a, u, ha, mu, fun od => (z od).choose_spec⟩

/-! ### name = e -/
def setF (i : Nat) (f : Env → Option D) (ρ : Env) : Option Out := (f ρ).map fun d => .nx (ρ.set i (.val d))
def setLF (i : Nat) (f : Env → Option (List D)) (ρ : Env) : Option Out := (f ρ).map fun d => .nx (ρ.set i (.ol d))
def setDF (i : Nat) (f : Env → Option (List (D × D))) (ρ : Env) : Option Out := (f ρ).map fun d => .nx (ρ.set i (.od d))
/-- PS of an assignment, by the reading of its right side -/
theorem ds_setP {i : Nat} {f : Env → Option D} (he : DE X e f) (h : ∀ t, PE X e t → PS X st (tAsg t (gName i))) : DS X st (setF i f) := by
  obtain ⟨t, p, q⟩ := he.ex
  refine ⟨_, h t p, fun F0 B F σ H ρ o De en hg k => ?_⟩
  obtain ⟨d, hd, rfl⟩ := Option.map_eq_some_iff.mp hg
  exact q F σ H ρ d _ en.sl hd fun v F' H' e1 r => k F' _ H' e1.f ((en.mono e1).put r)
theorem EnvOk.putOwn {w : World} {K : PySem.W.Frag} {F H F0 B F' H' : Hp} {σ : L2.St} {ρ : Env} {i : Nat} {a : Addr} {s : Slot} (h : EnvOk w K F0 B F σ H ρ) (e : Ext F H F' H') (n : H a = none) (nF : F' a = none)
    (hs : SlotAt w K F' H' (some (some (.ref a))) s) : EnvOk w K F0 B F' (σ.set i (some (.ref a))) H' (ρ.set i s) := by
  have nB : B a = none := h.ext.h.free n
  have h' := h.mono e
  have key : ∀ (j : Nat) (t : Slot), (ρ.set i s)[j]? = some t → t.own = true → (j = i ∧ (σ.set i (some (.ref a)))[j]? = some (some (.ref a))) ∨ (j ≠ i ∧ ρ[j]? = some t) := fun j t hj ho => by
    by_cases q : i = j
    · subst q
      have hi : i < ρ.length := by
        have := (List.getElem?_eq_some_iff.mp hj).1
        rw [List.length_set] at this
        exact this
      have hl := h.sl.len
      exact .inl ⟨rfl, by rw [List.getElem?_set_self (by omega)]⟩
    · rw [List.getElem?_set_ne q] at hj
      exact .inr ⟨fun z => q z.symm, hj⟩
  have old : ∀ (j : Nat) (t : Slot) (b : Addr), ρ[j]? = some t → t.own = true → σ[j]? = some (some (.ref b)) → b ≠ a := fun j t b hj ho hb z => by
    obtain ⟨c, u, h1, h2, h3⟩ := (h.sl.slot j t hj).ref ho
    rw [h1] at hb
    cases hb
    rw [z, n] at h3
    cases h3
  refine ⟨⟨h'.sl.same, by rw [List.length_set, List.length_set]; exact h.sl.len, fun j t hj => ?_⟩, h'.ext, fun j t b hj ho hb => ?_, fun j k b t t' hjk hj ho hk hk2 hb => ?_⟩
  · by_cases q : i = j
    · subst q
      have hi : i < ρ.length := by
        have := (List.getElem?_eq_some_iff.mp hj).1
        rw [List.length_set] at this
        exact this
      have hl := h.sl.len
      rw [List.getElem?_set_self hi] at hj
      cases hj
      rw [List.getElem?_set_self (by omega)]
      exact hs
    · rw [List.getElem?_set_ne q] at hj ⊢
      exact h'.sl.slot j t hj
  · rcases key j t hj ho with ⟨q, q2⟩ | ⟨q, q2⟩
    · rw [q2] at hb
      cases hb
      exact nB
    · rw [List.getElem?_set_ne (Ne.symm q)] at hb
      exact h.own j t b q2 ho hb
  · rcases key j t hj ho with ⟨q, q2⟩ | ⟨q, q2⟩
    · rw [q2] at hb
      cases hb
      rcases key k t' hk hk2 with ⟨q3, q4⟩ | ⟨q3, q4⟩
      · exact absurd (q.trans q3.symm) hjk
      · rw [List.getElem?_set_ne (Ne.symm q3)]
        exact fun z => old k t' a q4 hk2 z rfl
    · rw [List.getElem?_set_ne (Ne.symm q)] at hb
      rcases key k t' hk hk2 with ⟨q3, q4⟩ | ⟨q3, q4⟩
      · rw [q4]
        intro z
        cases z
        exact old j t a q2 ho hb rfl
      · rw [List.getElem?_set_ne (Ne.symm q3)]
        exact h.dis j k b t t' hjk q2 ho q4 hk2 hb
theorem ds_setLP {i : Nat} {f : Env → Option (List D)} (he : FL X e f) (h : ∀ t, PE X e t → PS X st (tAsg t (gName i))) : DS X st (setLF i f) := by
  obtain ⟨t, p, q⟩ := he.ex
  refine ⟨_, h t p, fun F0 B F σ H ρ o De en hg k => ?_⟩
  obtain ⟨d, hd, rfl⟩ := Option.map_eq_some_iff.mp hg
  exact q F σ H ρ d _ en.sl hd fun a vs F' H' e1 n nF ha r => k F' _ H' e1.f (en.putOwn e1 n nF ⟨a, vs, rfl, nF, ha, r⟩)
theorem ds_setDP {i : Nat} {f : Env → Option (List (D × D))} (he : FD X e f) (h : ∀ t, PE X e t → PS X st (tAsg t (gName i))) : DS X st (setDF i f) := by
  obtain ⟨t, p, q⟩ := he.ex
  refine ⟨_, h t p, fun F0 B F σ H ρ o De en hg k => ?_⟩
  obtain ⟨d, hd, rfl⟩ := Option.map_eq_some_iff.mp hg
  exact q F σ H ρ d _ en.sl hd fun a vs F' H' e1 n nF ha r => k F' _ H' e1.f (en.putOwn e1 n nF ⟨a, vs, rfl, nF, ha, r⟩)
/-- name = [..] on one line -/
theorem ds_setLc {i : Nat} {y : Str} {py : Pos} {elt tg iter : Expr} {ifs : List Expr} {scope : Scope} {own : List (Str × Nat)} {spos : Pos} {is : List Nat} {f : Env → Option (List D)} {g : D → Option Puts} {tt : Env → Option Bool} {fe : Env → Option D} (hc : X.calm = true) (hN : X.N.Nodup) (hy : X.N[i]? = some y) (hyl : X.env.scope.names.lookup y = some .local)
    (hsw : swapsWith (.ListComp elt [⟨tg, iter, ifs, 0⟩] scope pos) (some (.Name y py)) spos.line X.env = pure true) (hi : DIP X tg iter f) (ok : BlkOk X.N X.env.scope scope own)
    (hg : ∀ (s : Shared) (H : Hp) (C : Addr) (cl : List (Str × Addr)) (fp : List Addr), DG (X.blk s H scope (compEnvC scope cl C X.env) fp) tg is g)
    (ht : ∀ (s : Shared) (H : Hp) (C : Addr) (cl : List (Str × Addr)) (fp : List Addr), DTs (X.blk s H scope (compEnvC scope cl C X.env) fp) ifs tt)
    (he : ∀ (s : Shared) (H : Hp) (C : Addr) (cl : List (Str × Addr)) (fp : List Addr), DE (X.blk s H scope (compEnvC scope cl C X.env) fp) elt fe)
    (hsub : ∀ i ∈ is, i ∈ own.map (·.2) := by decide) (hs : ∀ x, foldedSetIterable iter X.env x = pure x := by intro _; rfl) :
    DS X (.Assign [.Name y py] (.ListComp elt [⟨tg, iter, ifs, 0⟩] scope pos) spos) (setLF i (lcF (own.map (·.2)) f g tt fe)) := by
  obtain ⟨wi, p, q⟩ := hi.ex
  refine ⟨_, ps_setLc (g := tDG X.w X.K g) (tt := tDT X.w X.K tt) (te := tDE X.w X.K fe) hc hN hy hyl hsw p ok (fun s H C cl fp => (hg s H C cl fp).pg) (fun s H C cl fp => (ht s H C cl fp).pts) (fun s H C cl fp => (he s H C cl fp).pe) hs, fun F0 B F σ H ρ o De en hgg k => ?_⟩
  obtain ⟨out, hf, rfl⟩ := Option.map_eq_some_iff.mp hgg
  obtain ⟨ds, hds, h1⟩ := Option.bind_eq_some_iff.mp hf
  split at h1
  · rename_i hl
    exact tLc_ok en.sl (hg X.s_0 H 0 [] []).ix hsub hl h1 (fun R h => q F σ H ρ ds R en.sl hds h) fun a vs F' H' e1 n nF ha r => k F' _ H' e1.f (en.putOwn e1 n nF ⟨a, vs, rfl, nF, ha, r⟩)
  · cases h1

/-! ### target = e (names in tuples) -/
def asgF (f : Env → Option D) (g : D → Option Puts) (ρ : Env) : Option Out := (f ρ).bind fun d => (g d).map fun us => .nx (putAll ρ us)
theorem ds_asg {tg : Expr} {is : List Nat} {f : Env → Option D} {g : D → Option Puts} (he : DE X e f) (hg : DG X tg is g) (hs : swapsWithSole [tg] e pos.line X.env = pure false := by rfl) (hw : swappedStores [tg] e X.env = pure none := by rfl)
    (h1 : (assignEach [tg] X.env).map (·.2) = [assign tg X.env] := by rfl) : DS X (.Assign [tg] e pos) (asgF f g) := by
  obtain ⟨t, p, q⟩ := he.ex
  refine ⟨_, ps_asg p hg.pg hs hw h1, fun F0 B F σ H ρ o De en hgg k => ?_⟩
  obtain ⟨d, hd, h2⟩ := Option.bind_eq_some_iff.mp hgg
  obtain ⟨us, hus, rfl⟩ := Option.map_eq_some_iff.mp h2
  exact q F σ H ρ d _ en.sl hd fun v F' H' e1 r => ⟨F', d, us, e1.s, r, hus, fun ws hw => k F' _ H' e1.f (EnvOk.putAll hw (en.mono e1))⟩
/-- a, b = x, y with plain local names -/
def parF (i j : Nat) (f : Env → Option (List D)) (ρ : Env) : Option Out := (f ρ).bind fun ds => match ds with
  | [d, e] => some (.nx ((ρ.set i (.val d)).set j (.val e)))
  | _ => none
theorem ds_par {i j : Nat} {x y : Str} {a b : Expr} {px py pt : Pos} {kt k2 pt2} {f : Env → Option (List D)} (hc : X.calm = true) (hN : X.N.Nodup) (hi : X.N[i]? = some x) (hj : X.N[j]? = some y) (hij : i ≠ j)
    (hx : X.env.scope.names.lookup x = some .local) (hy : X.env.scope.names.lookup y = some .local) (ha : DAE X [a, b] f)
    (hw : swappedStores [.Tuple [.Name x px, .Name y py] kt pt] (.Tuple [a, b] k2 pt2) X.env = pure (some [x, y]))
    (hs : swapsWithSole [.Tuple [.Name x px, .Name y py] kt pt] (.Tuple [a, b] k2 pt2) pos.line X.env = pure false := by rfl) :
    DS X (.Assign [.Tuple [.Name x px, .Name y py] kt pt] (.Tuple [a, b] k2 pt2) pos) (parF i j f) := by
  obtain ⟨t, p, q⟩ := ha.ex
  refine ⟨_, ps_par hc hN hi hj hij hx hy p hw hs, fun F0 B F σ H ρ o De en hgg k => ?_⟩
  obtain ⟨ds, hd, h2⟩ := Option.bind_eq_some_iff.mp hgg
  refine q F σ H ρ ds _ en.sl hd fun vs F' H' e1 r => ?_
  split at h2
  · cases h2
    cases r with
    | cons r1 r2 =>
      cases r2 with
      | cons r2 r3 =>
        cases r3
        exact ⟨_, _, rfl, k F' _ H' e1.f (((en.mono e1).put r1).put r2)⟩
  · cases h2
/-- name op= e -/
def augF (i : Nat) (f : Env → Option D) (g : D → D → Option D) (ρ : Env) : Option Out := (getP ρ i).bind fun x => (f ρ).bind fun y => (g x y).map fun z => .nx (ρ.set i (.val z))
theorem ds_aug {i : Nat} {x : Str} {op : Operator} {pos' : Pos} {f : Env → Option D} {g : D → D → Option D} (hN : X.N.Nodup) (hi : X.N[i]? = some x) (hx : Loc X.env.scope x) (he : DP X e f) (ho : OpD X (inplaceOp op) g) (hf : X.fn x = true ∨ X.env.scope.names.lookup x = some .local := by first | exact .inl rfl | exact .inr rfl | assumption) :
    DS X (.AugAssign (.Name x pos') op e pos) (augF i f g) := by
  obtain ⟨t, p, q⟩ := he.ex
  refine ⟨_, ps_aug (ti := fun x y H Q => ∃ F d e r, Same F H ∧ PRep X.w X.K F H x d ∧ PRep X.w X.K F H y e ∧ g d e = some r ∧ ∀ v F' H', Ext F H F' H' → Rep X.w X.K F' v r → Q v H') hN hi hx p (fun pins s σ H x y v u Q I r1 r2 h => ho pins s σ H x y v u Q I r1 r2 h) hf, fun F0 B F σ H ρ o De en hgg k => ?_⟩
  obtain ⟨d, hd, h2⟩ := Option.bind_eq_some_iff.mp hgg
  obtain ⟨d2, hd2, h3⟩ := Option.bind_eq_some_iff.mp h2
  obtain ⟨d3, hd3, rfl⟩ := Option.map_eq_some_iff.mp h3
  have : ∃ v, σ[i]? = some (some v) ∧ PRep X.w X.K F H v d := by
    unfold getP at hd
    split at hd
    · rename_i d' hs
      cases hd
      obtain ⟨v, hv, r⟩ := en.sl.slot i _ hs
      exact ⟨v, hv, .rep r⟩
    · rename_i ds hs
      cases hd
      obtain ⟨a, vs, hv, nf, ha, r⟩ := en.sl.slot i _ hs
      exact ⟨_, hv, .lst ha r⟩
    · rename_i ds hs
      cases hd
      obtain ⟨a, vs, hv, nf, ha, r⟩ := en.sl.slot i _ hs
      exact ⟨_, hv, .dct ha r⟩
    · cases hd
  obtain ⟨v, hv, r⟩ := this
  exact ⟨v, hv, q F σ H ρ d2 _ en.sl hd2 fun u F' H' e1 r2 => ⟨F', d, d2, d3, e1.s, r.mono e1, r2, hd3, fun z F2 H2 e2 r3 => k F2 _ H2 (e1.f.trans e2.f) ((en.mono (e1.trans e2)).put r3)⟩⟩

/-! ### return, if, pass .. -/
def retF (f : Env → Option D) (ρ : Env) : Option Out := (f ρ).map .rt
theorem ds_ret {f : Env → Option D} (he : DE X e f) : DS X (.Return (some e) pos) (retF f) := by
  obtain ⟨t, p, q⟩ := he.ex
  refine ⟨_, ps_ret p, fun F0 B F σ H ρ o De en hgg k => ?_⟩
  obtain ⟨d, hd, rfl⟩ := Option.map_eq_some_iff.mp hgg
  exact q F σ H ρ d _ en.sl hd fun v F' H' e1 r => k v F' H' (en.ext.trans e1) r
theorem ds_retN : DS X (.Return none pos) (fun _ => some (.rt .none)) := ⟨_, ps_retN, fun F0 B F σ H ρ o De en hgg k => by cases hgg; exact k _ F H en.ext .non⟩
theorem ds_pass : DS X (.Pass pos) (fun ρ => some (.nx ρ)) := ⟨_, ps_pass, fun F0 B F σ H ρ o De en hgg k => by cases hgg; exact k F σ H (Same.refl _) en⟩
theorem ds_break : DS X (.Break pos) (fun ρ => some (.bk ρ)) := ⟨_, ps_break, fun F0 B F σ H ρ o De en hgg k => by cases hgg; exact k F σ H (Same.refl _) en⟩
theorem ds_continue : DS X (.Continue pos) (fun ρ => some (.ct ρ)) := ⟨_, ps_continue, fun F0 B F σ H ρ o De en hgg k => by cases hgg; exact k F σ H (Same.refl _) en⟩
theorem ds_doc {x j pos'} : DS X (.Expr (.Constant (.str x) j pos) pos') (fun ρ => some (.nx ρ)) := ⟨_, ps_doc, fun F0 B F σ H ρ o De en hgg k => by cases hgg; exact k F σ H (Same.refl _) en⟩
def ifF (f : Env → Option Bool) (g h : Env → Option Out) (ρ : Env) : Option Out := (f ρ).bind fun k => if k = true then g ρ else h ρ
theorem ds_if {c : Expr} {a b : List Stmt} {f : Env → Option Bool} {g h : Env → Option Out} (hc : DT X c f) (ha : DSs X a g) (hb : DSs X b h) : DS X (.If c a b pos) (ifF f g h) := by
  obtain ⟨t0, p0, q0⟩ := hc.ex
  obtain ⟨t, p, q⟩ := ha.ex
  obtain ⟨t', p', q'⟩ := hb.ex
  refine ⟨_, ps_if p0 p p', fun F0 B F σ H ρ o De en hgg k => ?_⟩
  obtain ⟨x, hx, h2⟩ := Option.bind_eq_some_iff.mp hgg
  refine q0 F σ H ρ x _ en.sl hx fun F1 H1 e1 => ?_
  cases x with
  | true =>
    simp only [if_true] at h2 ⊢
    exact q F0 B F1 σ H1 ρ o De (en.mono e1) h2 (k.mono e1.f)
  | false =>
    simp only [Bool.false_eq_true, if_false] at h2 ⊢
    exact q' F0 B F1 σ H1 ρ o De (en.mono e1) h2 (k.mono e1.f)
/-- an expression whose value is dropped -/
def dropF (f : Env → Option D) (ρ : Env) : Option Out := (f ρ).map fun _ => .nx ρ
theorem ds_expr {f : Env → Option D} (he : DE X e f) (hs : swapsWith e none pos.line X.env = pure false := by rfl) : DS X (.Expr e pos) (dropF f) := by
  obtain ⟨t, p, q⟩ := he.ex
  refine ⟨_, ps_expr p hs, fun F0 B F σ H ρ o De en hgg k => ?_⟩
  obtain ⟨d, hd, rfl⟩ := Option.map_eq_some_iff.mp hgg
  exact q F σ H ρ d _ en.sl hd fun v F' H' e1 r => k F' _ H' e1.f (en.mono e1)

/-! ### loops -/
def forD (gt : D → Option Puts) (gb : Env → Option Out) : List D → Env → Option Out
  | [], ρ => some (.nx ρ)
  | x :: xs, ρ => (gt x).bind fun us => (gb (putAll ρ us)).bind fun o => match o with
    | .nx ρ' => forD gt gb xs ρ'
    | .ct ρ' => forD gt gb xs ρ'
    | .bk ρ' => some (.nx ρ')
    | .rt d => some (.rt d)
def forF (f : Env → Option (List D)) (gt : D → Option Puts) (gb : Env → Option Out) (ρ : Env) : Option Out := (f ρ).bind fun ds => forD gt gb ds ρ
theorem ds_for {tg iter : Expr} {body : List Stmt} {is : List Nat} {f : Env → Option (List D)} {gt : D → Option Puts} {gb : Env → Option Out} (hp : PassesOwn (model X.prog X.w) X.A X.env X.xe) (hc : X.calm = true) (hi : DI X tg iter f) (hg : DG X tg is gt) (hb : DSs X body gb)
    (hs : ∀ x, foldedSetIterable iter X.env x = pure x := by intro _; rfl) : DS X (.For tg iter body [] pos) (forF f gt gb) := by
  obtain ⟨wi, p, q⟩ := hi.ex
  obtain ⟨tb, pb, qb⟩ := hb.ex
  refine ⟨_, ps_for hp hc p hg.pg pb hs, fun F0 B F σ H ρ o De en hgg k => ?_⟩
  obtain ⟨ds, hds, hgo⟩ := Option.bind_eq_some_iff.mp hgg
  refine q F σ H ρ ds _ en.sl hds fun J F1 H1 e1 it => ?_
  refine ⟨fun i m σ' H' => m = ds.length - i ∧ i ≤ ds.length ∧ ∃ F' ρ', Same F1 F' ∧ EnvOk X.w X.K F0 B F' σ' H' ρ' ∧ forD gt gb (ds.drop i) ρ' = some o,
    ⟨ds.length, by omega, Nat.zero_le _, F1, ρ, Same.refl _, en.mono e1, hgo⟩, ?_⟩
  rintro i m σ2 H2 ⟨rfl, hi, F2, ρ2, s2, en2, hgo2⟩
  obtain ⟨it1, it2⟩ := it i F2 H2 s2 en2.sl.same
  by_cases hlt : i < ds.length
  · obtain ⟨go, yl⟩ := it1 ds[i] (List.getElem?_eq_getElem hlt)
    rw [List.drop_eq_getElem_cons hlt] at hgo2
    unfold forD at hgo2
    obtain ⟨us, hus, h1⟩ := Option.bind_eq_some_iff.mp hgo2
    obtain ⟨o1, ho1, h2⟩ := Option.bind_eq_some_iff.mp h1
    refine .inr ⟨go, fun σ' H' => ∃ F' ρ', Same F1 F' ∧ EnvOk X.w X.K F0 B F' σ' H' ρ' ∧ forD gt gb (ds.drop (i + 1)) ρ' = some o,
      fun σ' H' h' => ⟨ds.length - (i + 1), by omega, rfl, hlt, h'⟩, fun x H3 y => ?_⟩
    obtain ⟨F3, e3, rx⟩ := yl x H3 y
    refine ⟨F3, ds[i], us, e3.s, rx, hus, fun ws hw => ?_⟩
    have en3 : EnvOk X.w X.K F0 B F3 (setAll σ2 ws) H3 (putAll ρ2 us) := EnvOk.putAll hw (en2.mono e3)
    refine qb F0 B F3 _ H3 _ o1 _ en3 ho1 ?_
    have s13 := s2.trans e3.f
    cases o1 with
    | nx ρ' => exact fun F' σ' H' s en' => ⟨F', ρ', s13.trans s, en', h2⟩
    | ct ρ' => exact fun F' σ' H' s en' => ⟨F', ρ', s13.trans s, en', h2⟩
    | bk ρ' =>
      cases h2
      exact fun F' σ' H' s en' => k F' σ' H' ((e1.f.trans s13).trans s) en'
    | rt d =>
      cases h2
      exact k
  · have hi' : i = ds.length := by omega
    rw [hi', List.drop_length] at hgo2
    cases hgo2
    exact .inl ⟨it2 hi', k F2 σ2 H2 (e1.f.trans s2) en2⟩

def whileN (c : Env → Option Bool) (gb : Env → Option Out) : Nat → Env → Option Out
  | 0, _ => none
  | n + 1, ρ => (c ρ).bind fun b => if b = true then (gb ρ).bind fun o => match o with
    | .nx ρ' => whileN c gb n ρ'
    | .ct ρ' => whileN c gb n ρ'
    | .bk ρ' => some (.nx ρ')
    | .rt d => some (.rt d) else some (.nx ρ)
theorem whileN_succ {c : Env → Option Bool} {gb : Env → Option Out} : ∀ {n : Nat} {ρ : Env} {o : Out}, whileN c gb n ρ = some o → whileN c gb (n + 1) ρ = some o
  | 0, _, _, h => by cases h
  | n + 1, ρ, o, h => by
    unfold whileN at h ⊢
    obtain ⟨b, hb, h1⟩ := Option.bind_eq_some_iff.mp h
    rw [hb]
    show (if b = true then _ else _) = _
    cases b with
    | false => exact h1
    | true =>
      simp only [if_true] at h1 ⊢
      obtain ⟨o1, ho, h2⟩ := Option.bind_eq_some_iff.mp h1
      rw [ho]
      cases o1 with
      | nx ρ' => exact whileN_succ h2
      | ct ρ' => exact whileN_succ h2
      | bk ρ' => exact h2
      | rt d => exact h2
theorem whileN_le {c : Env → Option Bool} {gb : Env → Option Out} {n : Nat} {ρ : Env} {o : Out} (h : whileN c gb n ρ = some o) : ∀ k : Nat, whileN c gb (n + k) ρ = some o
  | 0 => h
  | k + 1 => whileN_succ (whileN_le h k)
theorem whileN_det {c : Env → Option Bool} {gb : Env → Option Out} {n m : Nat} {ρ : Env} {o o' : Out} (h : whileN c gb n ρ = some o) (h' : whileN c gb m ρ = some o') : o = o' := by
  have h1 := whileN_le h m
  have h2 := whileN_le h' n
  rw [Nat.add_comm m n, h1] at h2
  exact Option.some.inj h2
open Classical in
noncomputable def whileF (c : Env → Option Bool) (gb : Env → Option Out) (ρ : Env) : Option Out :=
  if h : ∃ n o, whileN c gb n ρ = some o then some (Classical.choose (Classical.choose_spec h)) else none
theorem whileF_of {c : Env → Option Bool} {gb : Env → Option Out} {n : Nat} {ρ : Env} {o : Out} (h : whileN c gb n ρ = some o) : whileF c gb ρ = some o := by
  have hx : ∃ n o, whileN c gb n ρ = some o := ⟨n, o, h⟩
  unfold whileF
  rw [dif_pos hx]
  exact congrArg some (whileN_det (Classical.choose_spec (Classical.choose_spec hx)) h)
theorem whileF_inv {c : Env → Option Bool} {gb : Env → Option Out} {ρ : Env} {o : Out} (h : whileF c gb ρ = some o) : ∃ n, whileN c gb n ρ = some o := by
  unfold whileF at h
  split at h
  · rename_i hx
    cases h
    exact ⟨_, Classical.choose_spec (Classical.choose_spec hx)⟩
  · cases h
/-- one turn -/
theorem whileF_step {c : Env → Option Bool} {gb : Env → Option Out} (ρ : Env) : whileF c gb ρ = (c ρ).bind fun b => if b = true then (gb ρ).bind fun o => match o with
    | .nx ρ' => whileF c gb ρ'
    | .ct ρ' => whileF c gb ρ'
    | .bk ρ' => some (.nx ρ')
    | .rt d => some (.rt d) else some (.nx ρ) := by
  apply Option.ext
  intro o
  constructor
  · intro h
    obtain ⟨n, hn⟩ := whileF_inv h
    cases n with
    | zero => cases hn
    | succ n =>
      unfold whileN at hn
      obtain ⟨b, hb, h1⟩ := Option.bind_eq_some_iff.mp hn
      rw [hb]
      show (if b = true then _ else _) = _
      cases b with
      | false => exact h1
      | true =>
        simp only [if_true] at h1 ⊢
        obtain ⟨o1, ho, h2⟩ := Option.bind_eq_some_iff.mp h1
        rw [ho]
        cases o1 with
        | nx ρ' => exact whileF_of h2
        | ct ρ' => exact whileF_of h2
        | bk ρ' => exact h2
        | rt d => exact h2
  · intro h
    obtain ⟨b, hb, h1⟩ := Option.bind_eq_some_iff.mp h
    cases b with
    | false => exact whileF_of (n := 1) (by unfold whileN; rw [hb]; exact h1)
    | true =>
      simp only [if_true] at h1
      obtain ⟨o1, ho, h2⟩ := Option.bind_eq_some_iff.mp h1
      have key : ∀ n, (match o1 with
        | .nx ρ' => whileN c gb n ρ'
        | .ct ρ' => whileN c gb n ρ'
        | .bk ρ' => some (.nx ρ')
        | .rt d => some (.rt d)) = some o → whileF c gb ρ = some o := fun n hn => whileF_of (n := n + 1) (by
          unfold whileN
          rw [hb]
          show (gb ρ).bind _ = _
          rw [ho]
          exact hn)
      cases o1 with
      | nx ρ' => obtain ⟨n, hn⟩ := whileF_inv h2; exact key n hn
      | ct ρ' => obtain ⟨n, hn⟩ := whileF_inv h2; exact key n hn
      | bk ρ' => exact key 0 h2
      | rt d => exact key 0 h2
theorem ds_while {c : Expr} {body : List Stmt} {f : Env → Option Bool} {gb : Env → Option Out} (hp : PassesOwn (model X.prog X.w) X.A X.env X.xe) (hc : DT X c f) (hb : DSs X body gb) : DS X (.While c body [] pos) (whileF f gb) := by
  obtain ⟨tc, pc, qc⟩ := hc.ex
  obtain ⟨tb, pb, qb⟩ := hb.ex
  refine ⟨_, ps_while hp pc pb, fun F0 B F σ H ρ o De en hgg k => ?_⟩
  obtain ⟨n, hn⟩ := whileF_inv hgg
  refine ⟨fun m σ' H' => ∃ F' ρ', Same F F' ∧ EnvOk X.w X.K F0 B F' σ' H' ρ' ∧ whileN f gb m ρ' = some o, ⟨n, F, ρ, Same.refl _, en, hn⟩, ?_⟩
  rintro m σ2 H2 ⟨F2, ρ2, s2, en2, hm⟩
  cases m with
  | zero => cases hm
  | succ m =>
    unfold whileN at hm
    obtain ⟨b, hb, h1⟩ := Option.bind_eq_some_iff.mp hm
    refine qc F2 σ2 H2 ρ2 b _ en2.sl hb fun F3 H3 e3 => ?_
    cases b with
    | false =>
      simp only [Bool.false_eq_true, if_false] at h1 ⊢
      cases h1
      exact k F3 σ2 H3 (s2.trans e3.f) (en2.mono e3)
    | true =>
      simp only [if_true] at h1 ⊢
      obtain ⟨o1, ho1, h2⟩ := Option.bind_eq_some_iff.mp h1
      refine ⟨fun σ' H' => ∃ F' ρ', Same F F' ∧ EnvOk X.w X.K F0 B F' σ' H' ρ' ∧ whileN f gb m ρ' = some o, fun σ' H' h' => ⟨m, Nat.lt_succ_self _, h'⟩, ?_⟩
      refine qb F0 B F3 σ2 H3 ρ2 o1 _ (en2.mono e3) ho1 ?_
      have s23 := s2.trans e3.f
      cases o1 with
      | nx ρ' => exact fun F' σ' H' s en' => ⟨F', ρ', s23.trans s, en', h2⟩
      | ct ρ' => exact fun F' σ' H' s en' => ⟨F', ρ', s23.trans s, en', h2⟩
      | bk ρ' =>
        cases h2
        exact fun F' σ' H' s en' => k F' σ' H' (s23.trans s) en'
      | rt d =>
        cases h2
        exact k
end
end PD

/-! PD7: lists that a name owns; defs and their calls. -/
namespace PD
open PySem PySem.Spec PyProof.Rows L2

theorem list_extendW (l : Addr) (items : Array Value) (n : Nat) (b : Addr) (items2 : Array Value) (n2 : Nat) (dd2 : Option Addr) (sl2 : Array (Option Value)) (hc0 : ¬(!items.isEmpty && Builtin.List.listTooLong (items.size + items2.size)) = true) (hc1 : items.size ≤ sizeLine) (hs2 : items.size + items2.size ≤ sizeLine + 1) :
    Meets (Builtin.«list.extend» ⟨[.ref l, .ref b], []⟩) (fun _ R s => s.heap.get? l = some { cls := .type "list", dict := none, data := .seq items n, slots := #[] } ∧ s.heap.get? b = some { cls := .type "list", dict := dd2, data := .seq items2 n2, slots := sl2 } ∧ R (.ok (.ret Value.none)) { s with heap := s.heap.update l (Obj.mapSeq fun x => x ++ items2), toks := s.toks }) :=
  .of_wp fun prog w A R s h => by
    obtain ⟨hp, g, d, tk, os⟩ := s; obtain ⟨hl, hb, h⟩ := h; have f1 := AutoSeq1.idx_int; have f2 := AutoSeq1.sub_tuple_tuple; have f3 := AutoSeq1.sub_list_list; have f4 := AutoSeq1.sub_tuple_list; have f5 := AutoSeq1.sub_list_tuple;
    have hz' : (items ++ items2).size ≤ sizeLine + 1 := by rw [Array.size_append]; exact hs2
    wp_walk using (wpAny_updateSeq hl rfl (hz := hc1) (_hz' := hz')), AutoSeq1.wpAny_loadPart' hl, AutoSeq1.wpAny_loadPart' hb; exact ⟨_, rfl, h⟩

section
variable {w : World} {K : PySem.W.Frag} {F H F0 B : Hp} {σ : L2.St} {ρ : Env}
/-- an owned object is changed -/
theorem EnvOk.wrOwn {i : Nat} {a : Addr} {s s' : Slot} {o : HO} (h : EnvOk w K F0 B F σ H ρ) (hs : ρ[i]? = some s) (ho : s.own = true) (ha : σ[i]? = some (some (.ref a))) (hs' : SlotAt w K F (upd H a o) (some (some (.ref a))) s') : EnvOk w K F0 B F σ (upd H a o) (ρ.set i s') := by
  have nB := h.own i s a hs ho ha
  have nF : F a = none := by
    obtain ⟨b, u, h1, h2, h3⟩ := (h.sl.slot i s hs).ref ho
    rw [h1] at ha
    cases ha
    exact h2
  have sF : Same F (upd H a o) := fun b x q => by
    have : b ≠ a := ne_of_none q nF
    rw [upd_ne this]; exact h.sl.same _ _ q
  have oth : ∀ (j : Nat) (t : Slot) (b : Addr), j ≠ i → ρ[j]? = some t → t.own = true → σ[j]? = some (some (.ref b)) → b ≠ a := fun j t b hj hr ht hb z => by
    subst z
    exact h.dis i j b s t (Ne.symm hj) hs ho hr ht ha hb
  have key : ∀ (j : Nat) (t : Slot), (ρ.set i s')[j]? = some t → j = i ∨ (j ≠ i ∧ ρ[j]? = some t) := fun j t hj => by
    by_cases e : i = j
    · exact .inl e.symm
    · rw [List.getElem?_set_ne e] at hj
      exact .inr ⟨fun q => e q.symm, hj⟩
  refine ⟨⟨sF, by rw [List.length_set]; exact h.sl.len, fun j t hj => ?_⟩, ⟨h.ext.f, fun b x q => ?_, sF, h.ext.n⟩, fun j t b hj ht hb => ?_, fun j k b t t' hjk hj ht hk ht' hb => ?_⟩
  · by_cases e : i = j
    · subst e
      rw [List.getElem?_set_self (List.getElem?_eq_some_iff.mp hs).1] at hj
      cases hj
      rw [ha]
      exact hs'
    · rw [List.getElem?_set_ne e] at hj
      have q := h.sl.slot j t hj
      cases t with
      | un => exact True.intro
      | val d => exact q
      | ol ds =>
        obtain ⟨b, vs, h1, h2, h3, h4⟩ := q
        exact ⟨b, vs, h1, h2, by rw [upd_ne (oth j _ b (Ne.symm e) hj rfl h1)]; exact h3, h4⟩
      | od ds =>
        obtain ⟨b, vs, h1, h2, h3, h4⟩ := q
        exact ⟨b, vs, h1, h2, by rw [upd_ne (oth j _ b (Ne.symm e) hj rfl h1)]; exact h3, h4⟩
  · have : b ≠ a := fun z => by rw [z, nB] at q; cases q
    rw [upd_ne this]; exact h.ext.h _ _ q
  · rcases key j t hj with rfl | ⟨q1, q2⟩
    · rw [ha] at hb
      cases hb
      exact nB
    · exact h.own j t b q2 ht hb
  · rcases key j t hj with rfl | ⟨q1, q2⟩
    · rcases key k t' hk with q3 | ⟨q3, q4⟩
      · exact absurd q3.symm hjk
      · exact h.dis j k b s t' hjk hs ho q4 ht' hb
    · rcases key k t' hk with rfl | ⟨q3, q4⟩
      · exact h.dis j k b t s hjk q2 ht hs ho hb
      · exact h.dis j k b t t' hjk q2 ht q4 ht' hb
end

section
variable {X : Cx} {e : Expr} {es : List Expr} {pos : Pos}

/-! ### xs.append(e), xs.extend(e), xs.pop(), xs[i] = e -/
def getL (ρ : Env) (i : Nat) : Option (List D) := match ρ[i]? with
  | some (.ol ds) => some ds
  | _ => none
theorem getL_some {ρ : Env} {i : Nat} {ds : List D} (h : getL ρ i = some ds) : ρ[i]? = some (.ol ds) := by
  unfold getL at h
  split at h
  · rename_i q
    cases h
    exact q
  · cases h
def appF (i : Nat) (f : Env → Option D) (ρ : Env) : Option Out := (f ρ).bind fun d => (getL ρ i).bind fun ds => if ds.length < 16777216 then some (.nx (ρ.set i (.ol (ds ++ [d])))) else none
theorem ds_append {i : Nat} {l : Expr} {apos cpos : Pos} {f : Env → Option D} (hl : PE X l (tVar i)) (he : DE X e f) (hbase : attributeBase l "append" X.env (eval l X.env) = eval l X.env := by rfl)
    (hfew : ((backTo cpos (starEach [e] X.env)).all (fun x => !x.1) && (backToKw cpos (keywordEach [] X.env)).all (fun x => x.1.isSome)
      && decide ([e].length + ([] : List Keyword).length + (if ([] : List Keyword).isEmpty then 0 else 1) < 30)) = true := by rfl)
    (hline : (apos.endLine == cpos.line) = true := by rfl) (hs : starEach [e] X.env = (false, eval e X.env) :: starEach [] X.env := by rfl) (hplain : (backTo cpos (starEach [] X.env)).any (·.1) = false := by rfl)
    (hsw : swapsWith (.Call (.Attribute l "append" apos) [e] [] cpos) none pos.line X.env = pure false := by rfl) :
    DS X (.Expr (.Call (.Attribute l "append" apos) [e] [] cpos) pos) (appF i f) := by
  obtain ⟨t, p, q⟩ := he.ex
  refine ⟨_, ps_expr (pe_bm PySem.F.plainAttrs_list PySem.F.slot_list_append PySem.F.type_list_append mt_append hl (pa_cons p pa_nil hs) hbase hfew hline hs hplain) hsw, fun F0 B F σ H ρ o De en hgg k => ?_⟩
  obtain ⟨d, hd, h2⟩ := Option.bind_eq_some_iff.mp hgg
  obtain ⟨ds, hds, h3⟩ := Option.bind_eq_some_iff.mp h2
  split at h3
  · rename_i hz
    cases h3
    have hs := getL_some hds
    obtain ⟨a, vs, h1, h2, h3, h4⟩ := en.sl.slot i _ hs
    refine ⟨_, h1, .inl ⟨rfl, _, .inl (.inl h3)⟩, q F σ H ρ d _ en.sl hd fun v F1 H1 e1 r1 => ?_⟩
    have h3' := e1.h _ _ h3
    refine ⟨a, vs, v, rfl, rfl, h3', by rw [h4.length, sl16]; exact hz, ?_⟩
    exact k F1 σ _ e1.f ((en.mono e1).wrOwn hs rfl h1 ⟨a, _, rfl, e1.none_of h3 h2, upd_same, (h4.mono e1.f).append (.one r1)⟩)
  · cases h3
/-- an argument that is a list by its items -/
def rExtendD (X : Cx) : V → List V → Hp → VK → Prop := fun x vs H Q => ∃ l b xs zs, x = .ref l ∧ vs = [.ref b] ∧ H l = some (.lst xs) ∧ SqL X.K H b zs ∧ xs.length + zs.length ≤ sizeLine ∧ Q .non (upd H l (.lst (xs ++ zs)))
theorem mt_extendD : MtR X "list.extend" (rExtendD X) := by
  intro pins s σ H x vs v us Q I rx rv h
  obtain ⟨l, b, xs, zs, rfl, rfl, hH, hB, hz, q⟩ := h
  cases rx
  obtain ⟨u, rfl, ru⟩ := vals1 rv
  cases ru
  obtain ⟨z, its, n, r, hl, e⟩ := I.lstM hH
  obtain ⟨its2, r2, ⟨⟨cls2, dd2, data2, sl2⟩, n2, ho2, hc2, hd20, hd2⟩, hl2⟩ := I.list hB
  simp only at hc2 hd2
  subst hc2 hd2
  have l2 := r2.length
  have hsz : its.toArray.size + its2.toArray.size ≤ sizeLine := by rw [List.size_toArray, List.size_toArray]; omega
  have hlong : ¬ (!its.toArray.isEmpty && Builtin.List.listTooLong (its.toArray.size + its2.toArray.size)) = true := by
    rw [notLongL hsz, Bool.and_false]
    exact Bool.false_ne_true
  refine call_meets PySem.F.slot_list_extend ⟨_, e, rfl⟩ PySem.F.entry_list_extend (PySem.F.args_list_extend_2 _ _)
    (list_extendW l its.toArray n b its2.toArray n2 dd2 sl2 hlong (by rw [List.size_toArray]; omega) (by omega)) ⟨e, ho2, ?_⟩
  refine ⟨.non, _, I.lset (its' := its ++ its2) hH e (by simp) (r.append r2) ?_, rfl, q⟩
  rw [List.length_append]
  omega
def extF (i : Nat) (f : Env → Option D) (ρ : Env) : Option Out := (f ρ).bind fun d => (seqOf d).bind fun es => (getL ρ i).bind fun ds => if ds.length + es.length ≤ 16777216 then some (.nx (ρ.set i (.ol (ds ++ es)))) else none
theorem ds_extend {i : Nat} {l : Expr} {apos cpos : Pos} {f : Env → Option D} (hl : PE X l (tVar i)) (he : DP X e f) (hbase : attributeBase l "extend" X.env (eval l X.env) = eval l X.env := by rfl)
    (hfew : ((backTo cpos (starEach [e] X.env)).all (fun x => !x.1) && (backToKw cpos (keywordEach [] X.env)).all (fun x => x.1.isSome)
      && decide ([e].length + ([] : List Keyword).length + (if ([] : List Keyword).isEmpty then 0 else 1) < 30)) = true := by rfl)
    (hline : (apos.endLine == cpos.line) = true := by rfl) (hs : starEach [e] X.env = (false, eval e X.env) :: starEach [] X.env := by rfl) (hplain : (backTo cpos (starEach [] X.env)).any (·.1) = false := by rfl)
    (hsw : swapsWith (.Call (.Attribute l "extend" apos) [e] [] cpos) none pos.line X.env = pure false := by rfl) :
    DS X (.Expr (.Call (.Attribute l "extend" apos) [e] [] cpos) pos) (extF i f) := by
  obtain ⟨t, p, q⟩ := he.ex
  refine ⟨_, ps_expr (pe_bm PySem.F.plainAttrs_list PySem.F.slot_list_extend PySem.F.type_list_extend mt_extendD hl (pa_cons p pa_nil hs) hbase hfew hline hs hplain) hsw, fun F0 B F σ H ρ o De en hgg k => ?_⟩
  obtain ⟨d, hd, g2⟩ := Option.bind_eq_some_iff.mp hgg
  obtain ⟨es, hes, g3⟩ := Option.bind_eq_some_iff.mp g2
  obtain ⟨ds, hds, g4⟩ := Option.bind_eq_some_iff.mp g3
  clear hgg g2 g3
  split at g4
  · rename_i hz
    cases g4
    have hs := getL_some hds
    obtain ⟨a, vs, h1, h2, h3, h4⟩ := en.sl.slot i _ hs
    refine ⟨_, h1, .inl ⟨rfl, _, .inl (.inl h3)⟩, q F σ H ρ d _ en.sl hd fun v F1 H1 e1 r1 => ?_⟩
    have h3' := e1.h _ _ h3
    cases d <;> simp only [seqOf] at hes <;> try cases hes
    obtain ⟨b, zs, rfl, hb, rz⟩ := r1.lst_inv e1.s
    refine ⟨a, b, vs, zs, rfl, rfl, h3', hb, by rw [h4.length, rz.length, sl16]; exact hz, ?_⟩
    exact k F1 σ _ e1.f ((en.mono e1).wrOwn hs rfl h1 ⟨a, _, rfl, e1.none_of h3 h2, upd_same, (h4.mono e1.f).append rz⟩)
  · cases g4
/-- x = xs.pop() -/
def popF (i j : Nat) (ρ : Env) : Option Out := (getL ρ i).bind fun ds => (ds.getLast?).map fun d => .nx ((ρ.set i (.ol ds.dropLast)).set j (.val d))
theorem Reps.dropLast {w : World} {K : PySem.W.Frag} {F : Hp} {vs : List V} {ds : List D} (r : Reps w K F vs ds) : Reps w K F vs.dropLast ds.dropLast := by
  rw [List.dropLast_eq_take, List.dropLast_eq_take, r.length]
  exact r.take _
theorem ds_pop {i j : Nat} {l : Expr} {x : Str} {px apos cpos : Pos} (hl : PE X l (tVar i)) (hN : X.N.Nodup) (hj : X.N[j]? = some x) (hx : Loc X.env.scope x) (hbase : attributeBase l "pop" X.env (eval l X.env) = eval l X.env := by rfl) (hline : (apos.endLine == cpos.line) = true := by rfl)
    (hs : swapsWith (.Call (.Attribute l "pop" apos) [] [] cpos) (some (.Name x px)) pos.line X.env = pure false := by rfl) (hf : X.fn x = true ∨ X.env.scope.names.lookup x = some .local := by first | exact .inl rfl | exact .inr rfl | assumption) :
    DS X (.Assign [.Name x px] (.Call (.Attribute l "pop" apos) [] [] cpos) pos) (popF i j) := by
  refine ⟨_, ps_set hN hj hx (pe_bm0 PySem.F.plainAttrs_list PySem.F.slot_list_pop PySem.F.type_list_pop mt_pop hl hbase hline) hs hf, fun F0 B F σ H ρ o De en hgg k => ?_⟩
  obtain ⟨ds, hds, h2⟩ := Option.bind_eq_some_iff.mp hgg
  obtain ⟨d, hd, rfl⟩ := Option.map_eq_some_iff.mp h2
  have hs := getL_some hds
  obtain ⟨a, vs, h1, h2, h3, h4⟩ := en.sl.slot i _ hs
  rw [List.getLast?_eq_getElem?] at hd
  obtain ⟨v, hv, rv⟩ := h4.get hd
  refine ⟨_, h1, .inl ⟨rfl, _, .inl (.inl h3)⟩, a, vs, v, rfl, rfl, h3, by rw [h4.length]; exact hv, ?_⟩
  exact k F _ _ (Same.refl _) ((en.wrOwn (o := .lst vs.dropLast) (s' := .ol ds.dropLast) hs rfl h1 ⟨a, _, rfl, h2, upd_same, h4.dropLast⟩).put rv)
/-- xs[i] = e -/
def putLF (i : Nat) (f g : Env → Option D) (ρ : Env) : Option Out := (f ρ).bind fun d => (g ρ).bind fun x => (intOf x).bind fun k => (getL ρ i).bind fun ds => (ixN ds.length k).map fun j => .nx (ρ.set i (.ol (ds.set j d)))
theorem ds_putL {i : Nat} {l ix : Expr} {spos : Pos} {f g : Env → Option D} (hl : PE X l (tVar i)) (he : DE X e f) (hi : DE X ix g)
    (ha : ∀ v, assign (.Subscript l ix spos) X.env v = (do
      let ov ← holding [v] (eval l X.env)
      let iv ← holding [v, ov] (eval ix X.env)
      standAt spos
      holding [v, ov, iv] (setItem ov iv v)
      release [v, ov, iv] []) := by intro _; rfl)
    (hs : swapsWithSole [.Subscript l ix spos] e pos.line X.env = pure false := by rfl) (hw : swappedStores [.Subscript l ix spos] e X.env = pure none := by rfl)
    (h1 : (assignEach [.Subscript l ix spos] X.env).map (·.2) = [assign (.Subscript l ix spos) X.env] := by rfl) :
    DS X (.Assign [.Subscript l ix spos] e pos) (putLF i f g) := by
  obtain ⟨t, p, q⟩ := he.ex
  obtain ⟨t2, p2, q2⟩ := hi.ex
  refine ⟨_, ps_asg p (pg_sub hl p2 set_list ha) hs hw h1, fun F0 B F σ H ρ o De en hgg k => ?_⟩
  obtain ⟨d, hd, h2⟩ := Option.bind_eq_some_iff.mp hgg
  obtain ⟨x, hx, h3⟩ := Option.bind_eq_some_iff.mp h2
  obtain ⟨m, hm, h4⟩ := Option.bind_eq_some_iff.mp h3
  obtain ⟨ds, hds, h5⟩ := Option.bind_eq_some_iff.mp h4
  obtain ⟨j, hj, rfl⟩ := Option.map_eq_some_iff.mp h5
  have hs := getL_some hds
  obtain ⟨a, vs, g1, g2, g3, g4⟩ := en.sl.slot i _ hs
  refine q F σ H ρ d _ en.sl hd fun v F1 H1 e1 r1 => ⟨_, g1, q2 F1 σ H1 ρ x _ (en.sl.mono e1) hx fun u F2 H2 e2 r2 => ?_⟩
  cases x <;> simp only [intOf] at hm <;> try cases hm
  have e12 := e1.trans e2
  refine ⟨a, vs, _, j, rfl, r2.int_inv, e12.h _ _ g3, by rw [g4.length]; exact hj, ?_⟩
  exact k F2 σ _ e12.f ((en.mono e12).wrOwn hs rfl g1 ⟨a, _, rfl, e12.none_of g3 g2, upd_same, Reps.set (r1.mono e2.f) j (g4.mono e12.f)⟩)

/-! ### defs -/
/-- what a def of plain data promises -/
def spD (w : World) (K : PySem.W.Frag) (f : List D → Option D) : Sp := fun vs H Q _ => ∃ F ds d, Same F H ∧ Reps w K F vs ds ∧ f ds = some d ∧ ∀ v F' H', Ext F H F' H' → Rep w K F' v d → Q v H'
/-- f(e, ..) -/
theorem de_call {k : Nat} {f : Addr} {fd : FuncData} {ps : List Str} {x : Str} {p : Pos} {g : List D → Option D} {fa : Env → Option (List D)} (F : FnOk X.prog X.w X.K X.mg X.base CX0 k f fd ps (spD X.w X.K g)) (hr : Room k X.A) (hg : Gl X x) (hm : X.mg x = some (.ref f)) (hk : PySem.W.keepIn X.K (.ref f) = true) (hb : Binds X.K fd ps [])
    (ha : DAE X (e :: es) fa) (hdb : (x == ("__debug__" : Str)) = false := by decide) (he : starEach (e :: es) X.env = (false, eval e X.env) :: starEach es X.env := by rfl) (hpl : (backTo pos (starEach es X.env)).any (·.1) = false := by rfl) :
    DE X (.Call (.Name x p) (e :: es) [] pos) (fun ρ => (fa ρ).bind g) := by
  obtain ⟨t, q, h⟩ := ha.ex
  refine ⟨_, pe_call (E := fun _ _ _ => False) F hr hg hm hk hb .nil (fun _ _ _ _ _ _ _ h => h.elim) q hdb he hpl, fun F σ H ρ d Q sl hf k => ?_⟩
  obtain ⟨ds, hds, hgd⟩ := Option.bind_eq_some_iff.mp hf
  refine h F σ H ρ ds _ sl hds fun vs F1 H1 e1 r1 => ?_
  rw [List.append_nil]
  exact ⟨F1, ds, d, e1.s, r1, hgd, fun v F' H' e2 r => k v F' H' (e1.trans e2) r⟩
/-- the names at a def's start -/
def startE (n : Nat) (ds : List D) : Env := ds.map Slot.val ++ List.replicate (n - ds.length) .un
/-- a def's value by its body -/
def fnD (n m : Nat) (g : Env → Option Out) (ds : List D) : Option D := if ds.length = m then (g (startE n ds)).bind fun o => match o with
  | .rt d => some d
  | .nx _ => some .none
  | _ => none else none
theorem start_ok {w : World} {K : PySem.W.Frag} {F H : Hp} {N : List Str} {vs : List V} {ds : List D} (sm : Same F H) (r : Reps w K F vs ds) : EnvOk w K F H F (L2.start N vs) H (startE N.length ds) := by
  have hl := r.length
  have noown : ∀ (i : Nat) (s : Slot), (startE N.length ds)[i]? = some s → s.own = false := fun i s hs => by
    unfold startE at hs
    rw [List.getElem?_append] at hs
    split at hs
    · rw [List.getElem?_map] at hs
      cases h : ds[i]? with
      | none => rw [h] at hs; cases hs
      | some d => rw [h] at hs; cases hs; rfl
    · have := List.mem_of_getElem? hs
      rw [(List.mem_replicate.mp this).2]
      rfl
  refine ⟨⟨sm, ?_, fun i s hs => ?_⟩, .refl sm, fun i s a hs ho _ => ?_, fun i j a s t _ hs ho _ _ _ => ?_⟩
  · unfold startE L2.start
    rw [List.length_append, List.length_append, List.length_map, List.length_map, List.length_replicate, List.length_replicate, hl]
  · unfold startE at hs
    unfold L2.start
    rw [List.getElem?_append] at hs
    split at hs
    · rename_i hi
      rw [List.length_map] at hi
      rw [List.getElem?_map] at hs
      cases h : ds[i]? with
      | none => rw [h] at hs; cases hs
      | some d =>
        rw [h] at hs
        cases hs
        obtain ⟨v, hv, rv⟩ := r.get h
        refine ⟨v, ?_, rv⟩
        rw [List.getElem?_append_left (by rw [List.length_map, hl]; exact hi), List.getElem?_map, hv]
        rfl
    · have := List.mem_of_getElem? hs
      rw [(List.mem_replicate.mp this).2]
      exact True.intro
  · rw [noown i s hs] at ho
    cases ho
  · rw [noown i s hs] at ho
    cases ho
end
section
variable {P : Program} {w : World} {K : PySem.W.Frag} {mg : Str → Option Value} {base : Heap}
/-- a def by its body -/
theorem okD_def {x qual : Str} {st : Stmt} {f : Addr} {fd : FuncData} {N ps : List Str} {k : Nat} {g : Env → Option Out} (F : Fun K x qual st f fd) (S : FnScope N ps (defScope st))
    (hbody : ∀ (cdv : Value) (A : Around) (outer : List PySem.Env) (s : Shared) (H : Hp) (E : XK), Room k (A.deeper (envOfC qual (defScope st) s.heap.objs.size f cdv)) →
      DSs (cxOf CX0 P w K mg base N qual (defScope st) f cdv A outer s H E).nox (defBody st) g) : FnOk P w K mg base CX0 (k + 1) f fd ps (spD w K (fnD N.length ps.length g)) := by
  refine F.ok S (fun vs H Q E h => ?_) (fun cdv A outer s H vs Q E hr h => ?_)
  · obtain ⟨F1, ds, d, sm, r, hf, q⟩ := h
    unfold fnD at hf
    split at hf
    · rename_i hl
      rw [r.length]; exact hl
    · cases hf
  · obtain ⟨F1, ds, d, sm, r, hf, q⟩ := h
    obtain ⟨t, p, hq⟩ := (hbody cdv A outer s H E hr).ex
    refine ⟨t, p, ?_⟩
    unfold fnD at hf
    split at hf
    · obtain ⟨o, ho, h2⟩ := Option.bind_eq_some_iff.mp hf
      have en := start_ok (N := N) sm r
      refine hq F1 H F1 _ H _ o _ en ho ?_
      cases o with
      | rt d' =>
        cases h2
        exact fun v F' H' e r => q v F' H' e r
      | nx ρ =>
        cases h2
        exact fun F' σ' H' s en' => q _ F' H' en'.ext .non
      | bk ρ => cases h2
      | ct ρ => cases h2
    · cases hf
end
end PD

/-! PD8: the rules in short, with the functions that they give named. -/
namespace PD
open PySem PySem.Spec PyProof.Rows L2

abbrev FE := Env → Option D
abbrev FA := Env → Option (List D)
abbrev FB := Env → Option Bool
def cst (d : D) : FE := fun _ => some d
def lv (i : Nat) : FE := fun ρ => getV ρ i
def lp (i : Nat) : FE := fun ρ => getP ρ i
def b2 {α : Type} (g : D → D → Option α) (fa fb : FE) (ρ : Env) : Option α := (fa ρ).bind fun x => (fb ρ).bind fun y => g x y
def u1 {α : Type} (g : D → Option α) (fa : FE) (ρ : Env) : Option α := (fa ρ).bind g
def cl {α : Type} (g : List D → Option α) (fa : FA) (ρ : Env) : Option α := (fa ρ).bind g
def anil : FA := fun _ => some []
abbrev acons : FE → FA → FA := consF
def mkT (f : FA) : FE := fun ρ => ((f ρ).bind lineD).map .tuple
def mkL (f : FA) : FA := fun ρ => (f ρ).bind lineD
def toL (f : FA) : FE := fun ρ => (f ρ).map .list
def toDd (f : Env → Option (List (D × D))) : FE := fun ρ => (f ρ).map .dict
def tb (f : FE) : FB := fun ρ => (f ρ).bind boolOf
def tt (f : FE) : FB := fun ρ => (f ρ).bind truD
def tc (g : D → D → Option D) (fa fb : FE) : FB := fun ρ => (fa ρ).bind fun x => (fb ρ).bind fun y => (g x y).bind boolOf
def tch (g g' : D → D → Option D) (fa fb fc : FE) : FB := fun ρ => (chainF g g' fa fb fc ρ).bind boolOf
def tn (f : FB) : FB := fun ρ => (f ρ).map not
def xn (f : FE) : FE := fun ρ => ((f ρ).bind boolOf).map fun k => .bool (!k)
def xand (f g : FE) : FE := andF (fun ρ => (f ρ).bind boolOf) (.bool false) g
def xor' (f g : FE) : FE := orF (fun ρ => (f ρ).bind boolOf) (.bool true) g
def tyes : FB := fun _ => some true
abbrev FO := Env → Option (Option Int)
def ono : FO := fun _ => some none
def oi (f : FE) : FO := fun ρ => ((f ρ).bind intOf).map some
def sl3 {α : Type} (g : D → Option Int → Option Int → Option α) (f : FE) (a b : FO) (ρ : Env) : Option α := (f ρ).bind fun x => (a ρ).bind fun l => (b ρ).bind fun u => g x l u
def skip : Env → Option Out := fun ρ => some (.nx ρ)
def brk : Env → Option Out := fun ρ => some (.bk ρ)
def cont : Env → Option Out := fun ρ => some (.ct ρ)
def retN : Env → Option Out := fun _ => some (.rt .none)
def fz (i : Nat) (g : Env → Option Out) : Env → Option Out := fun ρ => g (frz i ρ)

section
variable {X : Cx} {e a b c : Expr} {es : List Expr} {pos p : Pos} {f fa fb fc : FE} {fs : FA}

theorem x_v (i : Nat) {x : Str} (hN : X.N[i]? = some x := by rfl) (hv : Vis X.env.scope x := by first | exact Or.inl rfl | exact Or.inr (Or.inl rfl) | exact Or.inr (Or.inr rfl)) (hd : (x == ("__debug__" : Str)) = false := by decide)
    (hcd : (x == ("__classdict__" : Str)) = false := by decide) : DE X (.Name x pos) (lv i) := de_var (pe_var hN hv hd hcd)
theorem p_v (i : Nat) {x : Str} (hN : X.N[i]? = some x := by rfl) (hv : Vis X.env.scope x := by first | exact Or.inl rfl | exact Or.inr (Or.inl rfl) | exact Or.inr (Or.inr rfl)) (hd : (x == ("__debug__" : Str)) = false := by decide)
    (hcd : (x == ("__classdict__" : Str)) = false := by decide) : DP X (.Name x pos) (lp i) := dp_var (pe_var hN hv hd hcd)
theorem x_int {i : Int} {j} : DE X (.Constant (.int i) j pos) (cst (.int i)) := de_int
theorem x_bl {i : Bool} {j} : DE X (.Constant (.bool i) j pos) (cst (.bool i)) := de_bl
theorem x_non {j} : DE X (.Constant .none j pos) (cst .none) := de_non
theorem x_str {x : Str} {j} : DE X (.Constant (.str x) j pos) (cst (.str x)) := de_str
theorem x_L (h : FL X e fs) : DE X e (toL fs) := h.de
theorem p_L (h : FL X e fs) : DP X e (toL fs) := h.dp
theorem p_x (h : DE X e f) : DP X e f := h.dp
/-- a constant of the module -/
theorem x_gl {x : Str} {v : V} {u : Value} {d : D} (hm : X.mg x = some u) (r : RelV v u) (rep : ∀ F, Rep X.w X.K F v d) (hg : Gl X x := by rfl) (hd : (x == ("__debug__" : Str)) = false := by decide) : DE X (.Name x pos) (cst d) := de_const (pe_glob hg hm r hd) rep

theorem x_add (ha : DP X a fa) (hb : DP X b fb) : DE X (.BinOp a .Add b pos) (b2 addD fa fb) := de_op op_addD ha hb
theorem x_sub (ha : DP X a fa) (hb : DP X b fb) : DE X (.BinOp a .Sub b pos) (b2 subD fa fb) := de_op op_subD ha hb
theorem x_mul (ha : DP X a fa) (hb : DP X b fb) : DE X (.BinOp a .Mult b pos) (b2 mulD fa fb) := de_op op_mulD ha hb
theorem x_fdiv (ha : DP X a fa) (hb : DP X b fb) : DE X (.BinOp a .FloorDiv b pos) (b2 fdivD fa fb) := de_op op_fdivD ha hb
theorem x_mod (ha : DP X a fa) (hb : DP X b fb) : DE X (.BinOp a .Mod b pos) (b2 modD fa fb) := de_op op_modD ha hb
theorem x_pow (ha : DP X a fa) (hb : DP X b fb) : DE X (.BinOp a .Pow b pos) (b2 powD fa fb) := de_op op_powD ha hb
theorem x_shl (ha : DP X a fa) (hb : DP X b fb) : DE X (.BinOp a .LShift b pos) (b2 shlD fa fb) := de_op op_shlD ha hb
theorem x_shr (ha : DP X a fa) (hb : DP X b fb) : DE X (.BinOp a .RShift b pos) (b2 shrD fa fb) := de_op op_shrD ha hb
theorem x_band (ha : DP X a fa) (hb : DP X b fb) : DE X (.BinOp a .BitAnd b pos) (b2 bandD fa fb) := de_op op_bandD ha hb
theorem x_bor (ha : DP X a fa) (hb : DP X b fb) : DE X (.BinOp a .BitOr b pos) (b2 borD fa fb) := de_op op_borD ha hb
theorem l_cat (ha : DP X a fa) (hb : DP X b fb) : FL X (.BinOp a .Add b pos) (b2 catL fa fb) := fl_op op_catL ha hb
theorem l_rep (ha : DP X a fa) (hb : DP X b fb) : FL X (.BinOp a .Mult b pos) (b2 repL fa fb) := fl_op op_repL ha hb
theorem x_neg (ha : DP X a fa) : DE X (.UnaryOp .USub a pos) (u1 negD fa) := de_un un_negD ha

variable (hu : X.A.units + 64 < cLine)
include hu
theorem x_eq (ha : DP X a fa) (hb : DP X b fb) : DE X (.Compare a [.Eq] [b] pos) (b2 eqD fa fb) := de_cmp (op_eqD' hu) ha hb (nomark _)
theorem x_ne (ha : DP X a fa) (hb : DP X b fb) : DE X (.Compare a [.NotEq] [b] pos) (b2 neD fa fb) := de_cmp (op_neD' hu) ha hb (nomark _)
theorem x_lt (ha : DP X a fa) (hb : DP X b fb) : DE X (.Compare a [.Lt] [b] pos) (b2 ltD fa fb) := de_cmp (op_ltD' hu) ha hb (nomark _)
theorem x_le (ha : DP X a fa) (hb : DP X b fb) : DE X (.Compare a [.LtE] [b] pos) (b2 leD fa fb) := de_cmp (op_leD' hu) ha hb (nomark _)
theorem x_gt (ha : DP X a fa) (hb : DP X b fb) : DE X (.Compare a [.Gt] [b] pos) (b2 gtD fa fb) := de_cmp (op_gtD' hu) ha hb (nomark _)
theorem x_ge (ha : DP X a fa) (hb : DP X b fb) : DE X (.Compare a [.GtE] [b] pos) (b2 geD fa fb) := de_cmp (op_geD' hu) ha hb (nomark _)
theorem x_in (ha : DP X a fa) (hb : DP X b fb) (hm : behindInMarks .In b = false := by rfl) : DE X (.Compare a [.In] [b] pos) (b2 (inD false) fa fb) := de_cmp (op_inD' hu) ha hb hm
theorem x_nin (ha : DP X a fa) (hb : DP X b fb) (hm : behindInMarks .NotIn b = false := by rfl) : DE X (.Compare a [.NotIn] [b] pos) (b2 (inD true) fa fb) := de_cmp (op_notInD' hu) ha hb hm
theorem t_eq (ha : DP X a fa) (hb : DP X b fb) : DT X (.Compare a [.Eq] [b] pos) (tc eqD fa fb) := dt_cmp (op_eqD' hu) ha hb (nomark _)
theorem t_ne (ha : DP X a fa) (hb : DP X b fb) : DT X (.Compare a [.NotEq] [b] pos) (tc neD fa fb) := dt_cmp (op_neD' hu) ha hb (nomark _)
theorem t_lt (ha : DP X a fa) (hb : DP X b fb) : DT X (.Compare a [.Lt] [b] pos) (tc ltD fa fb) := dt_cmp (op_ltD' hu) ha hb (nomark _)
theorem t_le (ha : DP X a fa) (hb : DP X b fb) : DT X (.Compare a [.LtE] [b] pos) (tc leD fa fb) := dt_cmp (op_leD' hu) ha hb (nomark _)
theorem t_gt (ha : DP X a fa) (hb : DP X b fb) : DT X (.Compare a [.Gt] [b] pos) (tc gtD fa fb) := dt_cmp (op_gtD' hu) ha hb (nomark _)
theorem t_ge (ha : DP X a fa) (hb : DP X b fb) : DT X (.Compare a [.GtE] [b] pos) (tc geD fa fb) := dt_cmp (op_geD' hu) ha hb (nomark _)
theorem t_in (ha : DP X a fa) (hb : DP X b fb) (hm : behindInMarks .In b = false := by rfl) : DT X (.Compare a [.In] [b] pos) (tc (inD false) fa fb) := dt_cmp (op_inD' hu) ha hb hm
theorem t_nin (ha : DP X a fa) (hb : DP X b fb) (hm : behindInMarks .NotIn b = false := by rfl) : DT X (.Compare a [.NotIn] [b] pos) (tc (inD true) fa fb) := dt_cmp (op_notInD' hu) ha hb hm
/-- a op b op c: le, lt -/
theorem x_lele (ha : DP X a fa) (hb : DP X b fb) (hc : DP X c fc) (hm : lastMarks [.LtE, .LtE] [b, c] = false := by with_unfolding_all rfl) : DE X (.Compare a [.LtE, .LtE] [b, c] pos) (chainF leD leD fa fb fc) := de_chain (op_leD' hu) (op_leD' hu) ha hb hc hm
theorem x_lelt (ha : DP X a fa) (hb : DP X b fb) (hc : DP X c fc) (hm : lastMarks [.LtE, .Lt] [b, c] = false := by with_unfolding_all rfl) : DE X (.Compare a [.LtE, .Lt] [b, c] pos) (chainF leD ltD fa fb fc) := de_chain (op_leD' hu) (op_ltD' hu) ha hb hc hm
theorem t_lele (ha : DP X a fa) (hb : DP X b fb) (hc : DP X c fc) (hm : lastMarks [.LtE, .LtE] [b, c] = false := by with_unfolding_all rfl) : DT X (.Compare a [.LtE, .LtE] [b, c] pos) (tch leD leD fa fb fc) := dt_chain (op_leD' hu) (op_leD' hu) ha hb hc hm
theorem t_lelt (ha : DP X a fa) (hb : DP X b fb) (hc : DP X c fc) (hm : lastMarks [.LtE, .Lt] [b, c] = false := by with_unfolding_all rfl) : DT X (.Compare a [.LtE, .Lt] [b, c] pos) (tch leD ltD fa fb fc) := dt_chain (op_leD' hu) (op_ltD' hu) ha hb hc hm
omit hu
theorem x_is (ha : DP X a fa) (hb : DP X b fb) : DE X (.Compare a [.Is] [b] pos) (b2 isD fa fb) := de_cmp op_isD ha hb (nomark _)
theorem x_isn (ha : DP X a fa) (hb : DP X b fb) : DE X (.Compare a [.IsNot] [b] pos) (b2 isNotD fa fb) := de_cmp op_isNotD ha hb (nomark _)
theorem t_is (ha : DP X a fa) (hb : DP X b fb) : DT X (.Compare a [.Is] [b] pos) (tc isD fa fb) := dt_cmp op_isD ha hb (nomark _)
theorem t_isn (ha : DP X a fa) (hb : DP X b fb) : DT X (.Compare a [.IsNot] [b] pos) (tc isNotD fa fb) := dt_cmp op_isNotD ha hb (nomark _)

theorem t_b (h : DE X e f) (he : ∀ whole, isTrue e X.env whole = (do let v ← whole; standAt e.pos; holding [v] (truthy v)) := by intro _; rfl) : DT X e (tb f) := dt_val h he
theorem t_t (h : DP X e f) (he : ∀ whole, isTrue e X.env whole = (do let v ← whole; standAt e.pos; holding [v] (truthy v)) := by intro _; rfl) : DT X e (tt f) := dt_truth h he
theorem t_not {g : FB} (h : DT X a g) : DT X (.UnaryOp .Not a pos) (tn g) := dt_not h
theorem t_w {g : FB} (h : DW X a g) : DT X a g := h.dt
theorem w_and {rest : List Expr} {g h : FB} (ha : DT X a g) (hb : DW X (.BoolOp .And (b :: rest) pos) h) : DW X (.BoolOp .And (a :: b :: rest) pos) (andF g false h) := dw_and ha hb
theorem w_and1 {g : FB} (ha : DT X a g) : DW X (.BoolOp .And [a] pos) g := dw_and1 ha
theorem w_or {rest : List Expr} {g h : FB} (ha : DT X a g) (hb : DW X (.BoolOp .Or (b :: rest) pos) h) : DW X (.BoolOp .Or (a :: b :: rest) pos) (orF g true h) := dw_or ha hb
theorem w_or1 {g : FB} (ha : DT X a g) : DW X (.BoolOp .Or [a] pos) g := dw_or1 ha
theorem x_not (h : DE X a f) : DE X (.UnaryOp .Not a pos) (xn f) := de_not h
theorem x_and {rest : List Expr} {g : FE} (ha : DE X a f) (hb : DE X (.BoolOp .And (b :: rest) pos) g) : DE X (.BoolOp .And (a :: b :: rest) pos) (xand f g) := de_and ha hb
theorem x_or {rest : List Expr} {g : FE} (ha : DE X a f) (hb : DE X (.BoolOp .Or (b :: rest) pos) g) : DE X (.BoolOp .Or (a :: b :: rest) pos) (xor' f g) := de_or ha hb
theorem x_one {op} (ha : DE X a f) : DE X (.BoolOp op [a] pos) f := de_one ha
theorem x_if {g : FB} {h k : FE} (hc : DT X c g) (ha : DE X a h) (hb : DE X b k) : DE X (.IfExp c a b pos) (iteF' g h k) := de_if hc ha hb

theorem a_nil : DAE X [] anil := dae_nil
theorem a_cons (ha : DE X e f) (hr : DAE X es fs) (hs : starEach (e :: es) X.env = (false, eval e X.env) :: starEach es X.env := by rfl) : DAE X (e :: es) (acons f fs) := dae_cons ha hr hs
theorem q_nil : DA X [] anil := da_nil
theorem q_cons (ha : DP X e f) (hr : DA X es fs) (hs : starEach (e :: es) X.env = (false, eval e X.env) :: starEach es X.env := by rfl) : DA X (e :: es) (acons f fs) := da_cons ha hr hs
theorem x_tup {x1} (h : DAE X es fs) : DE X (.Tuple es x1 pos) (mkT fs) := de_tup h
theorem l_lst (h : DAE X es fs) : FL X (.List es pos) (mkL fs) := fl_lst h

/-! ### built-ins -/
theorem bt_len : bootBuiltins "len" = some (.builtin "len") := PySem.boot_len
theorem bt_abs : bootBuiltins "abs" = some (.builtin "abs") := by decide +kernel
theorem bt_int : bootBuiltins "int" = some (.type "int") := by decide +kernel
theorem bt_bool : bootBuiltins "bool" = some (.type "bool") := by decide +kernel
theorem bt_str : bootBuiltins "str" = some (.type "str") := by decide +kernel
theorem bt_min : bootBuiltins "min" = some (.builtin "min") := by decide +kernel
theorem bt_max : bootBuiltins "max" = some (.builtin "max") := by decide +kernel
theorem bt_sum : bootBuiltins "sum" = some (.builtin "sum") := by decide +kernel
theorem bt_all : bootBuiltins "all" = some (.builtin "all") := by decide +kernel
theorem bt_any : bootBuiltins "any" = some (.builtin "any") := by decide +kernel
theorem bt_tuple : bootBuiltins "tuple" = some (.type "tuple") := by decide +kernel
theorem bt_list : bootBuiltins "list" = some (.type "list") := by decide +kernel
theorem bt_sorted : bootBuiltins "sorted" = some (.builtin "sorted") := by decide +kernel
variable {pl : Bool}
theorem x_len (m : X.mg "len" = none) (h : DA X (e :: es) fs) (hg : Gl X "len" := by rfl) (he : starEach (e :: es) X.env = (false, eval e X.env) :: starEach es X.env := by rfl) (hpl : (backTo pos (starEach es X.env)).any (·.1) = false := by rfl) : DE X (.Call (.Name "len" p) (e :: es) [] pos) (cl lenD fs) := de_callB call_lenD' hg m bt_len h (by decide) (by decide) he hpl
theorem x_toInt (m : X.mg "int" = none) (h : DA X (e :: es) fs) (hg : Gl X "int" := by rfl) (he : starEach (e :: es) X.env = (false, eval e X.env) :: starEach es X.env := by rfl) (hpl : (backTo pos (starEach es X.env)).any (·.1) = false := by rfl) : DE X (.Call (.Name "int" p) (e :: es) [] pos) (cl intD fs) := de_callTy call_intD hg m bt_int h (by decide) (by decide) he hpl
theorem x_abs (m : X.mg "abs" = none) (h : DA X (e :: es) fs) (hg : Gl X "abs" := by rfl) (he : starEach (e :: es) X.env = (false, eval e X.env) :: starEach es X.env := by rfl) (hpl : (backTo pos (starEach es X.env)).any (·.1) = false := by rfl) : DE X (.Call (.Name "abs" p) (e :: es) [] pos) (cl absD fs) := de_callB call_absD hg m bt_abs h (by decide) (by decide) he hpl
theorem x_toStr (m : X.mg "str" = none) (h : DA X (e :: es) fs) (hg : Gl X "str" := by rfl) (he : starEach (e :: es) X.env = (false, eval e X.env) :: starEach es X.env := by rfl) (hpl : (backTo pos (starEach es X.env)).any (·.1) = false := by rfl) : DE X (.Call (.Name "str" p) (e :: es) [] pos) (cl strD fs) := de_callTy call_strD hg m bt_str h (by decide) (by decide) he hpl
theorem x_max2 (hc : X.calm = true) (m : X.mg "max" = none) (h : DA X (e :: es) fs) (hg : Gl X "max" := by rfl) (he : starEach (e :: es) X.env = (false, eval e X.env) :: starEach es X.env := by rfl) (hpl : (backTo pos (starEach es X.env)).any (·.1) = false := by rfl) : DE X (.Call (.Name "max" p) (e :: es) [] pos) (cl max2D fs) := de_callB (call_max2D hc) hg m bt_max h (by decide) (by decide) he hpl
theorem x_min2 (hc : X.calm = true) (m : X.mg "min" = none) (h : DA X (e :: es) fs) (hg : Gl X "min" := by rfl) (he : starEach (e :: es) X.env = (false, eval e X.env) :: starEach es X.env := by rfl) (hpl : (backTo pos (starEach es X.env)).any (·.1) = false := by rfl) : DE X (.Call (.Name "min" p) (e :: es) [] pos) (cl min2D fs) := de_callB (call_min2D hc) hg m bt_min h (by decide) (by decide) he hpl
theorem x_min3 (hc : X.calm = true) (m : X.mg "min" = none) (h : DA X (e :: es) fs) (hg : Gl X "min" := by rfl) (he : starEach (e :: es) X.env = (false, eval e X.env) :: starEach es X.env := by rfl) (hpl : (backTo pos (starEach es X.env)).any (·.1) = false := by rfl) : DE X (.Call (.Name "min" p) (e :: es) [] pos) (cl min3D fs) := de_callB (call_min3D hc) hg m bt_min h (by decide) (by decide) he hpl
theorem x_min2L (hu : X.A.units + 64 < cLine) (hc : X.calm = true) (m : X.mg "min" = none) (h : DA X (e :: es) fs) (hg : Gl X "min" := by rfl) (he : starEach (e :: es) X.env = (false, eval e X.env) :: starEach es X.env := by rfl) (hpl : (backTo pos (starEach es X.env)).any (·.1) = false := by rfl) : DE X (.Call (.Name "min" p) (e :: es) [] pos) (cl min2L fs) := de_callB (call_min2L hc hu) hg m bt_min h (by decide) (by decide) he hpl
theorem x_minL (hu : X.A.units + 64 < cLine) (hc : X.calm = true) (m : X.mg "min" = none) (h : DA X (e :: es) fs) (hg : Gl X "min" := by rfl) (he : starEach (e :: es) X.env = (false, eval e X.env) :: starEach es X.env := by rfl) (hpl : (backTo pos (starEach es X.env)).any (·.1) = false := by rfl) : DE X (.Call (.Name "min" p) (e :: es) [] pos) (cl minL fs) := de_callB (call_minL hc hu) hg m bt_min h (by decide) (by decide) he hpl
theorem x_maxL (hu : X.A.units + 64 < cLine) (hc : X.calm = true) (m : X.mg "max" = none) (h : DA X (e :: es) fs) (hg : Gl X "max" := by rfl) (he : starEach (e :: es) X.env = (false, eval e X.env) :: starEach es X.env := by rfl) (hpl : (backTo pos (starEach es X.env)).any (·.1) = false := by rfl) : DE X (.Call (.Name "max" p) (e :: es) [] pos) (cl maxL fs) := de_callB (call_maxL hc hu) hg m bt_max h (by decide) (by decide) he hpl
theorem x_sum (hc : X.calm = true) (m : X.mg "sum" = none) (h : DA X (e :: es) fs) (hg : Gl X "sum" := by rfl) (he : starEach (e :: es) X.env = (false, eval e X.env) :: starEach es X.env := by rfl) (hpl : (backTo pos (starEach es X.env)).any (·.1) = false := by rfl) : DE X (.Call (.Name "sum" p) (e :: es) [] pos) (cl sumD fs) := de_callB (call_sumD hc) hg m bt_sum h (by decide) (by decide) he hpl
theorem x_all (hc : X.calm = true) (m : X.mg "all" = none) (h : DA X (e :: es) fs) (hg : Gl X "all" := by rfl) (he : starEach (e :: es) X.env = (false, eval e X.env) :: starEach es X.env := by rfl) (hpl : (backTo pos (starEach es X.env)).any (·.1) = false := by rfl) : DE X (.Call (.Name "all" p) (e :: es) [] pos) (cl allD fs) := de_callB (call_allD hc) hg m bt_all h (by decide) (by decide) he hpl
theorem x_any (hc : X.calm = true) (m : X.mg "any" = none) (h : DA X (e :: es) fs) (hg : Gl X "any" := by rfl) (he : starEach (e :: es) X.env = (false, eval e X.env) :: starEach es X.env := by rfl) (hpl : (backTo pos (starEach es X.env)).any (·.1) = false := by rfl) : DE X (.Call (.Name "any" p) (e :: es) [] pos) (cl anyD fs) := de_callB (call_anyD hc) hg m bt_any h (by decide) (by decide) he hpl
theorem x_tuple (m : X.mg "tuple" = none) (h : DA X (e :: es) fs) (hg : Gl X "tuple" := by rfl) (he : starEach (e :: es) X.env = (false, eval e X.env) :: starEach es X.env := by rfl) (hpl : (backTo pos (starEach es X.env)).any (·.1) = false := by rfl) : DE X (.Call (.Name "tuple" p) (e :: es) [] pos) (cl tupD fs) := de_callTy call_tupD hg m bt_tuple h (by decide) (by decide) he hpl
theorem l_list (m : X.mg "list" = none) (h : DA X (e :: es) fs) (hg : Gl X "list" := by rfl) (he : starEach (e :: es) X.env = (false, eval e X.env) :: starEach es X.env := by rfl) (hpl : (backTo pos (starEach es X.env)).any (·.1) = false := by rfl) : FL X (.Call (.Name "list" p) (e :: es) [] pos) (cl listL fs) := fl_callTy call_listL hg m bt_list h (by decide) (by decide) he hpl
theorem l_sorted (hu : X.A.units + 64 < cLine) (m : X.mg "sorted" = none) (h : DA X (e :: es) fs) (hg : Gl X "sorted" := by rfl) (he : starEach (e :: es) X.env = (false, eval e X.env) :: starEach es X.env := by rfl) (hpl : (backTo pos (starEach es X.env)).any (·.1) = false := by rfl) : FL X (.Call (.Name "sorted" p) (e :: es) [] pos) (cl sortL fs) := fl_callB (call_sortL hu) hg m bt_sorted h (by decide) (by decide) he hpl
theorem l_listRg {p2 pos2 : Pos} (hc : X.calm = true) (m : X.mg "list" = none) (mr : X.mg "range" = none) (ha : DP X a f) (hg : Gl X "list" := by rfl) (hgr : Gl X "range" := by rfl)
    (na : starEach [a] X.env = (false, eval a X.env) :: starEach [] X.env := by rfl) (nb : starEach [.Call (.Name "range" p2) [a] [] pos2] X.env = (false, eval (.Call (.Name "range" p2) [a] [] pos2) X.env) :: starEach [] X.env := by rfl) :
    FL X (.Call (.Name "list" p) [.Call (.Name "range" p2) [a] [] pos2] [] pos) (u1 rgL1 f) := fl_listRg1 hc ha hg m hgr mr na nb
theorem x_isi {x : Str} {px : Pos} (T : String) (m : X.mg "isinstance" = none) (mT : X.mg x = none) (hv : bootBuiltins x = some (.type T)) (ha : DP X a f) (hg : Gl X "isinstance" := by rfl) (hgT : Gl X x := by rfl) (hn : x ≠ "__name__" := by decide) (hdb : (x == ("__debug__" : Str)) = false := by decide)
    (he : starEach [a, .Name x px] X.env = (false, eval a X.env) :: starEach [.Name x px] X.env := by rfl) (he2 : starEach [.Name x px] X.env = (false, eval (.Name x px) X.env) :: starEach [] X.env := by rfl) (hpl : (backTo pos (starEach [.Name x px] X.env)).any (·.1) = false := by rfl) :
    DE X (.Call (.Name "isinstance" p) [a, .Name x px] [] pos) (u1 (isiD T) f) := de_isi ha hg m hgT mT hv hn hdb he he2 hpl
theorem x_ix (ha : DP X a fa) (hb : DP X b fb) (hs : PlainIx b := by exact fun _ _ => rfl) : DE X (.Subscript a b pos) (b2 ixD fa fb) := de_ix ix_ixD ha hb hs
theorem o_no : DO X none ono := do_none
theorem o_i (h : DP X e f) : DO X (some e) (oi f) := do_some h
theorem x_sl {lo hi : Option Expr} {p2 : Pos} {g h : FO} (ha : DP X a f) (hl : DO X lo g) (hh : DO X hi h) : DE X (.Subscript a (.Slice lo hi none p2) pos) (sl3 slD f g h) := de_slice ha hl hh
theorem l_sl {lo hi : Option Expr} {p2 : Pos} {g h : FO} (ha : DP X a f) (hl : DO X lo g) (hh : DO X hi h) : FL X (.Subscript a (.Slice lo hi none p2) pos) (sl3 slL f g h) := fl_slice ha hl hh
/-- a def's call -/
theorem x_call {k : Nat} {fn : Addr} {fd : FuncData} {ps : List Str} {x : Str} {g : List D → Option D} (F : FnOk X.prog X.w X.K X.mg X.base CX0 k fn fd ps (spD X.w X.K g)) (hr : Room k X.A) (hm : X.mg x = some (.ref fn)) (hk : PySem.W.keepIn X.K (.ref fn) = true) (hb : Binds X.K fd ps [])
    (ha : DAE X (e :: es) fs) (hg : Gl X x := by rfl) (hdb : (x == ("__debug__" : Str)) = false := by decide) (he : starEach (e :: es) X.env = (false, eval e X.env) :: starEach es X.env := by rfl) (hpl : (backTo pos (starEach es X.env)).any (·.1) = false := by rfl) :
    DE X (.Call (.Name x p) (e :: es) [] pos) (cl g fs) := de_call F hr hg hm hk hb ha hdb he hpl
/-- comprehensions -/
theorem l_lc {elt tg iter : Expr} {ifs : List Expr} {scope : Scope} {is : List Nat} {f : FA} {g : D → Option Puts} {tt : FB} {fe : FE} (own : List (Str × Nat)) (hc : X.calm = true) (hN : X.N.Nodup) (hi : DIP X tg iter f)
    (hg : ∀ (s : Shared) (H : Hp) (C : Addr) (cl : List (Str × Addr)) (fp : List Addr), DG (X.blk s H scope (compEnvC scope cl C X.env) fp) tg is g)
    (ht : ∀ (s : Shared) (H : Hp) (C : Addr) (cl : List (Str × Addr)) (fp : List Addr), DTs (X.blk s H scope (compEnvC scope cl C X.env) fp) ifs tt)
    (he : ∀ (s : Shared) (H : Hp) (C : Addr) (cl : List (Str × Addr)) (fp : List Addr), DE (X.blk s H scope (compEnvC scope cl C X.env) fp) elt fe) (ok : BlkOk X.N X.env.scope scope own := by exact blkOk_by (by kernel_rfl))
    (hsub : ∀ i ∈ is, i ∈ own.map (·.2) := by decide) (hs : ∀ x, foldedSetIterable iter X.env x = pure x := by intro _; rfl) :
    FL X (.ListComp elt [⟨tg, iter, ifs, 0⟩] scope pos) (lcF (own.map (·.2)) f g tt fe) := fl_lc hc hN hi ok hg ht he hsub hs

/-! ### statements -/
variable {st : Stmt} {sts : List Stmt}
theorem s_set {x : Str} {pos' : Pos} (i : Nat) (hN : X.N.Nodup) (he : DE X e f) (hi : X.N[i]? = some x := by rfl) (hx : Loc X.env.scope x := by first | exact Or.inl rfl | exact Or.inr rfl) (hs : swapsWith e (some (.Name x pos')) pos.line X.env = pure false := by rfl)
    (hf : X.fn x = true ∨ X.env.scope.names.lookup x = some .local := by first | exact .inl rfl | exact .inr rfl | assumption) : DS X (.Assign [.Name x pos'] e pos) (setF i f) := ds_setP he fun t q => ps_set hN hi hx q hs hf
theorem s_setL {x : Str} {pos' : Pos} (i : Nat) (hN : X.N.Nodup) (he : FL X e fs) (hi : X.N[i]? = some x := by rfl) (hx : Loc X.env.scope x := by first | exact Or.inl rfl | exact Or.inr rfl) (hs : swapsWith e (some (.Name x pos')) pos.line X.env = pure false := by rfl)
    (hf : X.fn x = true ∨ X.env.scope.names.lookup x = some .local := by first | exact .inl rfl | exact .inr rfl | assumption) : DS X (.Assign [.Name x pos'] e pos) (setLF i fs) := ds_setLP he fun t q => ps_set hN hi hx q hs hf
theorem s_setLc {y : Str} {py : Pos} {elt tg iter : Expr} {ifs : List Expr} {scope : Scope} {spos : Pos} {is : List Nat} {f : FA} {g : D → Option Puts} {tt : FB} {fe : FE} (i : Nat) (own : List (Str × Nat)) (hc : X.calm = true) (hN : X.N.Nodup) (hi : DIP X tg iter f)
    (hg : ∀ (s : Shared) (H : Hp) (C : Addr) (cl : List (Str × Addr)) (fp : List Addr), DG (X.blk s H scope (compEnvC scope cl C X.env) fp) tg is g)
    (ht : ∀ (s : Shared) (H : Hp) (C : Addr) (cl : List (Str × Addr)) (fp : List Addr), DTs (X.blk s H scope (compEnvC scope cl C X.env) fp) ifs tt)
    (he : ∀ (s : Shared) (H : Hp) (C : Addr) (cl : List (Str × Addr)) (fp : List Addr), DE (X.blk s H scope (compEnvC scope cl C X.env) fp) elt fe)
    (hy : X.N[i]? = some y := by rfl) (hyl : X.env.scope.names.lookup y = some .local := by rfl) (ok : BlkOk X.N X.env.scope scope own := by exact blkOk_by (by kernel_rfl))
    (hsw : swapsWith (.ListComp elt [⟨tg, iter, ifs, 0⟩] scope pos) (some (.Name y py)) spos.line X.env = pure true := by exact sw_true rfl rfl rfl (by kernel_rfl))
    (hsub : ∀ i ∈ is, i ∈ own.map (·.2) := by decide) (hs : ∀ x, foldedSetIterable iter X.env x = pure x := by intro _; rfl) :
    DS X (.Assign [.Name y py] (.ListComp elt [⟨tg, iter, ifs, 0⟩] scope pos) spos) (setLF i (lcF (own.map (·.2)) f g tt fe)) := ds_setLc hc hN hy hyl hsw hi ok hg ht he hsub hs
theorem s_aug {x : Str} {pos' : Pos} {op : Operator} {g : D → D → Option D} (i : Nat) (hN : X.N.Nodup) (ho : OpD X (inplaceOp op) g) (he : DP X e f) (hi : X.N[i]? = some x := by rfl) (hx : Loc X.env.scope x := by first | exact Or.inl rfl | exact Or.inr rfl)
    (hf : X.fn x = true ∨ X.env.scope.names.lookup x = some .local := by first | exact .inl rfl | exact .inr rfl | assumption) : DS X (.AugAssign (.Name x pos') op e pos) (augF i f g) := ds_aug hN hi hx he ho hf
def iaddD : D → D → Option D
  | .int i, .int j => some (.int (i + j))
  | _, _ => none
theorem iop_addD : OpD X (inplaceOp .Add) iaddD := by
  intro pins s σ H x y v u Q I rx ry h
  obtain ⟨F, d, e, r, sm, p1, p2, hg, k⟩ := h
  unfold iaddD at hg
  split at hg
  · cases hg
    cases p1.int_inv; cases p2.int_inv
    exact iop_add pins s σ H _ _ v u Q I rx ry ⟨_, _, rfl, rfl, k _ F H (.refl sm) (.int _)⟩
  · cases hg
theorem iop_subD : OpD X (inplaceOp .Sub) subD := by
  intro pins s σ H x y v u Q I rx ry h
  obtain ⟨F, d, e, r, sm, p1, p2, hg, k⟩ := h
  unfold subD at hg
  split at hg
  · cases hg
    cases p1.int_inv; cases p2.int_inv
    exact iop_sub pins s σ H _ _ v u Q I rx ry ⟨_, _, rfl, rfl, k _ F H (.refl sm) (.int _)⟩
  · cases hg
theorem iop_borD : OpD X (inplaceOp .BitOr) borD := by
  intro pins s σ H x y v u Q I rx ry h
  obtain ⟨F, d, e, r, sm, p1, p2, hg, k⟩ := h
  unfold borD at hg
  split at hg
  · cases hg
    cases p1.int_inv; cases p2.int_inv
    exact iop_or pins s σ H _ _ v u Q I rx ry ⟨_, _, rfl, rfl, k _ F H (.refl sm) (.int _)⟩
  · cases hg
def imOk (i j : Int) : Prop := (-18446744073709551616 < i ∧ i < 18446744073709551616) ∨ (-18446744073709551616 < j ∧ j < 18446744073709551616)
noncomputable instance (i j : Int) : Decidable (imOk i j) := Classical.propDecidable _
noncomputable def imulD : D → D → Option D
  | .int i, .int j => if imOk i j then some (.int (i * j)) else none
  | _, _ => none
theorem iop_mulD : OpD X (inplaceOp .Mult) imulD := by
  intro pins s σ H x y v u Q I rx ry h
  obtain ⟨F, d, e, r, sm, p1, p2, hg, k⟩ := h
  unfold imulD at hg
  split at hg
  · split at hg
    · rename_i i j hz
      cases hg
      cases p1.int_inv; cases p2.int_inv
      exact iop_mul pins s σ H _ _ v u Q I rx ry ⟨_, _, rfl, rfl, hz, k _ F H (.refl sm) (.int _)⟩
    · cases hg
  · cases hg
theorem s_iadd {x : Str} {pos' : Pos} (i : Nat) (hN : X.N.Nodup) (he : DP X e f) (hi : X.N[i]? = some x := by rfl) (hx : Loc X.env.scope x := by first | exact Or.inl rfl | exact Or.inr rfl)
    (hf : X.fn x = true ∨ X.env.scope.names.lookup x = some .local := by first | exact .inl rfl | exact .inr rfl | assumption) : DS X (.AugAssign (.Name x pos') .Add e pos) (augF i f iaddD) := ds_aug hN hi hx he iop_addD hf
theorem s_isub {x : Str} {pos' : Pos} (i : Nat) (hN : X.N.Nodup) (he : DP X e f) (hi : X.N[i]? = some x := by rfl) (hx : Loc X.env.scope x := by first | exact Or.inl rfl | exact Or.inr rfl)
    (hf : X.fn x = true ∨ X.env.scope.names.lookup x = some .local := by first | exact .inl rfl | exact .inr rfl | assumption) : DS X (.AugAssign (.Name x pos') .Sub e pos) (augF i f subD) := ds_aug hN hi hx he iop_subD hf
theorem s_ibor {x : Str} {pos' : Pos} (i : Nat) (hN : X.N.Nodup) (he : DP X e f) (hi : X.N[i]? = some x := by rfl) (hx : Loc X.env.scope x := by first | exact Or.inl rfl | exact Or.inr rfl)
    (hf : X.fn x = true ∨ X.env.scope.names.lookup x = some .local := by first | exact .inl rfl | exact .inr rfl | assumption) : DS X (.AugAssign (.Name x pos') .BitOr e pos) (augF i f borD) := ds_aug hN hi hx he iop_borD hf
theorem s_imul {x : Str} {pos' : Pos} (i : Nat) (hN : X.N.Nodup) (he : DP X e f) (hi : X.N[i]? = some x := by rfl) (hx : Loc X.env.scope x := by first | exact Or.inl rfl | exact Or.inr rfl)
    (hf : X.fn x = true ∨ X.env.scope.names.lookup x = some .local := by first | exact .inl rfl | exact .inr rfl | assumption) : DS X (.AugAssign (.Name x pos') .Mult e pos) (augF i f imulD) := ds_aug hN hi hx he iop_mulD hf
theorem g_n {x : Str} (i : Nat) (hN : X.N.Nodup) (hi : X.N[i]? = some x := by rfl) (hx : Loc X.env.scope x := by first | exact Or.inl rfl | exact Or.inr rfl) (hf : X.fn x = true ∨ X.env.scope.names.lookup x = some .local := by first | exact .inl rfl | exact .inr rfl | assumption) : DG X (.Name x pos) [i] (fun d => some [(i, d)]) := dg_name (pg_name hN hi hx hf)
abbrev gn (i : Nat) : D → Option Puts := fun d => some [(i, d)]
theorem s_asg {tg : Expr} {is : List Nat} {g : D → Option Puts} (he : DE X e f) (hg : DG X tg is g) (hs : swapsWithSole [tg] e pos.line X.env = pure false := by rfl) (hw : swappedStores [tg] e X.env = pure none := by rfl)
    (h1 : (assignEach [tg] X.env).map (·.2) = [assign tg X.env] := by rfl) : DS X (.Assign [tg] e pos) (asgF f g) := ds_asg he hg hs hw h1
theorem s_par {x y : Str} {px py pt : Pos} {kt k2 pt2} (i j : Nat) (hc : X.calm = true) (hN : X.N.Nodup) (ha : DAE X [a, b] fs) (hi : X.N[i]? = some x := by rfl) (hj : X.N[j]? = some y := by rfl) (hij : i ≠ j := by decide)
    (hx : X.env.scope.names.lookup x = some .local := by rfl) (hy : X.env.scope.names.lookup y = some .local := by rfl)
    (hw : swappedStores [.Tuple [.Name x px, .Name y py] kt pt] (.Tuple [a, b] k2 pt2) X.env = pure (some [x, y]) := by rfl)
    (hs : swapsWithSole [.Tuple [.Name x px, .Name y py] kt pt] (.Tuple [a, b] k2 pt2) pos.line X.env = pure false := by rfl) :
    DS X (.Assign [.Tuple [.Name x px, .Name y py] kt pt] (.Tuple [a, b] k2 pt2) pos) (parF i j fs) := ds_par hc hN hi hj hij hx hy ha hw hs
theorem s_append {x : Str} {px apos cpos : Pos} (i : Nat) (he : DE X e f) (hN : X.N[i]? = some x := by rfl) (hv : Vis X.env.scope x := by first | exact Or.inl rfl | exact Or.inr (Or.inl rfl) | exact Or.inr (Or.inr rfl)) (hd : (x == ("__debug__" : Str)) = false := by decide)
    (hcd : (x == ("__classdict__" : Str)) = false := by decide) (hbase : attributeBase (.Name x px) "append" X.env (eval (.Name x px) X.env) = eval (.Name x px) X.env := by rfl)
    (hfew : ((backTo cpos (starEach [e] X.env)).all (fun x => !x.1) && (backToKw cpos (keywordEach [] X.env)).all (fun x => x.1.isSome)
      && decide ([e].length + ([] : List Keyword).length + (if ([] : List Keyword).isEmpty then 0 else 1) < 30)) = true := by rfl)
    (hline : (apos.endLine == cpos.line) = true := by rfl) (hs : starEach [e] X.env = (false, eval e X.env) :: starEach [] X.env := by rfl) (hplain : (backTo cpos (starEach [] X.env)).any (·.1) = false := by rfl)
    (hsw : swapsWith (.Call (.Attribute (.Name x px) "append" apos) [e] [] cpos) none pos.line X.env = pure false := by rfl) :
    DS X (.Expr (.Call (.Attribute (.Name x px) "append" apos) [e] [] cpos) pos) (appF i f) := ds_append (pe_var hN hv hd hcd) he hbase hfew hline hs hplain hsw
theorem s_extend {x : Str} {px apos cpos : Pos} (i : Nat) (he : DP X e f) (hN : X.N[i]? = some x := by rfl) (hv : Vis X.env.scope x := by first | exact Or.inl rfl | exact Or.inr (Or.inl rfl) | exact Or.inr (Or.inr rfl)) (hd : (x == ("__debug__" : Str)) = false := by decide)
    (hcd : (x == ("__classdict__" : Str)) = false := by decide) (hbase : attributeBase (.Name x px) "extend" X.env (eval (.Name x px) X.env) = eval (.Name x px) X.env := by rfl)
    (hfew : ((backTo cpos (starEach [e] X.env)).all (fun x => !x.1) && (backToKw cpos (keywordEach [] X.env)).all (fun x => x.1.isSome)
      && decide ([e].length + ([] : List Keyword).length + (if ([] : List Keyword).isEmpty then 0 else 1) < 30)) = true := by rfl)
    (hline : (apos.endLine == cpos.line) = true := by rfl) (hs : starEach [e] X.env = (false, eval e X.env) :: starEach [] X.env := by rfl) (hplain : (backTo cpos (starEach [] X.env)).any (·.1) = false := by rfl)
    (hsw : swapsWith (.Call (.Attribute (.Name x px) "extend" apos) [e] [] cpos) none pos.line X.env = pure false := by rfl) :
    DS X (.Expr (.Call (.Attribute (.Name x px) "extend" apos) [e] [] cpos) pos) (extF i f) := ds_extend (pe_var hN hv hd hcd) he hbase hfew hline hs hplain hsw
theorem s_pop {x y : Str} {px py apos cpos : Pos} (i j : Nat) (hN : X.N.Nodup) (hi : X.N[i]? = some y := by rfl) (hv : Vis X.env.scope y := by first | exact Or.inl rfl | exact Or.inr (Or.inl rfl) | exact Or.inr (Or.inr rfl)) (hd : (y == ("__debug__" : Str)) = false := by decide)
    (hcd : (y == ("__classdict__" : Str)) = false := by decide) (hj : X.N[j]? = some x := by rfl) (hx : Loc X.env.scope x := by first | exact Or.inl rfl | exact Or.inr rfl) (hbase : attributeBase (.Name y py) "pop" X.env (eval (.Name y py) X.env) = eval (.Name y py) X.env := by rfl) (hline : (apos.endLine == cpos.line) = true := by rfl)
    (hs : swapsWith (.Call (.Attribute (.Name y py) "pop" apos) [] [] cpos) (some (.Name x px)) pos.line X.env = pure false := by rfl) (hf : X.fn x = true ∨ X.env.scope.names.lookup x = some .local := by first | exact .inl rfl | exact .inr rfl | assumption) :
    DS X (.Assign [.Name x px] (.Call (.Attribute (.Name y py) "pop" apos) [] [] cpos) pos) (popF i j) := ds_pop (pe_var hi hv hd hcd) hN hj hx hbase hline hs hf
theorem s_putL {x : Str} {px spos : Pos} {ix : Expr} {g : FE} (i : Nat) (he : DE X e f) (hi : DE X ix g) (hN : X.N[i]? = some x := by rfl) (hv : Vis X.env.scope x := by first | exact Or.inl rfl | exact Or.inr (Or.inl rfl) | exact Or.inr (Or.inr rfl)) (hd : (x == ("__debug__" : Str)) = false := by decide)
    (hcd : (x == ("__classdict__" : Str)) = false := by decide)
    (ha : ∀ v, assign (.Subscript (.Name x px) ix spos) X.env v = (do
      let ov ← holding [v] (eval (.Name x px) X.env)
      let iv ← holding [v, ov] (eval ix X.env)
      standAt spos
      holding [v, ov, iv] (setItem ov iv v)
      release [v, ov, iv] []) := by intro _; rfl)
    (hs : swapsWithSole [.Subscript (.Name x px) ix spos] e pos.line X.env = pure false := by rfl) (hw : swappedStores [.Subscript (.Name x px) ix spos] e X.env = pure none := by rfl)
    (h1 : (assignEach [.Subscript (.Name x px) ix spos] X.env).map (·.2) = [assign (.Subscript (.Name x px) ix spos) X.env] := by rfl) :
    DS X (.Assign [.Subscript (.Name x px) ix spos] e pos) (putLF i f g) := ds_putL (pe_var hN hv hd hcd) he hi ha hs hw h1
theorem s_ret (he : DE X e f) : DS X (.Return (some e) pos) (retF f) := ds_ret he
theorem s_retN : DS X (.Return none pos) retN := ds_retN
theorem s_pass : DS X (.Pass pos) skip := ds_pass
theorem s_break : DS X (.Break pos) brk := ds_break
theorem s_cont : DS X (.Continue pos) cont := ds_continue
theorem s_expr (he : DE X e f) (hs : swapsWith e none pos.line X.env = pure false := by rfl) : DS X (.Expr e pos) (dropF f) := ds_expr he hs
theorem s_if {sa sb : List Stmt} {t : FB} {g h : Env → Option Out} (hc : DT X c t) (ha : DSs X sa g) (hb : DSs X sb h) : DS X (.If c sa sb pos) (ifF t g h) := ds_if hc ha hb
theorem s_for {tg iter : Expr} {body : List Stmt} {is : List Nat} {f : FA} {gt : D → Option Puts} {gb : Env → Option Out} (hc : X.calm = true) (hi : DI X tg iter f) (hg : DG X tg is gt) (hb : DSs X body gb) (hp : PassesOwn (model X.prog X.w) X.A X.env X.xe := by exact PassesOwn.never)
    (hs : ∀ x, foldedSetIterable iter X.env x = pure x := by intro _; rfl) : DS X (.For tg iter body [] pos) (forF f gt gb) := ds_for hp hc hi hg hb hs
theorem s_while {body : List Stmt} {t : FB} {gb : Env → Option Out} (hc : DT X c t) (hb : DSs X body gb) (hp : PassesOwn (model X.prog X.w) X.A X.env X.xe := by exact PassesOwn.never) : DS X (.While c body [] pos) (whileF t gb) := ds_while hp hc hb
theorem ss_nil : DSs X [] skip := dss_nil
theorem ss_c {g h : Env → Option Out} (h1 : DS X st g) (h2 : DSs X sts h) : DSs X (st :: sts) (thenF g h) := dss_cons h1 h2
theorem ss_1 {g : Env → Option Out} (h1 : DS X st g) : DSs X [st] g := dss_one h1
theorem ss_fz {g : Env → Option Out} (i : Nat) (h : DSs X sts g) : DSs X sts (fz i g) := dss_frz i h
/-! ### what is walked -/
variable {tg : Expr}
theorem i_list (h : DE X e f) : DI X tg e (u1 seqOf f) := di_list h
theorem i_tup (h : DE X e f) : DI X tg e (u1 tupOf f) := di_tup h
theorem ip_list (h : DP X e f) : DIP X tg e (u1 seqOf f) := dip_list h
theorem ip_i {iter : Expr} (h : DI X tg iter fs) : DIP X tg iter fs := h.p
theorem i_rg1 (m : X.mg "range" = none) (ha : DA X [a] fs) (hg : Gl X "range" := by rfl) (hs : starEach [a] X.env = [(false, eval a X.env)] := by rfl) : DI X tg (.Call (.Name "range" p) [a] [] pos) (cl rg1 fs) := di_range1 hg m ha hs
theorem i_rg2 (m : X.mg "range" = none) (ha : DA X [a, b] fs) (hg : Gl X "range" := by rfl) (hs : starEach [a, b] X.env = [(false, eval a X.env), (false, eval b X.env)] := by rfl) (hs2 : starEach [b] X.env = [(false, eval b X.env)] := by rfl) : DI X tg (.Call (.Name "range" p) [a, b] [] pos) (cl rg2 fs) := di_range2 hg m ha hs hs2
end
end PD

/-! PD9: more that is walked: enumerate of a list or a tuple, zip, reversed, range with a step, a text. -/
namespace PD
open PySem PySem.Spec PyProof.Rows L2

/-! ### enumerate(v), v a tuple -/
set_option maxHeartbeats 1000000 in
theorem meets_enum1 {v : Value} {o : Obj} {H : Heap → Prop} (B : Begins v o H) :
    Meets (Builtin.«enumerate.__new__» ⟨[.type "enumerate", v], []⟩) (fun _ R s => H s.heap ∧
      R (.ok (.ret (.ref (s.heap.push o).objs.size))) { s with heap := (s.heap.push o).push { cls := .type "enumerate", data := .fields #[.none, .bool false, .ref s.heap.objs.size, rawInt 0, .none, .none] } }) :=
  .of_wp fun prog w A R s h => by
    obtain ⟨hp, g, d, tk, os⟩ := s; obtain ⟨h1, h⟩ := h
    have hsub := sub_enumerate
    have q1 : ∀ {A' : Around} {E : Value → Shared → Prop} {Q : Value → Shared → Prop}, Q (.ref hp.objs.size) ⟨hp.push o, g, d, tk, os⟩ → wpAny (model prog w) A' (pyIter v) Q E ⟨hp, g, d, tk, os⟩ :=
      fun q => B.iter prog w _ _ ⟨hp, g, d, tk, os⟩ _ h1 q
    wp_walk
    refine wpAny_stack_any fun st => wpAny_pure ?_
    split
    · rename_i c _ _ _ _ _
      cases (c == Value.type "enumerate")
      · wp_walk using q1
        exact ⟨_, rfl, h⟩
      · wp_walk using q1
        exact ⟨_, rfl, h⟩
    · wp_walk using q1
      exact ⟨_, rfl, h⟩
theorem call_enum1 {prog : Program} {w : World} {A : Around} {E : Value → Shared → Prop} {s : Shared} {v : Value} {o : Obj} {H : Heap → Prop} {Q : Value → Shared → Prop} (B : Begins v o H) (h1 : H s.heap)
    (h : ∀ h', IsEnum h' (s.heap.objs.size + 1) s.heap.objs.size 0 .none → h'.get? s.heap.objs.size = some o → h'.objs.size = s.heap.objs.size + 2 →
      (∀ b o, s.heap.get? b = some o → h'.get? b = some o) → Q (.ref (s.heap.objs.size + 1)) { s with heap := h' }) :
    wpAny (model prog w) A (call (.type "enumerate") [v]) Q E s := by
  refine callType_new F.called_enumerate (by decide) (F.typeCall_enumerate_1 _) (F.newCall_enumerate_1 _) (fun obj => F.args_object_init_2 obj _) F.entry_enumerate_new
    (meets_enum1 B) ⟨h1, ?_⟩
  have hz : (s.heap.push o).objs.size = s.heap.objs.size + 1 := Heap.size_push ..
  show _ ∧ _
  rw [hz]
  have he : IsEnum ((s.heap.push o).push { cls := .type "enumerate", data := .fields #[.none, .bool false, .ref s.heap.objs.size, rawInt 0, .none, .none] }) (s.heap.objs.size + 1) s.heap.objs.size 0 .none := by
    have := Heap.get?_push_size (s.heap.push o) (o := { cls := .type "enumerate", data := .fields #[.none, .bool false, .ref s.heap.objs.size, rawInt 0, .none, .none] }) rfl
    rw [hz] at this; exact this
  refine ⟨⟨_, he, rfl⟩, h _ he (Heap.get?_push_of_some _ (Heap.get?_push_size _ B.free)) (by rw [Heap.size_push, hz]) fun b o x => Heap.get?_push_of_some _ (Heap.get?_push_of_some _ x)⟩
def IteT (K : PySem.W.Frag) (a : Addr) : It :=
  ⟨fun i H => ∃ (xs : List V) (x : V), SqT K H a xs ∧ xs[i]? = some x, fun i H v H' => ∃ T x, v = .ref T ∧ H T = none ∧ H' = upd H T (.tup [.int (i : Nat), x]) ∧ ∀ xs, SqT K H a xs → xs[i]? = some x, fun i H => ∃ xs : List V, SqT K H a xs ∧ xs.length ≤ i⟩
theorem tup_ne_it {h : Heap} {a it : Addr} {its : Array Value} {i : Nat} (p : IsTup h a its) (q : h.IsTupleIter it a i) : a ≠ it := by
  rintro rfl
  obtain ⟨o, ho, hc, n, hd⟩ := p
  obtain ⟨o', ho', hc', hd'⟩ := q
  rw [ho] at ho'
  cases ho'
  rw [hd] at hd'
  cases hd'
theorem turn_enumT {P : Program} {w : World} {K : PySem.W.Frag} {elts : List Expr} {kk : Nat} {tpos : Pos} (a e it : Addr) :
    Turn P w K (.Tuple elts kk tpos) (IteT K a) [e, it] e (fun i h => (∃ old, IsEnum h e it ((i : Nat) : Int) old) ∧ h.IsTupleIter it a i ∧ e ≠ it) where
  mem := by simp
  obj := fun i h st b hb => by
    obtain ⟨⟨old, he⟩, ⟨o, ho, hc, hd⟩, _⟩ := st
    have e' : b = e ∨ b = it := by simpa using hb
    rcases e' with z | z
    · rw [z]; exact ⟨_, he, fun v q => nomatch q⟩
    · rw [z]; exact ⟨o, ho, fun v q => by rw [hd] at q; cases q⟩
  keep := fun i h h' st k => let ⟨⟨old, he⟩, hi, hne⟩ := st; ⟨⟨old, k e (by simp) _ he⟩, hi.at fun o q => k it (by simp) o q, hne⟩
  item := by
    intro X hP hw hK hc i pins s σ H E I hf st hg
    subst hP hw hK
    obtain ⟨⟨old, he⟩, hit, hne⟩ := st
    obtain ⟨xs, x, hq, hx⟩ := hg
    obtain ⟨its, rv, p, hz⟩ := I.tuple hq
    obtain ⟨u, hu, ru⟩ := rv.get hx
    have hu' : its.toArray[i]? = some u := by simpa using hu
    have hel : e < s.heap.objs.size := Heap.lt_size he
    have hil : it < s.heap.objs.size := by obtain ⟨_, q, _⟩ := hit; exact Heap.lt_size q
    have hat : a ≠ it := tup_ne_it p hit
    have hae : a ≠ e := by
      rintro rfl
      obtain ⟨o, ho, hcc, n, hd⟩ := p
      rw [show s.heap.get? a = _ from he] at ho
      cases ho
      cases hd
    have hlt : i < its.toArray.size := by
      rcases Nat.lt_or_ge i its.toArray.size with z | z
      · exact z
      · rw [Array.getElem?_eq_none z] at hu'; cases hu'
    have D := Draws.tuple (prog := X.prog) (w := X.w) (A := X.A.in1) (I.ok.hd hc) it a hat its.toArray
    refine wpAny_pyNext_enum_itemD D he ⟨hit, show s.heap.IsTuple a its.toArray from p⟩ hlt hne (by simp [hne, Ne.symm hae]) fun x1 h' tk hP1 ho hst' hT hsz hk => ?_
    have ex : x1 = u := by
      have z : its.toArray[i]? = some x1 := hP1
      rw [hu'] at z
      exact (Option.some.inj z).symm
    subst ex
    have hit' := hst'.1
    refine ⟨_, rfl, wpAny_letOwnedTupleGo_enum (s := { s with heap := h', toks := tk + 1 }) ho fun h'' he' sb => ?_⟩
    have hT2 : h''.get? s.heap.objs.size = some { cls := .type "tuple", data := .seq #[.int i tk, x1] } := (sb.2 _ (Nat.ne_of_gt hel)).trans hT
    have new : ObjOk X.prog X.w (upd H s.heap.objs.size (.tup [.int (i : Nat), x])) h'' s.heap.objs.size (.tup [.int (i : Nat), x]) :=
      ⟨by show 2 ≤ sizeLine; decide, [.int i tk, x1], .cons ⟨_, rfl⟩ (.cons ru .nil), ⟨_, hT2, rfl, _, rfl⟩⟩
    have I1 : Inv X pins σ (upd H s.heap.objs.size (.tup [.int (i : Nat), x])) { s with heap := h'', toks := tk + 1 } :=
      I.turnedNew (ch := [e, it]) (fun b ob hb q => (sb.2 b (fun z => hb (by simp [z]))).trans (hk b ob (fun z => hb (by simp [z])) (fun z => hb (by simp [z])) q)) hf (Nat.le_refl _) new
    refine ⟨.ref s.heap.objs.size, _, I1, rfl, ⟨_, x, rfl, I.hok.fresh (Nat.le_refl _), rfl, fun ys hy => by rw [I.tuple_inj hy hq]; exact hx⟩, ⟨⟨x1, ?_⟩, hit'.at fun o q => (sb.2 it (Ne.symm hne)).trans q, hne⟩, fun b hb => ?_⟩
    · have e1 : ((i + 1 : Nat) : Int) = (i : Int) + 1 := by omega
      rw [e1]; exact he'
    · have hb' : b < s.heap.objs.size := by
        have e' : b = e ∨ b = it := by simpa using hb
        rcases e' with z | z
        · rw [z]; exact hel
        · rw [z]; exact hil
      rw [upd_ne (Nat.ne_of_lt hb')]
      exact (hf b hb).1
  done := by
    intro X hP hw hK hc i pins s σ H E I hf st hg
    subst hP hw hK
    obtain ⟨⟨old, he⟩, hit, hne⟩ := st
    obtain ⟨xs, hq, hx⟩ := hg
    obtain ⟨its, rv, p, hz⟩ := I.tuple hq
    obtain ⟨f0, f1, f2, f3, f4, f5⟩ := hf it (by simp)
    have hl := rv.length
    have hT : s.TypeIs (.ref e) "enumerate" := ⟨_, he, rfl⟩
    unfold pyNext
    refine wpAny_bind (wpAny_attempt (wpAny_callSpecial?_slot (name := Str.ofString "__next__") hT F.slot_enumerate_next
      (wpAny_call_entry F.slot_enumerate_next hT F.entry_enumerate_next ?_ (F.args_enumerate_next_1 _))))
    show wpAny _ _ (field (.ref e) 2 >>= _) _ _ _
    refine wpAny_bind (wpAny_field he rfl (x := .ref it) rfl ?_)
    refine wpAny_bind (wpAny_nextOf_tuple_end (I.ok.hd hc) hit (show s.heap.IsTuple a its.toArray from p) (by simp; omega) fun h' x he' hx' => ?_)
    obtain ⟨o, ho, hcl⟩ := hx'
    refine wpAny_bind (wpAny_isInstance (T := "StopIteration") (b := true) ⟨o, ho, hcl⟩ isSubtype_stop ?_)
    exact wpAny_pure ⟨rfl, I.turned (t' := s.toks) (fun b o hb q => he' b o hb q) f0 f1 f3 f4 f5⟩
  self := fun A i s Q E st h => let ⟨⟨_, he⟩, _⟩ := st; wpAny_pyIter_enum he h
def iEnumA (K : PySem.W.Frag) (ta : TA) : TI := fun σ H R => ta σ H fun vs H1 => ∃ a xs, vs = [.ref a] ∧ ((SqL K H1 a xs ∧ R (Ite K a) H1) ∨ (SqT K H1 a xs ∧ R (IteT K a) H1))
theorem pi_enumA {X : Cx} {e : Expr} {ta : TA} {p pos tpos : Pos} {elts : List Expr} {kk : Nat} (hg : Gl X "enumerate") (hm : X.mg "enumerate" = none) (ha : PA X [e] ta) (hs : starEach [e] X.env = [(false, eval e X.env)] := by rfl) :
    PI X (.Tuple elts kk tpos) (.Call (.Name "enumerate" p) [e] [] pos) (iEnumA X.K ta) := by
  refine ⟨fun pins s σ H R I h => ?_⟩
  refine Call_ (ld_blt I hg hm boot_enumerate (PyProof.Rows.callWith_type1 (thn (ha.run pos pins s σ H _ I h) fun us s1 ⟨vs, H1, I1, r1, q1⟩ => ?_) hs rfl))
  obtain ⟨a, xs, ex, q1⟩ := q1
  subst ex
  cases r1 with
  | cons r rr =>
    cases rr
    cases r
    have fresh2 : ∀ b ∈ [s1.heap.objs.size + 1, s1.heap.objs.size], FpOk X pins H1 b := fun b hb => by
      have e' : b = s1.heap.objs.size + 1 ∨ b = s1.heap.objs.size := by simpa using hb
      have hle : s1.heap.objs.size ≤ b := by
        rcases e' with z | z
        · rw [z]; exact Nat.le_add_right _ _
        · rw [z]; exact Nat.le_refl _
      exact I1.fpOk hle (I1.hok.fresh hle)
    rcases q1 with ⟨hq, q⟩ | ⟨hq, q⟩
    · obtain ⟨its, rv, p', hz⟩ := I1.list hq
      refine call_enumerate_list p'.isList fun h' he hit hsz hk => wpAny_pyIter_enum he ?_
      have I2 : Inv X pins σ H1 { s1 with heap := h' } := I1.kept (t' := s1.toks) hk
      exact ⟨s1.heap.objs.size + 1, [s1.heap.objs.size + 1, s1.heap.objs.size], _, _, H1, rfl, I2, turn_enum a (s1.heap.objs.size + 1) s1.heap.objs.size, ⟨⟨.none, he⟩, hit, Nat.succ_ne_self _⟩, fresh2, q⟩
    · obtain ⟨its, rv, p', hz⟩ := I1.tuple hq
      refine call_enum1 (begins_tuple a its.toArray) (show s1.heap.IsTuple a its.toArray from p') fun h' he hit hsz hk => wpAny_pyIter_enum he ?_
      have I2 : Inv X pins σ H1 { s1 with heap := h' } := I1.kept (t' := s1.toks) hk
      exact ⟨s1.heap.objs.size + 1, [s1.heap.objs.size + 1, s1.heap.objs.size], _, _, H1, rfl, I2, turn_enumT a (s1.heap.objs.size + 1) s1.heap.objs.size, ⟨⟨.none, he⟩, ⟨_, hit, rfl, rfl⟩, Nat.succ_ne_self _⟩, fresh2, q⟩
section
variable {X : Cx} {tg : Expr}
/-! ### readings of what is walked -/
/-- here and now -/
def ItH (w : World) (K : PySem.W.Frag) (J : It) (ds : List D) (F2 H2 : Hp) (i : Nat) : Prop :=
  (∀ d, ds[i]? = some d → J.go i H2 ∧ ∀ x H3, J.yld i H2 x H3 → ∃ F3, Ext F2 H2 F3 H3 ∧ Rep w K F3 x d) ∧ (i = ds.length → J.stop i H2)
theorem hite {F2 H2 : Hp} {a : Addr} {vs : List V} {ds : List D} (hq : SqL X.K H2 a vs) (r : Reps X.w X.K F2 vs ds) (sm : Same F2 H2) (i : Nat) : ItH X.w X.K (Ite X.K a) (enumD ds) F2 H2 i := by
  refine ⟨fun d hd => ?_, fun hi => ⟨vs, hq, by rw [r.length]; rw [enumD_len] at hi; omega⟩⟩
  rw [enumD_get] at hd
  obtain ⟨d0, hd0, rfl⟩ := Option.map_eq_some_iff.mp hd
  obtain ⟨v, hv, rd⟩ := r.get hd0
  refine ⟨⟨vs, v, hq, hv⟩, fun x H3 y => ?_⟩
  obtain ⟨T, y1, rfl, nT, rfl, y2⟩ := y
  obtain rfl : y1 = v := Option.some.inj ((y2 vs hq).symm.trans hv)
  exact ⟨_, .new sm nT, tup2 (.int _) rd sm nT⟩
theorem hiteT {F2 H2 : Hp} {a : Addr} {vs : List V} {ds : List D} (hq : SqT X.K H2 a vs) (r : Reps X.w X.K F2 vs ds) (sm : Same F2 H2) (i : Nat) : ItH X.w X.K (IteT X.K a) (enumD ds) F2 H2 i := by
  refine ⟨fun d hd => ?_, fun hi => ⟨vs, hq, by rw [r.length]; rw [enumD_len] at hi; omega⟩⟩
  rw [enumD_get] at hd
  obtain ⟨d0, hd0, rfl⟩ := Option.map_eq_some_iff.mp hd
  obtain ⟨v, hv, rd⟩ := r.get hd0
  refine ⟨⟨vs, v, hq, hv⟩, fun x H3 y => ?_⟩
  obtain ⟨T, y1, rfl, nT, rfl, y2⟩ := y
  obtain rfl : y1 = v := Option.some.inj ((y2 vs hq).symm.trans hv)
  exact ⟨_, .new sm nT, tup2 (.int _) rd sm nT⟩
def zipD (a b : List D) : List D := List.zipWith (fun x y => .tuple [x, y]) a b
theorem hitz {F2 H2 : Hp} {a b : Addr} {vs us : List V} {ds es : List D} (hq : SqL X.K H2 a vs) (r : Reps X.w X.K F2 vs ds) (hq2 : SqL X.K H2 b us) (r2 : Reps X.w X.K F2 us es) (sm : Same F2 H2) (i : Nat) : ItH X.w X.K (Itz X.K a b) (zipD ds es) F2 H2 i := by
  unfold zipD
  refine ⟨fun d hd => ?_, fun hi => ⟨vs, us, hq, hq2, by rw [r.length, r2.length]; rw [List.length_zipWith] at hi; omega⟩⟩
  rw [List.getElem?_zipWith_eq_some] at hd
  obtain ⟨d1, d2, h1, h2, rfl⟩ := hd
  obtain ⟨v, hv, rd⟩ := r.get h1
  obtain ⟨u, hu, rd2⟩ := r2.get h2
  refine ⟨⟨vs, us, v, u, hq, hq2, hv, hu⟩, fun x H3 y => ?_⟩
  obtain ⟨T, y1, y2, rfl, nT, rfl, f1, f2⟩ := y
  obtain rfl : y1 = v := Option.some.inj ((f1 vs hq).symm.trans hv)
  obtain rfl : y2 = u := Option.some.inj ((f2 us hq2).symm.trans hu)
  exact ⟨_, .new sm nT, tup2 rd rd2 sm nT⟩
theorem hitzT {F2 H2 : Hp} {a b : Addr} {vs us : List V} {ds es : List D} (hq : SqT X.K H2 a vs) (r : Reps X.w X.K F2 vs ds) (hq2 : SqT X.K H2 b us) (r2 : Reps X.w X.K F2 us es) (sm : Same F2 H2) (i : Nat) : ItH X.w X.K (RZ.ItzT X.K a b) (zipD ds es) F2 H2 i := by
  unfold zipD
  refine ⟨fun d hd => ?_, fun hi => ⟨vs, us, hq, hq2, by rw [r.length, r2.length]; rw [List.length_zipWith] at hi; omega⟩⟩
  rw [List.getElem?_zipWith_eq_some] at hd
  obtain ⟨d1, d2, h1, h2, rfl⟩ := hd
  obtain ⟨v, hv, rd⟩ := r.get h1
  obtain ⟨u, hu, rd2⟩ := r2.get h2
  refine ⟨⟨vs, us, v, u, hq, hq2, hv, hu⟩, fun x H3 y => ?_⟩
  obtain ⟨T, y1, y2, rfl, nT, rfl, f1, f2⟩ := y
  obtain rfl : y1 = v := Option.some.inj ((f1 vs hq).symm.trans hv)
  obtain rfl : y2 = u := Option.some.inj ((f2 us hq2).symm.trans hu)
  exact ⟨_, .new sm nT, tup2 rd rd2 sm nT⟩
theorem hitv {F2 H2 : Hp} {a : Addr} {vs : List V} {ds : List D} (hq : SqL X.K H2 a vs) (r : Reps X.w X.K F2 vs ds) (sm : Same F2 H2) (i : Nat) : ItH X.w X.K (Itv X.K a vs.length) ds.reverse F2 H2 i := by
  refine ⟨fun d hd => ?_, fun hi => by rw [List.length_reverse, ← r.length] at hi; exact Nat.le_of_eq hi.symm⟩
  have hl : i < ds.length := by
    rcases Nat.lt_or_ge i ds.length with z | z
    · exact z
    · rw [List.getElem?_eq_none (by simpa using z)] at hd; cases hd
  rw [List.getElem?_reverse hl] at hd
  obtain ⟨v, hv, rd⟩ := r.get hd
  rw [← r.length] at hv hl
  refine ⟨⟨hl, vs, v, hq, hv⟩, fun x H3 y => ?_⟩
  obtain ⟨rfl, y⟩ := y
  obtain rfl : x = v := Option.some.inj ((y vs hq).symm.trans hv)
  exact ⟨F2, .refl sm, rd⟩
theorem hitvT {F2 H2 : Hp} {a : Addr} {vs : List V} {ds : List D} (hq : SqT X.K H2 a vs) (r : Reps X.w X.K F2 vs ds) (sm : Same F2 H2) (i : Nat) : ItH X.w X.K (RT.ItvT X.K a vs.length) ds.reverse F2 H2 i := by
  refine ⟨fun d hd => ?_, fun hi => by rw [List.length_reverse, ← r.length] at hi; exact Nat.le_of_eq hi.symm⟩
  have hl : i < ds.length := by
    rcases Nat.lt_or_ge i ds.length with z | z
    · exact z
    · rw [List.getElem?_eq_none (by simpa using z)] at hd; cases hd
  rw [List.getElem?_reverse hl] at hd
  obtain ⟨v, hv, rd⟩ := r.get hd
  rw [← r.length] at hv hl
  refine ⟨⟨hl, vs, v, hq, hv⟩, fun x H3 y => ?_⟩
  obtain ⟨rfl, y⟩ := y
  obtain rfl : x = v := Option.some.inj ((y vs hq).symm.trans hv)
  exact ⟨F2, .refl sm, rd⟩
/-- lo, lo - 1, .. -/
def downD (lo : Int) (n : Nat) : List D := (List.range n).map fun i => .int (lo - (i : Nat))
theorem hitc {F2 H2 : Hp} (lo : Int) (n : Nat) (sm : Same F2 H2) (i : Nat) : ItH X.w X.K (Itc lo (-1) n) (downD lo n) F2 H2 i := by
  unfold downD
  refine ⟨fun d hd => ?_, fun hi => ?_⟩
  · rw [List.getElem?_map] at hd
    have hi : i < n := by
      by_cases h : i < n
      · exact h
      · rw [List.getElem?_eq_none (by simp; omega)] at hd; cases hd
    rw [List.getElem?_range hi] at hd
    cases hd
    refine ⟨hi, fun x H3 y => ?_⟩
    obtain ⟨rfl, rfl⟩ := y
    refine ⟨F2, .refl sm, ?_⟩
    rw [show lo + (i : Nat) * (-1 : Int) = lo - (i : Nat) by omega]
    exact .int _
  · rw [List.length_map, List.length_range] at hi
    exact Nat.le_of_eq hi.symm
def chars (x : Str) : List D := x.cps.toList.map fun c => .str ⟨#[c]⟩
theorem hits {F2 H2 : Hp} (x : Str) (sm : Same F2 H2) (i : Nat) : ItH X.w X.K (Its x) (chars x) F2 H2 i := by
  unfold chars
  refine ⟨fun d hd => ?_, fun hi => ?_⟩
  · rw [List.getElem?_map, Array.getElem?_toList] at hd
    obtain ⟨c, hc, rfl⟩ := Option.map_eq_some_iff.mp hd
    have hi : i < x.cps.size := by
      rcases Nat.lt_or_ge i x.cps.size with z | z
      · exact z
      · rw [Array.getElem?_eq_none z] at hc; cases hc
    refine ⟨hi, fun v H3 y => ?_⟩
    obtain ⟨rfl, c', hc', rfl⟩ := y
    obtain rfl : c' = c := Option.some.inj (hc'.symm.trans hc)
    exact ⟨F2, .refl sm, .str _⟩
  · rw [List.length_map, Array.length_toList] at hi
    exact Nat.le_of_eq hi.symm
/-! ### the rules -/
def enF : List D → Option (List D)
  | [.list l] => some (enumD l)
  | [.tuple l] => some (enumD l)
  | _ => none
def zpF : List D → Option (List D)
  | [.list a, .list b] => some (zipD a b)
  | [.tuple a, .tuple b] => some (zipD a b)
  | _ => none
def rvF : D → Option (List D)
  | .list l => some l.reverse
  | .tuple l => some l.reverse
  | _ => none
noncomputable def rg3 : List D → Option (List D)
  | [.int a, .int b, .int c] => if c = -1 ∧ smallI a ∧ smallI b then some (downD a (a - b).toNat) else none
  | _ => none
/-- reversed(range(n)) -/
noncomputable def rvRg1 : D → Option (List D)
  | .int n => if smallI n then some (downD (n - 1) n.toNat) else none
  | _ => none
def strSeq : D → Option (List D)
  | .str x => some (chars x)
  | _ => none
variable {e e2 : Expr} {p pos tpos : Pos} {elts : List Expr} {kk : Nat}
theorem dip_enum {f : Env → Option (List D)} (hg : Gl X "enumerate") (hm : X.mg "enumerate" = none) (ha : DA X [e] f) (hs : starEach [e] X.env = [(false, eval e X.env)] := by rfl) :
    DIP X (.Tuple elts kk tpos) (.Call (.Name "enumerate" p) [e] [] pos) (fun ρ => (f ρ).bind enF) := by
  obtain ⟨t, q, h⟩ := ha.ex
  refine ⟨_, pi_enumA hg hm q hs, fun F σ H ρ ds R sl hf k => ?_⟩
  obtain ⟨x, hx, hf1⟩ := Option.bind_eq_some_iff.mp hf
  refine h F σ H ρ x _ sl hx fun v F1 H1 e1 r1 => ?_
  unfold enF at hf1
  split at hf1
  · cases hf1
    obtain ⟨u, rfl, r2⟩ := r1.one
    obtain ⟨a, vs, rfl, h1, r⟩ := r2.lst_inv e1.s
    exact ⟨a, vs, rfl, .inl ⟨h1, k _ F1 H1 e1 fun i F2 H2 e2 => hite (e2.h.seq h1) (r.mono e2.f) e2.s i⟩⟩
  · cases hf1
    obtain ⟨u, rfl, r2⟩ := r1.one
    obtain ⟨a, vs, rfl, h1, r⟩ := r2.tup_inv e1.s
    exact ⟨a, vs, rfl, .inr ⟨h1, k _ F1 H1 e1 fun i F2 H2 e2 => hiteT (SqT.mono e2.h h1) (r.mono e2.f) e2.s i⟩⟩
  · cases hf1
theorem reps1 {F : Hp} {vs : List V} {d : D} (r : Reps X.w X.K F vs [d]) : ∃ v, vs = [v] ∧ Rep X.w X.K F v d := by
  cases r with
  | cons r rr => cases rr; exact ⟨_, rfl, r⟩
theorem reps2 {F : Hp} {vs : List V} {d d' : D} (r : Reps X.w X.K F vs [d, d']) : ∃ v u, vs = [v, u] ∧ Rep X.w X.K F v d ∧ Rep X.w X.K F u d' := by
  cases r with
  | cons r rr =>
    obtain ⟨u, rfl, r2⟩ := reps1 rr
    exact ⟨_, u, rfl, r, r2⟩
theorem di_enum {f : Env → Option (List D)} (hg : Gl X "enumerate") (hm : X.mg "enumerate" = none) (ha : DAE X [e] f) (hs : starEach [e] X.env = [(false, eval e X.env)] := by rfl) :
    DI X (.Tuple elts kk tpos) (.Call (.Name "enumerate" p) [e] [] pos) (fun ρ => (f ρ).bind enF) := by
  obtain ⟨t, q, h⟩ := ha.ex
  refine ⟨_, pi_enumA hg hm q hs, fun F σ H ρ ds R sl hf k => ?_⟩
  obtain ⟨x, hx, hf1⟩ := Option.bind_eq_some_iff.mp hf
  refine h F σ H ρ x _ sl hx fun v F1 H1 e1 r1 => ?_
  unfold enF at hf1
  split at hf1
  · cases hf1
    obtain ⟨u, rfl, r2⟩ := reps1 r1
    obtain ⟨a, vs, rfl, h1, r⟩ := r2.lst_inv
    exact ⟨a, vs, rfl, .inl ⟨e1.s.seq h1, k _ F1 H1 e1 fun i F2 H2 a1 a2 => hite ((a1.trans a2).seq h1) (r.mono a1) a2 i⟩⟩
  · cases hf1
    obtain ⟨u, rfl, r2⟩ := reps1 r1
    obtain ⟨a, vs, rfl, h1, r⟩ := r2.tup_inv
    exact ⟨a, vs, rfl, .inr ⟨SqT.mono e1.s h1, k _ F1 H1 e1 fun i F2 H2 a1 a2 => hiteT (SqT.mono (a1.trans a2) h1) (r.mono a1) a2 i⟩⟩
  · cases hf1
theorem dip_zip {f : Env → Option (List D)} (hg : Gl X "zip") (hm : X.mg "zip" = none) (ha : DA X [e, e2] f)
    (hs : starEach [e, e2] X.env = (false, eval e X.env) :: starEach [e2] X.env := by rfl) (hpl : (backTo pos (starEach [e2] X.env)).any (·.1) = false := by rfl) :
    DIP X (.Tuple elts kk tpos) (.Call (.Name "zip" p) [e, e2] [] pos) (fun ρ => (f ρ).bind zpF) := by
  obtain ⟨t, q, h⟩ := ha.ex
  refine ⟨_, RZ.pi_zipA hg hm q hs hpl, fun F σ H ρ ds R sl hf k => ?_⟩
  obtain ⟨x, hx, hf1⟩ := Option.bind_eq_some_iff.mp hf
  refine h F σ H ρ x _ sl hx fun v F1 H1 e1 r1 => ?_
  unfold zpF at hf1
  split at hf1
  · cases hf1
    obtain ⟨u, u', rfl, r2, r3⟩ := r1.two
    obtain ⟨a, vs, rfl, h1, r⟩ := r2.lst_inv e1.s
    obtain ⟨b, us, rfl, h2, r'⟩ := r3.lst_inv e1.s
    exact ⟨a, b, vs, us, rfl, .inl ⟨h1, h2, k _ F1 H1 e1 fun i F2 H2 e2 => hitz (e2.h.seq h1) (r.mono e2.f) (e2.h.seq h2) (r'.mono e2.f) e2.s i⟩⟩
  · cases hf1
    obtain ⟨u, u', rfl, r2, r3⟩ := r1.two
    obtain ⟨a, vs, rfl, h1, r⟩ := r2.tup_inv e1.s
    obtain ⟨b, us, rfl, h2, r'⟩ := r3.tup_inv e1.s
    exact ⟨a, b, vs, us, rfl, .inr ⟨h1, h2, k _ F1 H1 e1 fun i F2 H2 e2 => hitzT (SqT.mono e2.h h1) (r.mono e2.f) (SqT.mono e2.h h2) (r'.mono e2.f) e2.s i⟩⟩
  · cases hf1
theorem di_zip {f : Env → Option (List D)} (hg : Gl X "zip") (hm : X.mg "zip" = none) (ha : DAE X [e, e2] f)
    (hs : starEach [e, e2] X.env = (false, eval e X.env) :: starEach [e2] X.env := by rfl) (hpl : (backTo pos (starEach [e2] X.env)).any (·.1) = false := by rfl) :
    DI X (.Tuple elts kk tpos) (.Call (.Name "zip" p) [e, e2] [] pos) (fun ρ => (f ρ).bind zpF) := by
  obtain ⟨t, q, h⟩ := ha.ex
  refine ⟨_, RZ.pi_zipA hg hm q hs hpl, fun F σ H ρ ds R sl hf k => ?_⟩
  obtain ⟨x, hx, hf1⟩ := Option.bind_eq_some_iff.mp hf
  refine h F σ H ρ x _ sl hx fun v F1 H1 e1 r1 => ?_
  unfold zpF at hf1
  split at hf1
  · cases hf1
    obtain ⟨u, u', rfl, r2, r3⟩ := reps2 r1
    obtain ⟨a, vs, rfl, h1, r⟩ := r2.lst_inv
    obtain ⟨b, us, rfl, h2, r'⟩ := r3.lst_inv
    exact ⟨a, b, vs, us, rfl, .inl ⟨e1.s.seq h1, e1.s.seq h2, k _ F1 H1 e1 fun i F2 H2 a1 a2 => hitz ((a1.trans a2).seq h1) (r.mono a1) ((a1.trans a2).seq h2) (r'.mono a1) a2 i⟩⟩
  · cases hf1
    obtain ⟨u, u', rfl, r2, r3⟩ := reps2 r1
    obtain ⟨a, vs, rfl, h1, r⟩ := r2.tup_inv
    obtain ⟨b, us, rfl, h2, r'⟩ := r3.tup_inv
    exact ⟨a, b, vs, us, rfl, .inr ⟨SqT.mono e1.s h1, SqT.mono e1.s h2, k _ F1 H1 e1 fun i F2 H2 a1 a2 => hitzT (SqT.mono (a1.trans a2) h1) (r.mono a1) (SqT.mono (a1.trans a2) h2) (r'.mono a1) a2 i⟩⟩
  · cases hf1
theorem di_rev {f : Env → Option D} (hg : Gl X "reversed") (hm : X.mg "reversed" = none) (he : DE X e f) (hs : starEach [e] X.env = (false, eval e X.env) :: starEach [] X.env := by rfl) :
    DI X tg (.Call (.Name "reversed" p) [e] [] pos) (fun ρ => (f ρ).bind rvF) := by
  obtain ⟨t, q, h⟩ := he.ex
  refine ⟨_, RT.pi_revA hg hm q hs, fun F σ H ρ ds R sl hf k => ?_⟩
  obtain ⟨x, hx, hf1⟩ := Option.bind_eq_some_iff.mp hf
  refine h F σ H ρ x _ sl hx fun v F1 H1 e1 r1 => ?_
  unfold rvF at hf1
  split at hf1
  · cases hf1
    obtain ⟨a, vs, rfl, h1, r⟩ := r1.lst_inv
    exact ⟨a, vs, rfl, .inl ⟨e1.s.seq h1, k _ F1 H1 e1 fun i F2 H2 a1 a2 => hitv ((a1.trans a2).seq h1) (r.mono a1) a2 i⟩⟩
  · cases hf1
    obtain ⟨a, vs, rfl, h1, r⟩ := r1.tup_inv
    exact ⟨a, vs, rfl, .inr ⟨SqT.mono e1.s h1, k _ F1 H1 e1 fun i F2 H2 a1 a2 => hitvT (SqT.mono (a1.trans a2) h1) (r.mono a1) a2 i⟩⟩
  · cases hf1
theorem di_range3 {a b c : Expr} {f : Env → Option (List D)} (hg : Gl X "range") (hm : X.mg "range" = none) (ha : DA X [a, b, c] f)
    (hs : starEach [a, b, c] X.env = (false, eval a X.env) :: starEach [b, c] X.env := by rfl) (hpl : (backTo pos (starEach [b, c] X.env)).any (·.1) = false := by rfl) :
    DI X tg (.Call (.Name "range" p) [a, b, c] [] pos) (fun ρ => (f ρ).bind rg3) := by
  obtain ⟨t, q, h⟩ := ha.ex
  refine ⟨_, pi_range3 hg hm q hs hpl, fun F σ H ρ ds R sl hf k => ?_⟩
  obtain ⟨x, hx, hf1⟩ := Option.bind_eq_some_iff.mp hf
  refine h F σ H ρ x _ sl hx fun v F1 H1 e1 r1 => ?_
  unfold rg3 at hf1
  split at hf1
  · split at hf1
    · rename_i i j c hz
      cases hf1
      cases r1 with
      | cons r rr =>
        obtain ⟨u, u', rfl, r2, r3⟩ := rr.two
        refine ⟨i, j, -1, (i - j).toNat, by rw [r.int_inv, r2.int_inv, r3.int_inv, hz.1], RgC.neg hz.2.1.1 hz.2.1.2 hz.2.2.1 hz.2.2.2, k _ F1 H1 e1 fun n F2 H2 a1 a2 => hitc i _ a2 n⟩
    · cases hf1
  · cases hf1
theorem di_revRg1 {a : Expr} {p2 pos2 : Pos} {f : Env → Option D} (hg : Gl X "reversed") (hm : X.mg "reversed" = none) (hg2 : Gl X "range") (hm2 : X.mg "range" = none) (ha : DE X a f)
    (na : starEach [a] X.env = (false, eval a X.env) :: starEach [] X.env := by rfl)
    (hs : starEach [.Call (.Name "range" p2) [a] [] pos2] X.env = (false, eval (.Call (.Name "range" p2) [a] [] pos2) X.env) :: starEach [] X.env := by rfl) :
    DI X tg (.Call (.Name "reversed" p) [.Call (.Name "range" p2) [a] [] pos2] [] pos) (fun ρ => (f ρ).bind rvRg1) := by
  obtain ⟨t, q, h⟩ := ha.ex
  refine ⟨_, pi_revR hg hm (prg_1 hg2 hm2 q na) hs, fun F σ H ρ ds R sl hf k => ?_⟩
  obtain ⟨x, hx, hf1⟩ := Option.bind_eq_some_iff.mp hf
  refine h F σ H ρ x _ sl hx fun v F1 H1 e1 r1 => ?_
  unfold rvRg1 at hf1
  split at hf1
  · split at hf1
    · rename_i n hz
      cases hf1
      refine ⟨n, r1.int_inv, by decide, by decide, hz.1, hz.2, ?_⟩
      have e0 : (n - 0).toNat = n.toNat := by omega
      rw [e0]
      by_cases hn : 0 ≤ n
      · have e2 : (0 : Int) + ((n.toNat : Nat) : Int) - 1 = n - 1 := by omega
        rw [e2]
        exact k _ F1 H1 e1 fun i F2 H2 a1 a2 => hitc (n - 1) _ a2 i
      · have e2 : n.toNat = 0 := by omega
        rw [e2]
        refine k _ F1 H1 e1 ?_
        rw [e2]
        exact fun i F2 H2 a1 a2 => hitc (X := X) (0 + ((0 : Nat) : Int) - 1) 0 a2 i
    · cases hf1
  · cases hf1
theorem di_str {f : Env → Option D} (he : DE X e f) : DI X tg e (fun ρ => (f ρ).bind strSeq) := by
  obtain ⟨t, q, h⟩ := he.ex
  refine ⟨_, pi_str q, fun F σ H ρ ds R sl hf k => ?_⟩
  obtain ⟨x, hx, hf1⟩ := Option.bind_eq_some_iff.mp hf
  refine h F σ H ρ x _ sl hx fun v F1 H1 e1 r1 => ?_
  unfold strSeq at hf1
  split at hf1
  · cases hf1
    exact ⟨_, r1.str_inv, k _ F1 H1 e1 fun i F2 H2 a1 a2 => hits _ a2 i⟩
  · cases hf1
/-! named -/
theorem i_enum {fs : FA} (m : X.mg "enumerate" = none) (ha : DAE X [e] fs) (hg : Gl X "enumerate" := by rfl) (hs : starEach [e] X.env = [(false, eval e X.env)] := by rfl) : DI X (.Tuple elts kk tpos) (.Call (.Name "enumerate" p) [e] [] pos) (cl enF fs) := di_enum hg m ha hs
theorem ip_enum {fs : FA} (m : X.mg "enumerate" = none) (ha : DA X [e] fs) (hg : Gl X "enumerate" := by rfl) (hs : starEach [e] X.env = [(false, eval e X.env)] := by rfl) : DIP X (.Tuple elts kk tpos) (.Call (.Name "enumerate" p) [e] [] pos) (cl enF fs) := dip_enum hg m ha hs
theorem i_zip {fs : FA} (m : X.mg "zip" = none) (ha : DAE X [e, e2] fs) (hg : Gl X "zip" := by rfl) (hs : starEach [e, e2] X.env = (false, eval e X.env) :: starEach [e2] X.env := by rfl) (hpl : (backTo pos (starEach [e2] X.env)).any (·.1) = false := by rfl) : DI X (.Tuple elts kk tpos) (.Call (.Name "zip" p) [e, e2] [] pos) (cl zpF fs) := di_zip hg m ha hs hpl
theorem ip_zip {fs : FA} (m : X.mg "zip" = none) (ha : DA X [e, e2] fs) (hg : Gl X "zip" := by rfl) (hs : starEach [e, e2] X.env = (false, eval e X.env) :: starEach [e2] X.env := by rfl) (hpl : (backTo pos (starEach [e2] X.env)).any (·.1) = false := by rfl) : DIP X (.Tuple elts kk tpos) (.Call (.Name "zip" p) [e, e2] [] pos) (cl zpF fs) := dip_zip hg m ha hs hpl
theorem i_rev {f : FE} (m : X.mg "reversed" = none) (he : DE X e f) (hg : Gl X "reversed" := by rfl) (hs : starEach [e] X.env = (false, eval e X.env) :: starEach [] X.env := by rfl) : DI X tg (.Call (.Name "reversed" p) [e] [] pos) (u1 rvF f) := di_rev hg m he hs
theorem i_rg3 {a b c : Expr} {fs : FA} (m : X.mg "range" = none) (ha : DA X [a, b, c] fs) (hg : Gl X "range" := by rfl) (hs : starEach [a, b, c] X.env = (false, eval a X.env) :: starEach [b, c] X.env := by rfl) (hpl : (backTo pos (starEach [b, c] X.env)).any (·.1) = false := by rfl) : DI X tg (.Call (.Name "range" p) [a, b, c] [] pos) (cl rg3 fs) := di_range3 hg m ha hs hpl
theorem i_revRg1 {a : Expr} {p2 pos2 : Pos} {f : FE} (m : X.mg "reversed" = none) (m2 : X.mg "range" = none) (ha : DE X a f) (hg : Gl X "reversed" := by rfl) (hg2 : Gl X "range" := by rfl)
    (na : starEach [a] X.env = (false, eval a X.env) :: starEach [] X.env := by rfl)
    (hs : starEach [.Call (.Name "range" p2) [a] [] pos2] X.env = (false, eval (.Call (.Name "range" p2) [a] [] pos2) X.env) :: starEach [] X.env := by rfl) :
    DI X tg (.Call (.Name "reversed" p) [.Call (.Name "range" p2) [a] [] pos2] [] pos) (u1 rvRg1 f) := di_revRg1 hg m hg2 m2 ha na hs
theorem i_str {f : FE} (he : DE X e f) : DI X tg e (u1 strSeq f) := di_str he
end
end PD

/-! PD10: defs by their names, their calls; the law at its script. -/
namespace PD
open PySem PySem.Spec PyProof.Rows L2
abbrev FS := Env → Option Out
def noIf : FB := fun _ => some true
section
variable {X : Cx} {pos : Pos}
theorem n_no : DTs X [] noIf := dts_nil
theorem n_if {c : Expr} {f : FB} (h : DT X c f) : DTs X [c] f := dts_one h
theorem g_t {es : List Expr} {k : Nat} (n : Nat) {is : List Nat} {gs : List D → Option Puts} (hc : X.calm = true) (h : DGs X es is gs)
    (hn : (assignEach es X.env).length = n := by rfl) (hst : (assignEach es X.env).findIdx? (·.1) = none := by rfl) : DG X (.Tuple es k pos) is (gTupD n gs) := dg_tup hc h hn hst
theorem h_nil : DGs X [] [] gsNil := dgs_nil
theorem h_c {e : Expr} {es : List Expr} {is js : List Nat} {g : D → Option Puts} {gs : List D → Option Puts} (h1 : DG X e is g) (h2 : DGs X es js gs)
    (hs : (assignEach (e :: es) X.env).map (·.2) = assign e X.env :: (assignEach es X.env).map (·.2) := by rfl) : DGs X (e :: es) (is ++ js) (gsCons g gs) := dgs_cons h1 h2 hs
end
/-! ### a list or a tuple is walked -/
def seqT : D → Option (List D)
  | .list l => some l
  | .tuple l => some l
  | _ => none
def iSeqT (K : PySem.W.Frag) (te : TE) : TI := fun σ H R => te σ H fun v H1 => ∃ a, v = .ref a ∧ (((∃ xs, SqL K H1 a xs) ∧ R (Itl K a) H1) ∨ ((∃ xs, SqT K H1 a xs) ∧ R (Itt K a) H1))
theorem pi_seqT {X : Cx} {tg e : Expr} {te : TE} (he : PE X e te) : PI X tg e (iSeqT X.K te) := by
  refine ⟨fun pins s σ H R I h => ?_⟩
  refine thn (he.run pins s σ H _ I h) fun v s1 ⟨y, H1, I1, r1, a, ea, q⟩ => ?_
  subst ea
  cases r1
  have fr : ∀ b ∈ [s1.heap.objs.size], FpOk X pins H1 b := fun b hb => by
    have e : b = s1.heap.objs.size := by simpa using hb
    subst e
    exact I1.fpOk (Nat.le_refl _) (I1.hok.fresh (Nat.le_refl _))
  rcases q with ⟨⟨xs, hq⟩, q⟩ | ⟨⟨xs, hq⟩, q⟩
  · obtain ⟨its, rv, p, hz⟩ := I1.list hq
    exact wpAny_pyIter_list p.isList ⟨s1.heap.objs.size, [s1.heap.objs.size], _, _, H1, rfl, I1.kept (t' := s1.toks) fun b o e => Heap.get?_push_of_some _ e, turn_list a _, ⟨_, Heap.get?_push_size _ rfl, rfl, rfl⟩, fr, q⟩
  · obtain ⟨its, rv, p, hz⟩ := I1.tuple hq
    exact wpAny_pyIter_tuple (show s1.heap.IsTuple a its.toArray from p) ⟨s1.heap.objs.size, [s1.heap.objs.size], _, _, H1, rfl, I1.kept (t' := s1.toks) fun b o e => Heap.get?_push_of_some _ e, turn_tuple a _, ⟨_, Heap.get?_push_size _ rfl, rfl, rfl⟩, fr, q⟩
theorem i_seq {X : Cx} {tg e : Expr} {f : FE} (h : DE X e f) : DI X tg e (u1 seqT f) := by
  obtain ⟨t, p, q⟩ := h.ex
  refine ⟨_, pi_seqT p, fun F σ H ρ ds R sl hf k => ?_⟩
  obtain ⟨x, hx, hf1⟩ := Option.bind_eq_some_iff.mp hf
  refine q F σ H ρ x _ sl hx fun v F1 H1 e1 r1 => ?_
  unfold seqT at hf1
  split at hf1
  · cases hf1
    obtain ⟨a, vs, rfl, h1, r⟩ := r1.lst_inv
    exact ⟨a, rfl, .inl ⟨⟨vs, e1.s.seq h1⟩, k _ F1 H1 e1 (itl_ok h1 r)⟩⟩
  · cases hf1
    obtain ⟨a, vs, rfl, h1, r⟩ := r1.tup_inv
    exact ⟨a, rfl, .inr ⟨⟨vs, SqT.mono e1.s h1⟩, k _ F1 H1 e1 (itt_ok h1 r)⟩⟩
  · cases hf1
theorem x_glI {X : Cx} {x : Str} {i : Int} {pos : Pos} (hm : ∃ t, X.mg x = some (.int i t)) (hg : Gl X x := by rfl) (hd : (x == ("__debug__" : Str)) = false := by decide) : DE X (.Name x pos) (cst (.int i)) := by
  obtain ⟨t, hm⟩ := hm
  exact x_gl (v := .int i) hm ⟨t, rfl⟩ (fun _ => .int i) hg hd
theorem x_glS {X : Cx} {x : Str} {i : Str} {pos : Pos} (hm : ∃ t, X.mg x = some (.str i t)) (hg : Gl X x := by rfl) (hd : (x == ("__debug__" : Str)) = false := by decide) : DE X (.Name x pos) (cst (.str i)) := by
  obtain ⟨t, hm⟩ := hm
  exact x_gl (v := .str i) hm ⟨t, rfl⟩ (fun _ => .str i) hg hd
/-- a def stands under its name -/
structure Has (K : PySem.W.Frag) (mg : Str → Option Value) (x : Str) (st : Stmt) (ps : List Str) : Prop where
  ex : ∃ a fd, Fun K x x st a fd ∧ mg x = some (.ref a) ∧ Binds K fd ps []
/-- .. and does what g says -/
structure OkF (P : Program) (w : World) (K : PySem.W.Frag) (mg : Str → Option Value) (base : Heap) (k : Nat) (x : Str) (ps : List Str) (g : List D → Option D) : Prop where
  ex : ∃ a fd, FnOk P w K mg base CX0 k a fd ps (spD w K g) ∧ mg x = some (.ref a) ∧ PySem.W.keepIn K (.ref a) = true ∧ Binds K fd ps [] ∧ ∃ oc od osl, K.lookup a = some ⟨oc, od, .func fd, osl⟩
theorem fun_lk {K : PySem.W.Frag} {x q : Str} {st : Stmt} {a : Addr} {fd : FuncData} (F : Fun K x q st a fd) : ∃ oc od osl, K.lookup a = some ⟨oc, od, .func fd, osl⟩ := by
  obtain ⟨oc, od, kV, doc, pm, an, cdv, ct, osl, rfl, l, _⟩ := F.ex
  exact ⟨oc, od, osl, l⟩
section
variable {P : Program} {w : World} {K : PySem.W.Frag} {mg : Str → Option Value} {base : Heap} {x : Str} {st : Stmt} {N ps : List Str} {k : Nat}
theorem OkF.mk' {g : Env → Option Out} (n m : Nat) (h : Has K mg x st ps) (S : FnScope N ps (defScope st)) (hn : N.length = n) (hm : ps.length = m)
    (hbody : ∀ (f : Addr) (cdv : Value) (A : Around) (outer : List PySem.Env) (s : Shared) (H : Hp) (E : XK), Room k (A.deeper (envOfC x (defScope st) s.heap.objs.size f cdv)) →
      DSs (cxOf CX0 P w K mg base N x (defScope st) f cdv A outer s H E).nox (defBody st) g) : OkF P w K mg base (k + 1) x ps (fnD n m g) := by
  subst hn hm
  obtain ⟨a, fd, F, hm, hb⟩ := h.ex
  exact ⟨a, fd, okD_def F S (fun cdv A outer s H E hr => hbody a cdv A outer s H E hr), hm, F.kp, hb, fun_lk F⟩
theorem OkF.vac (h : Has K mg x st ps) : OkF P w K mg base k x ps (fun _ => none) := by
  obtain ⟨a, fd, F, hm, hb⟩ := h.ex
  refine ⟨a, fd, ⟨fun vs H Q E z => ?_, fun A outer s H args us vs Q E hr he hbd hv z => ?_⟩, hm, F.kp, hb, fun_lk F⟩
  · obtain ⟨_, _, _, _, _, e, _⟩ := z; cases e
  · obtain ⟨_, _, _, _, _, e, _⟩ := z; cases e
theorem OkF.mono {j : Nat} {g : List D → Option D} (h : OkF P w K mg base j x ps g) (hjk : j ≤ k) : OkF P w K mg base k x ps g := by
  obtain ⟨a, fd, F, q⟩ := h.ex
  exact ⟨a, fd, F.mono hjk, q⟩
/-- a promise that tells less -/
theorem OkF.imp {g g' : List D → Option D} (h : OkF P w K mg base k x ps g) (e : ∀ ds d, g' ds = some d → g ds = some d) : OkF P w K mg base k x ps g' := by
  obtain ⟨a, fd, F, q⟩ := h.ex
  exact ⟨a, fd, F.imp fun vs H Q E ⟨F1, ds, d, sm, r, hf, z⟩ => ⟨F1, ds, d, sm, r, e _ _ hf, z⟩, q⟩
theorem Has.of {h : Heap} {a : Addr} {oc : Value} {od an : Option Addr} {osl : Array (Option Value)} {kV doc pm cdv ct : Value} (X : K.In h) (G : h.Ns mainGlobals mg) (n : PySem.W.nsIn K mainGlobals x = some (some (.ref a)))
    (l : K.lookup a = some ⟨oc, od, .func (PySem.W.fnOf x x (defArgs st) (defBody st) (defScope st) .none kV doc pm an cdv ct), osl⟩) (c : PySem.W.codeIn K cdv x = true) (kp : PySem.W.keepIn K (.ref a) = true)
    (hb : ∀ us : List Value, us.length = ps.length → bindArgs (PySem.W.fnOf x x (defArgs st) (defBody st) (defScope st) .none kV doc pm an cdv ct) ⟨us, []⟩ = pure (ps.zip us)) : Has K mg x st ps :=
  ⟨a, _, fun_mk l c kp, PySem.W.mg_of X G n, .all hb⟩
end
section
variable {X : Cx} {e : Expr} {es : List Expr} {pos p : Pos} {fs : FA}
theorem x_callF {k : Nat} {ps : List Str} {x : Str} {g : List D → Option D} (F : OkF X.prog X.w X.K X.mg X.base k x ps g) (hr : Room k X.A) (ha : DAE X (e :: es) fs)
    (hg : Gl X x := by rfl) (hdb : (x == ("__debug__" : Str)) = false := by decide) (he : starEach (e :: es) X.env = (false, eval e X.env) :: starEach es X.env := by rfl) (hpl : (backTo pos (starEach es X.env)).any (·.1) = false := by rfl) :
    DE X (.Call (.Name x p) (e :: es) [] pos) (cl g fs) := by
  obtain ⟨a, fd, F, hm, hk, hb, _⟩ := F.ex
  exact x_call F hr hm hk hb ha hg hdb he hpl
end
theorem hu64 {k : Nat} {A : Around} (hr : Room k A) : A.units + 64 < cLine := by
  have := hr.un
  omega
/-- the law: true at each script -/
theorem walkD {l : PySem.W.OpenLaw} {q : Program} {loose : List Str} {XP : (Str → Option Value) → Heap → Prop} {YP : World → Heap → Prop} {d : DefRec} {K : Params → PySem.W.Frag} {k : Nat} {g : List D → Option D} {st : Stmt} (hn : l.most = some 63) (hdf : d.params.defaults = [])
    (hk : Room k PySem.callerA) (hnm : d.name = "law")
    (hY : ∀ (w : World) (h : Heap), YP w h → (K w.params).In h)
    (F : ∀ (w : World) (mg : Str → Option Value) (h : Heap), (K w.params).In h → h.Ns mainGlobals mg →
      Has (K w.params) mg "law" st ["script"] ∧ ∀ base : Heap, (K w.params).In base → base.Ns mainGlobals mg → OkF l.prog w (K w.params) mg base k "law" ["script"] g)
    (hb : ∀ (fd : FuncData) (kk : PySem.W.Frag) (a : Addr), Fun kk "law" "law" st a fd → ∀ (s : Shared) (u : Value), BindsTo s fd ⟨[u], []⟩ [("script", u)])
    (hg : ∀ ns : List Int, ns.length ≤ 63 → g [.list (ns.map .int)] = some (.bool true)) :
    PySem.W.WalkO q loose XP YP l.row.toRowW d [] (fun f vs => PySem.call f vs) := by
  refine L2.walk_of (n := 63) (k := k) (x := "script") (CX := fun _ => CX0) (sp := fun w => spD w (K w.params) g) hn (by decide) hdf hk hY (fun w mg fa h hK hN hmg => ?_) (fun w H a ns hl _ hS => ?_) fun _ _ _ _ _ z => z
  · obtain ⟨hs, hok⟩ := F w mg h hK hN
    obtain ⟨a, fd, hF, hm, _⟩ := hs.ex
    rw [hnm] at hmg
    have e : a = fa := by
      have := hm.symm.trans hmg
      cases this
      rfl
    subst e
    refine ⟨fd, hb fd _ _ hF, fun base hB hNb => ?_⟩
    obtain ⟨a', fd', hFn, hm', _, _, oc, od, osl, hl⟩ := (hok base hB hNb).ex
    have e : a' = a := by
      have := hm'.symm.trans hm
      cases this
      rfl
    subst e
    obtain ⟨oc2, od2, osl2, hl2⟩ := fun_lk hF
    have efd : fd' = fd := by
      rw [hl] at hl2
      cases hl2
      rfl
    subst efd
    exact hFn
  · refine ⟨H, [.list (ns.map .int)], .bool true, Same.refl _, .cons (.lst hS (Reps.ints ns)) .nil, hg ns hl, fun v F' H' _ r => r.bool_inv⟩
end PD

/-! PD11: dicts whose keys are whole numbers, bools, None and tuples of such, in one dict: the table, over the heap. -/
namespace PD
open PySem PySem.Spec PyProof.Rows L2
abbrev KVs := List (NestedKey × Value × Value)
structure KIs (h : Heap) (k : NestedKey) (v : Value) : Prop where
  is : NestedIs h k v
  dep : k.depth ≤ 8
  top : topOk k = true
def entK (w : World) (x : NestedKey × Value × Value) : DictEntry := ⟨x.1.hash w, x.2.1, x.2.2⟩
def DictK (w : World) (h : Heap) (d : Addr) (xs : KVs) : Prop :=
  ∃ o es ep, h.get? d = some o ∧ o.ExactDict ∧ o.data = .dict es ep ∧ es.toList = xs.map (entK w) ∧ (∀ x ∈ xs, KIs h x.1 x.2.1) ∧ (xs.map (·.1)).Nodup
/-- the place of a key -/
def ixK (xs : KVs) (k : NestedKey) : Option Nat := xs.findIdx? fun x => decide (x.1 = k)
def atK (xs : KVs) (k : NestedKey) : Option Value := (xs.find? fun x => decide (x.1 = k)).map (·.2.2)
def putK (k : NestedKey) (v : Value) (x : NestedKey × Value × Value) : NestedKey × Value × Value := if x.1 = k then (x.1, x.2.1, v) else x
def storeK (xs : KVs) (k : NestedKey) (a v : Value) : KVs := if (atK xs k).isSome then xs.map (putK k v) else xs ++ [(k, a, v)]
theorem topOk_str {h : Heap} {k : NestedKey} {x : Str} {t : Tok} (hk : KIs h k (.str x t)) : False := by
  have := hk.is
  cases this
  exact absurd hk.top (by simp [topOk])
theorem KIs.keeps {h h' : Heap} {k : NestedKey} {v : Value} (x : KIs h k v) (hs : ∀ b o vs n, h.get? b = some o → o.data = .seq vs n → h'.get? b = some o) : KIs h' k v := ⟨NestedIs.at hs _ _ x.is, x.dep, x.top⟩
theorem KIs.but {h h' : Heap} {k : NestedKey} {v : Value} {d : Addr} {o : Obj} {es ep} (x : KIs h k v) (ho : h.get? d = some o) (hd : o.data = .dict es ep) (hs : Heap.SameBut d h h') : KIs h' k v :=
  x.keeps fun b ob vs n hb hc => by
    refine (hs.2 b fun e => ?_).trans hb
    subst e
    rw [ho] at hb
    cases hb
    rw [hd] at hc
    cases hc
theorem atK_of_get {xs : KVs} (hn : (xs.map (·.1)).Nodup) {i : Nat} {k : NestedKey} {p : Value × Value} (hx : xs[i]? = some (k, p)) : atK xs k = some p.2 := by
  induction xs generalizing i with
  | nil => simp at hx
  | cons x rest ih =>
    rw [List.map_cons, List.nodup_cons] at hn
    cases i with
    | zero =>
      simp only [List.getElem?_cons_zero, Option.some.injEq] at hx
      subst hx; simp [atK]
    | succ j =>
      simp only [List.getElem?_cons_succ] at hx
      have hmem : k ∈ rest.map (·.1) := List.mem_map.mpr ⟨(k, p), List.mem_of_getElem? hx, rfl⟩
      have hne : ¬ x.1 = k := fun e => hn.1 (e ▸ hmem)
      have := ih hn.2 hx
      simpa [atK, List.find?_cons, hne] using this
theorem atK_none_of_get {xs : KVs} {k : NestedKey} (h : ∀ (j : Nat) (p : Value × Value), xs[j]? ≠ some (k, p)) : atK xs k = none := by
  have : (xs.find? fun x => decide (x.1 = k)) = none := by
    rw [List.find?_eq_none]
    intro x hx hk
    obtain ⟨j, hj⟩ := List.mem_iff_getElem?.mp hx
    have hk' : x.1 = k := of_decide_eq_true hk
    exact h j x.2 (by rw [hj, ← hk'])
  simp [atK, this]
theorem idxK_unique {xs : KVs} (hn : (xs.map (·.1)).Nodup) {i j : Nat} {k : NestedKey} {p q : Value × Value} (hi : xs[i]? = some (k, p)) (hj : xs[j]? = some (k, q)) : i = j := by
  have hi' : (xs.map (·.1))[i]? = some k := by rw [List.getElem?_map, hi]; rfl
  have hj' : (xs.map (·.1))[j]? = some k := by rw [List.getElem?_map, hj]; rfl
  exact (List.getElem?_inj (List.getElem?_eq_some_iff.mp hi').1 hn).mp (hi'.trans hj'.symm)
theorem not_mem_keysK {xs : KVs} {k : NestedKey} (h : ∀ (j : Nat) (p : Value × Value), xs[j]? ≠ some (k, p)) : k ∉ xs.map (·.1) := by
  intro hm
  obtain ⟨x, hx, rfl⟩ := List.mem_map.mp hm
  obtain ⟨j, hj⟩ := List.mem_iff_getElem?.mp hx
  exact h j x.2 hj
theorem map_putK_of_not_mem (xs : KVs) (k : NestedKey) (v : Value) (hn : k ∉ xs.map (·.1)) : xs.map (putK k v) = xs := by
  induction xs with
  | nil => rfl
  | cons x xs ih =>
    simp only [List.map_cons, List.mem_cons, not_or] at hn ⊢
    rw [putK, if_neg (fun e => hn.1 e.symm), ih hn.2]
theorem keys_map_putK (xs : KVs) (k : NestedKey) (v : Value) : (xs.map (putK k v)).map (·.1) = xs.map (·.1) := by
  induction xs with
  | nil => rfl
  | cons x xs ih =>
    simp only [List.map_cons, ih]
    by_cases hk : x.1 = k <;> simp [putK, hk]
theorem modify_map_putK (w : World) (k : NestedKey) (v : Value) :
    ∀ {xs : KVs} {j : Nat} {p : Value × Value}, (xs.map (·.1)).Nodup → xs[j]? = some (k, p) → (xs.map (entK w)).modify j (fun e : DictEntry => { e with val := v }) = (xs.map (putK k v)).map (entK w) := by
  intro xs
  induction xs with
  | nil => intro j p _ hj; simp at hj
  | cons x rest ih =>
    intro j p hn hj
    rw [List.map_cons, List.nodup_cons] at hn
    cases j with
    | zero =>
      simp only [List.getElem?_cons_zero, Option.some.injEq] at hj
      subst hj
      rw [List.map_cons, List.map_cons, map_putK_of_not_mem rest k v hn.1, putK, if_pos rfl, List.map_cons]
      rfl
    | succ j =>
      simp only [List.getElem?_cons_succ] at hj
      have hmem : k ∈ rest.map (·.1) := List.mem_map.mpr ⟨(k, p), List.mem_of_getElem? hj, rfl⟩
      have hne : ¬ x.1 = k := fun e => hn.1 (e ▸ hmem)
      rw [List.map_cons, List.map_cons, putK, if_neg hne, List.map_cons]
      show entK w x :: (rest.map (entK w)).modify j _ = entK w x :: (rest.map (putK k v)).map (entK w)
      rw [ih hn.2 hj]
theorem entry_atK {w : World} {es : Array DictEntry} {xs : KVs} (he : es.toList = xs.map (entK w)) (j : Nat) : es[j]? = (xs[j]?).map (entK w) := by
  rw [← Array.getElem?_toList, he, List.getElem?_map]
theorem size_of_entK {w : World} {es : Array DictEntry} {xs : KVs} (he : es.toList = xs.map (entK w)) : es.size = xs.length := by
  rw [← Array.length_toList, he, List.length_map]
theorem DictK.typeIs {w : World} {s : Shared} {d : Addr} {xs : KVs} (hm : DictK w s.heap d xs) : s.TypeIs (.ref d) "dict" :=
  let ⟨o, _, _, ho, hc, _⟩ := hm; ⟨o, ho, hc.1⟩

section
variable {prog : Program} {w : World} {A : Around} {E : Value → Shared → Prop} {s : Shared}
theorem KIs.eqB {x y : NestedKey} {a b : Value} {Q : Bool → Shared → Prop} (hu : A.units + 8 < cLine) (hx : KIs s.heap x a) (hy : KIs s.heap y b) (h : Q (decide (x = y)) s) : wpAny (model prog w) A (PySem.eqBool a b) Q E s :=
  eqAt_key x y A s _ _ hx.is hy.is (by have := hx.dep; omega) _ _ _ _ (by rw [← NestedKey.decide_eq]; exact h)
theorem tableMayTell_K {a : Value} {k : NestedKey} {stored : List Value} {Q : Bool → Shared → Prop} (hkey : KIs s.heap k a)
    (hst : ∀ v ∈ stored, ∃ k', KIs s.heap k' v) (h : Q false s) : wpAny (model prog w) A (tableMayTell a stored) Q E s := by
  unfold tableMayTell
  split
  · exact wpAny_pure h
  · refine wpAny_bind (quiet_key k _ 8 s hkey.is hkey.dep A E _ ?_)
    simp only [Bool.not_true, Bool.false_eq_true, if_false]
    refine wpAny_bind ?_
    refine wpAny_forIn_list _ (fun rest r s' => s' = s ∧ r = (none, ()) ∧ ∀ v ∈ rest, ∃ k', KIs s.heap k' v) _ ?_ ?_ _ _ ⟨rfl, rfl, hst⟩
    · rintro x rest r s' ⟨rfl, rfl, hr⟩
      obtain ⟨k', hb⟩ := hr x List.mem_cons_self
      refine wpAny_bind (quiet_key k' _ 8 s' hb.is hb.dep A E _ ?_)
      simp only [Bool.not_true, Bool.false_eq_true, if_false]
      exact wpAny_pure ⟨rfl, rfl, fun v hv => hr v (List.mem_cons_of_mem _ hv)⟩
    · rintro r s' ⟨rfl, rfl, _⟩
      exact wpAny_pure h
/-- the walk over the entries of one hash, keys not all carried by value -/
theorem dictFind_K {d : Addr} {a : Value} {o : Obj} {es ep} {xs : KVs} {k : NestedKey} {Q : Option Nat → Shared → Prop} (hu : A.units + 8 < cLine) (hkey : KIs s.heap k a)
    (ho : s.heap.get? d = some o) (hd : o.data = .dict es ep) (he : es.toList = xs.map (entK w)) (his : ∀ x ∈ xs, KIs s.heap x.1 x.2.1) (hn : (xs.map (·.1)).Nodup)
    (hnone : (∀ (j : Nat) (p : Value × Value), xs[j]? ≠ some (k, p)) → Q none s) (hsome : ∀ (j : Nat) (p : Value × Value), xs[j]? = some (k, p) → Q (some j) s) :
    wpAny (model prog w) A (dictFind d a (k.hash w)) Q E s := by
  have hsz : es.size = xs.length := size_of_entK he
  have haskey : ∀ (j : Nat) (p : Value × Value), xs[j]? = some (k, p) → ((es[j]?.map (·.hash)) == some (k.hash w)) = true := by
    intro j p hj
    rw [entry_atK he j, hj]
    simp [entK]
  have hmem : ∀ e ∈ es, ∃ x ∈ xs, e = entK w x := by
    intro e hin
    have : e ∈ xs.map (entK w) := he ▸ Array.mem_toList_iff.mpr hin
    obtain ⟨x, hx, rfl⟩ := List.mem_map.mp this
    exact ⟨x, hx, rfl⟩
  have hany : ∀ b, a = .ref b → ¬ (es.any fun e => e.key == Value.ref b && e.hash != k.hash w) = true := by
    intro b hb
    rw [← Array.any_toList, List.any_eq_true]
    rintro ⟨e, hin, hc⟩
    obtain ⟨x, hx, rfl⟩ := hmem e (Array.mem_toList_iff.mp hin)
    simp only [entK, Bool.and_eq_true, beq_iff_eq, bne_iff_ne, ne_eq] at hc
    obtain ⟨hxa, hne⟩ := hc
    have q := (his x hx).is
    rw [hxa, ← hb] at q
    exact hne (by rw [NestedIs.inj _ _ _ q hkey.is])
  have hst : ∀ v ∈ (placesWithHash es.size (fun i => es[i]?.map (·.hash)) (k.hash w)).filterMap (fun i => es[i]?.map (·.key)), ∃ k', KIs s.heap k' v := by
    intro v hv
    obtain ⟨i, _, hi⟩ := List.mem_filterMap.mp hv
    cases hei : es[i]? with
    | none => rw [hei] at hi; cases hi
    | some e =>
      rw [hei] at hi
      obtain rfl : e.key = v := by simpa using hi
      obtain ⟨x, hx, rfl⟩ := hmem e (Array.mem_of_getElem? hei)
      exact ⟨x.1, his x hx⟩
  -- the plain walk
  have plain : wpAny (model prog w) A (dictWalkPlain d a (k.hash w) es (placesWithHash es.size (fun i => es[i]?.map (·.hash)) (k.hash w))) Q E s := by
    unfold dictWalkPlain
    refine wpAny_bind ?_
    refine wpAny_forIn_list _
      (fun rest b s' => s' = s ∧ b = (none, ()) ∧ ∃ i, rest = (List.range' i (es.size - i)).filter (fun i => (es[i]?.map (·.hash)) == some (k.hash w)) ∧ i ≤ es.size ∧
        ∀ j p, j < i → xs[j]? ≠ some (k, p)) _ ?_ ?_ _ _
      ⟨rfl, rfl, 0, by rw [placesWithHash, List.range_eq_range', Nat.sub_zero], Nat.zero_le _, fun _ _ h => absurd h (Nat.not_lt_zero _)⟩
    · rintro x rest b s' ⟨rfl, rfl, i, hr, hi, hno⟩
      obtain ⟨hix, hxn, hpx, hskip, hrest⟩ := filter_range'_cons _ _ _ _ _ hr.symm
      have hlt : x < es.size := by omega
      obtain ⟨⟨k', b, v'⟩, hkv⟩ : ∃ y, xs[x]? = some y := ⟨xs[x]'(by rw [← hsz]; exact hlt), List.getElem?_eq_getElem _⟩
      have hib : KIs s'.heap k' b := his _ (List.mem_of_getElem? hkv)
      have hex : es[x]? = some ⟨k'.hash w, b, v'⟩ := by rw [entry_atK he x, hkv]; rfl
      have hnext : ¬ k' = k → ∃ i, rest = (List.range' i (es.size - i)).filter (fun i => (es[i]?.map (·.hash)) == some (k.hash w)) ∧ i ≤ es.size ∧ ∀ j p, j < i → xs[j]? ≠ some (k, p) := fun hne =>
        ⟨x + 1, by rw [hrest]; congr 2; omega, hlt, fun j p hji hj => by
          rcases Nat.lt_or_ge j i with h | h
          · exact hno j p h hj
          · rcases Nat.lt_or_ge j x with h' | h'
            · have := hskip j h h'
              rw [haskey j p hj] at this
              exact absurd this (by decide)
            · have e : j = x := by omega
              subst e
              rw [hkv] at hj
              injection hj with hj
              injection hj with hj
              exact hne hj⟩
      rw [hex]
      dsimp only
      by_cases hh : (k'.hash w == k.hash w) = true
      · rw [if_pos hh]
        refine wpAny_bind (wpAny_dictEpoch ho hd (wpAny_bind (KIs.eqB hu hib hkey (wpAny_bind (wpAny_dictEpoch ho hd ?_)))))
        show wpAny _ _ (if (ep != ep) = true then _ else _) _ E _
        rw [if_neg (by simp)]
        by_cases hkk : k' = k
        · rw [decide_eq_true hkk]
          subst hkk
          exact wpAny_bind (wpAny_rule (wpAny_pure (wpAny_pure (hsome x _ hkv))))
        · rw [decide_eq_false hkk]
          exact wpAny_bind (wpAny_rule (wpAny_pure ⟨rfl, rfl, hnext hkk⟩))
      · rw [if_neg hh]
        refine wpAny_pure ⟨rfl, rfl, hnext ?_⟩
        intro hkk
        rw [hkk] at hh; simp at hh
    · rintro b s' ⟨rfl, rfl, i, hr, hi, hno⟩
      have hall : ∀ j, i ≤ j → j < es.size → ((es[j]?.map (·.hash)) == some (k.hash w)) = false := by
        intro j h1 h2
        have := List.filter_eq_nil_iff.mp hr.symm j (List.mem_range'_1.mpr ⟨h1, by omega⟩)
        simpa using this
      refine wpAny_pure (hnone fun j p hj => ?_)
      rcases Nat.lt_or_ge j i with h | h
      · exact hno j p h hj
      · have hjl : j < es.size := by
          rw [hsz]
          rcases Nat.lt_or_ge j xs.length with h' | h'
          · exact h'
          · rw [List.getElem?_eq_none h'] at hj; exact nomatch hj
        have := hall j h hjl
        rw [haskey j p hj] at this
        exact absurd this (by decide)
  -- the walk that looks at all
  have deep : ∀ (stored : List Value) (tells : Bool), tells = false → wpAny (model prog w) A (do
        let mut hit : Option Nat := none
        for i in placesWithHash es.size (fun i => es[i]?.map (·.hash)) (k.hash w) do
          if let some e := es[i]? then
            if e.hash == k.hash w then
              let before ← dictEpoch d (keyPart a)
              let same ← eqBool e.key a
              if (← dictEpoch d (keyPart a)) != before then unsupported "dict.changed-during-lookup"
              if same then
                if hit.isSome then unsupported "dict.find:order-among-keys-of-one-hash"
                rule "dict.find.hit"
                if stored.length < 2 then return some i
                hit := some i
              else
                rule "dict.find.same-hash-other-key"
                if tells && !(0 ≤ k.hash w && k.hash w < 32) then unsupported "dict.find:asked-again-or-not-hangs-on-the-table"
        return hit) Q E s := by
    rintro stored tells rfl
    refine wpAny_bind ?_
    refine wpAny_forIn_list _
      (fun rest b s' => s' = s ∧ ∃ i hit, b = (none, hit) ∧ rest = (List.range' i (es.size - i)).filter (fun i => (es[i]?.map (·.hash)) == some (k.hash w)) ∧ i ≤ es.size ∧
        ((hit = none ∧ ∀ j p, j < i → xs[j]? ≠ some (k, p)) ∨ ∃ j p, hit = some j ∧ j < i ∧ xs[j]? = some (k, p))) _ ?_ ?_ _ _
      ⟨rfl, 0, none, rfl, by rw [placesWithHash, List.range_eq_range', Nat.sub_zero], Nat.zero_le _, .inl ⟨rfl, fun _ _ h => absurd h (Nat.not_lt_zero _)⟩⟩
    · rintro x rest b s' ⟨rfl, i, hit, rfl, hr, hi, hH⟩
      obtain ⟨hix, hxn, hpx, hskip, hrest⟩ := filter_range'_cons _ _ _ _ _ hr.symm
      have hlt : x < es.size := by omega
      have hrest' : rest = (List.range' (x + 1) (es.size - (x + 1))).filter (fun i => (es[i]?.map (·.hash)) == some (k.hash w)) := by rw [hrest]; congr 2; omega
      obtain ⟨⟨k', b, v'⟩, hkv⟩ : ∃ y, xs[x]? = some y := ⟨xs[x]'(by rw [← hsz]; exact hlt), List.getElem?_eq_getElem _⟩
      have hib : KIs s'.heap k' b := his _ (List.mem_of_getElem? hkv)
      have hex : es[x]? = some ⟨k'.hash w, b, v'⟩ := by rw [entry_atK he x, hkv]; rfl
      have hHx : (hit = none ∧ ∀ j p, j < x → xs[j]? ≠ some (k, p)) ∨ ∃ j p, hit = some j ∧ j < x ∧ xs[j]? = some (k, p) := by
        rcases hH with ⟨h0, hno⟩ | ⟨j, p, h1, hji, hj⟩
        · refine .inl ⟨h0, fun j p hjx hj => ?_⟩
          rcases Nat.lt_or_ge j i with h | h
          · exact hno j p h hj
          · have := hskip j h hjx
            rw [haskey j p hj] at this
            exact absurd this (by decide)
        · exact .inr ⟨j, p, h1, by omega, hj⟩
      have hstay : ¬ k' = k → ((hit = none ∧ ∀ j p, j < x + 1 → xs[j]? ≠ some (k, p)) ∨ ∃ j p, hit = some j ∧ j < x + 1 ∧ xs[j]? = some (k, p)) := by
        intro hne
        rcases hHx with ⟨h0, hno⟩ | ⟨j, p, h1, hjx, hj⟩
        · refine .inl ⟨h0, fun j p hjx hj => ?_⟩
          rcases Nat.lt_or_ge j x with h | h
          · exact hno j p h hj
          · have hjx' : j = x := by omega
            subst hjx'
            rw [hkv] at hj
            injection hj with hj
            injection hj with hj
            exact hne hj
        · exact .inr ⟨j, p, h1, by omega, hj⟩
      rw [hex]
      dsimp only
      by_cases hh : (k'.hash w == k.hash w) = true
      · rw [if_pos hh]
        refine wpAny_bind (wpAny_dictEpoch ho hd (wpAny_bind (KIs.eqB hu hib hkey (wpAny_bind (wpAny_dictEpoch ho hd ?_)))))
        show wpAny _ _ (if (ep != ep) = true then _ else _) _ E _
        rw [if_neg (by simp)]
        by_cases hkk : k' = k
        · rw [decide_eq_true hkk]
          subst hkk
          rcases hHx with ⟨rfl, _⟩ | ⟨j, p, _, hjx, hj⟩
          · first | rw [if_pos rfl] | skip
            simp only [Option.isSome_none, Bool.false_eq_true, if_false]
            first | refine wpAny_bind (wpAny_pure ?_) | skip
            refine wpAny_bind (wpAny_rule ?_)
            split
            · exact wpAny_pure (wpAny_pure (hsome x _ hkv))
            · exact wpAny_pure ⟨rfl, x + 1, some x, rfl, hrest', hlt, .inr ⟨x, _, rfl, Nat.lt_succ_self x, hkv⟩⟩
          · exact absurd (idxK_unique hn hj hkv) (by omega)
        · rw [decide_eq_false hkk]
          simp only [Bool.false_eq_true, if_false]
          refine wpAny_bind (wpAny_rule ?_)
          first | rw [if_neg (by simp)] | skip
          first
            | exact wpAny_pure ⟨rfl, x + 1, hit, rfl, hrest', hlt, hstay hkk⟩
            | exact wpAny_bind (wpAny_pure (wpAny_pure ⟨rfl, x + 1, hit, rfl, hrest', hlt, hstay hkk⟩))
      · rw [if_neg hh]
        refine wpAny_pure ⟨rfl, x + 1, hit, rfl, hrest', hlt, hstay ?_⟩
        intro hkk
        rw [hkk] at hh; simp at hh
    · rintro b s' ⟨rfl, i, hit, rfl, hr, hi, hH⟩
      have hall : ∀ j, i ≤ j → j < es.size → ((es[j]?.map (·.hash)) == some (k.hash w)) = false := by
        intro j h1 h2
        have := List.filter_eq_nil_iff.mp hr.symm j (List.mem_range'_1.mpr ⟨h1, by omega⟩)
        simpa using this
      rcases hH with ⟨rfl, hno⟩ | ⟨j, p, rfl, _, hj⟩
      · refine wpAny_pure (hnone fun j p hj => ?_)
        rcases Nat.lt_or_ge j i with h | h
        · exact hno j p h hj
        · have hjl : j < es.size := by
            rw [hsz]
            rcases Nat.lt_or_ge j xs.length with h' | h'
            · exact h'
            · rw [List.getElem?_eq_none h'] at hj; exact nomatch hj
          have := hall j h hjl
          rw [haskey j p hj] at this
          exact absurd this (by decide)
      · exact wpAny_pure (hsome j p hj)
  unfold dictFind
  try with_reducible refine wpAny_holding ?_
  refine wpAny_bind (wpAny_dictEntries ho hd ?_)
  cases a with
  | str x t => exact (topOk_str hkey).elim
  | ref b =>
    dsimp only
    rw [if_neg (show ¬ ((Value.ref b :: (placesWithHash es.size (fun i => es[i]?.map (·.hash)) (k.hash w)).filterMap (fun i => es[i]?.map (·.key))).all carriedByValue) = true by simp [carriedByValue])]
    rw [if_neg (hany b rfl)]
    by_cases hone : (((placesWithHash es.size (fun i => es[i]?.map (·.hash)) (k.hash w)).filterMap (fun i => es[i]?.map (·.key))) == [Value.ref b]) = true <;>
    (first | rw [if_pos hone] | rw [if_neg hone]) <;> (first | refine wpAny_bind (wpAny_pure ?_) | refine wpAny_bind (tableMayTell_K hkey hst ?_)) <;> (
      rw [if_neg (by simp)]
      exact deep _ false rfl)
  | none =>
    by_cases hz : ((Value.none :: (placesWithHash es.size (fun i => es[i]?.map (·.hash)) (k.hash w)).filterMap (fun i => es[i]?.map (·.key))).all carriedByValue) = true
    · show wpAny _ _ (if ((Value.none :: (placesWithHash es.size (fun i => es[i]?.map (·.hash)) (k.hash w)).filterMap (fun i => es[i]?.map (·.key))).all carriedByValue) = true then _ else _) _ _ _
      rw [if_pos hz]
      exact plain
    · show wpAny _ _ (if ((Value.none :: (placesWithHash es.size (fun i => es[i]?.map (·.hash)) (k.hash w)).filterMap (fun i => es[i]?.map (·.key))).all carriedByValue) = true then _ else _) _ _ _
      rw [if_neg hz]
      by_cases hone : (((placesWithHash es.size (fun i => es[i]?.map (·.hash)) (k.hash w)).filterMap (fun i => es[i]?.map (·.key))) == [Value.none]) = true
      · show wpAny _ _ ((if (((placesWithHash es.size (fun i => es[i]?.map (·.hash)) (k.hash w)).filterMap (fun i => es[i]?.map (·.key))) == [Value.none]) = true then _ else _)) _ _ _
        rw [if_pos hone]
        refine wpAny_bind (wpAny_pure ?_)
        show wpAny _ _ (if (false && _) = true then _ else _) _ _ _
        rw [if_neg (by rw [Bool.false_and]; exact Bool.false_ne_true)]
        dsimp only
        exact deep _ false rfl
      · show wpAny _ _ ((if (((placesWithHash es.size (fun i => es[i]?.map (·.hash)) (k.hash w)).filterMap (fun i => es[i]?.map (·.key))) == [Value.none]) = true then _ else _)) _ _ _
        rw [if_neg hone]
        refine wpAny_bind (tableMayTell_K hkey hst ?_)
        show wpAny _ _ (if (false && _) = true then _ else _) _ _ _
        rw [if_neg (by rw [Bool.false_and]; exact Bool.false_ne_true)]
        dsimp only
        exact deep _ false rfl
  | bool b =>
    by_cases hz : ((Value.bool b :: (placesWithHash es.size (fun i => es[i]?.map (·.hash)) (k.hash w)).filterMap (fun i => es[i]?.map (·.key))).all carriedByValue) = true
    · show wpAny _ _ (if ((Value.bool b :: (placesWithHash es.size (fun i => es[i]?.map (·.hash)) (k.hash w)).filterMap (fun i => es[i]?.map (·.key))).all carriedByValue) = true then _ else _) _ _ _
      rw [if_pos hz]
      exact plain
    · show wpAny _ _ (if ((Value.bool b :: (placesWithHash es.size (fun i => es[i]?.map (·.hash)) (k.hash w)).filterMap (fun i => es[i]?.map (·.key))).all carriedByValue) = true then _ else _) _ _ _
      rw [if_neg hz]
      by_cases hone : (((placesWithHash es.size (fun i => es[i]?.map (·.hash)) (k.hash w)).filterMap (fun i => es[i]?.map (·.key))) == [Value.bool b]) = true
      · show wpAny _ _ ((if (((placesWithHash es.size (fun i => es[i]?.map (·.hash)) (k.hash w)).filterMap (fun i => es[i]?.map (·.key))) == [Value.bool b]) = true then _ else _)) _ _ _
        rw [if_pos hone]
        refine wpAny_bind (wpAny_pure ?_)
        show wpAny _ _ (if (false && _) = true then _ else _) _ _ _
        rw [if_neg (by rw [Bool.false_and]; exact Bool.false_ne_true)]
        dsimp only
        exact deep _ false rfl
      · show wpAny _ _ ((if (((placesWithHash es.size (fun i => es[i]?.map (·.hash)) (k.hash w)).filterMap (fun i => es[i]?.map (·.key))) == [Value.bool b]) = true then _ else _)) _ _ _
        rw [if_neg hone]
        refine wpAny_bind (tableMayTell_K hkey hst ?_)
        show wpAny _ _ (if (false && _) = true then _ else _) _ _ _
        rw [if_neg (by rw [Bool.false_and]; exact Bool.false_ne_true)]
        dsimp only
        exact deep _ false rfl
  | int i t =>
    by_cases hz : ((Value.int i t :: (placesWithHash es.size (fun i => es[i]?.map (·.hash)) (k.hash w)).filterMap (fun i => es[i]?.map (·.key))).all carriedByValue) = true
    · show wpAny _ _ (if ((Value.int i t :: (placesWithHash es.size (fun i => es[i]?.map (·.hash)) (k.hash w)).filterMap (fun i => es[i]?.map (·.key))).all carriedByValue) = true then _ else _) _ _ _
      rw [if_pos hz]
      exact plain
    · show wpAny _ _ (if ((Value.int i t :: (placesWithHash es.size (fun i => es[i]?.map (·.hash)) (k.hash w)).filterMap (fun i => es[i]?.map (·.key))).all carriedByValue) = true then _ else _) _ _ _
      rw [if_neg hz]
      by_cases hone : (((placesWithHash es.size (fun i => es[i]?.map (·.hash)) (k.hash w)).filterMap (fun i => es[i]?.map (·.key))) == [Value.int i t]) = true
      · show wpAny _ _ ((if (((placesWithHash es.size (fun i => es[i]?.map (·.hash)) (k.hash w)).filterMap (fun i => es[i]?.map (·.key))) == [Value.int i t]) = true then _ else _)) _ _ _
        rw [if_pos hone]
        refine wpAny_bind (wpAny_pure ?_)
        show wpAny _ _ (if (false && _) = true then _ else _) _ _ _
        rw [if_neg (by rw [Bool.false_and]; exact Bool.false_ne_true)]
        dsimp only
        exact deep _ false rfl
      · show wpAny _ _ ((if (((placesWithHash es.size (fun i => es[i]?.map (·.hash)) (k.hash w)).filterMap (fun i => es[i]?.map (·.key))) == [Value.int i t]) = true then _ else _)) _ _ _
        rw [if_neg hone]
        refine wpAny_bind (tableMayTell_K hkey hst ?_)
        show wpAny _ _ (if (false && _) = true then _ else _) _ _ _
        rw [if_neg (by rw [Bool.false_and]; exact Bool.false_ne_true)]
        dsimp only
        exact deep _ false rfl
  | _ => exact absurd hkey.is (by intro z; cases z)
theorem dictGet_K {d : Addr} {a : Value} {xs : KVs} {k : NestedKey} {Q : Option Value → Shared → Prop} (hu : A.units + 8 < cLine) (hkey : KIs s.heap k a) (hm : DictK w s.heap d xs)
    (h : Q (atK xs k) { s with toks := s.toks + k.draws }) : wpAny (model prog w) A (dictGet d a) Q E s := by
  obtain ⟨o, es, ep, ho, _, hd, he, his, hn⟩ := hm
  unfold dictGet
  try with_reducible refine wpAny_holding ?_
  refine wpAny_bind (pyHash_key (w := w) k a A s _ hkey.is (by have := hkey.dep; omega) (wpAny_bind (dictFind_K (s := { s with toks := s.toks + k.draws }) hu hkey ho hd he his hn ?_ ?_)))
  · intro hno
    rw [atK_none_of_get hno] at h
    exact wpAny_pure h
  · intro j p hj
    rw [atK_of_get hn hj] at h
    refine wpAny_bind (wpAny_dictEntries (s := { s with toks := s.toks + k.draws }) ho hd ?_)
    rw [entry_atK he j, hj]
    exact wpAny_pure h
theorem storeK_new {xs : KVs} {k : NestedKey} (h : atK xs k = none) (a v : Value) : storeK xs k a v = xs ++ [(k, a, v)] := by simp [storeK, h]
theorem storeK_old {xs : KVs} {k : NestedKey} {p : Value} (h : atK xs k = some p) (a v : Value) : storeK xs k a v = xs.map (putK k v) := by simp [storeK, h]
theorem dictSet_K {d : Addr} {a : Value} {xs : KVs} {k : NestedKey} {v : Value} {Q : Unit → Shared → Prop} (hu : A.units + 8 < cLine) (hkey : KIs s.heap k a) (hm : DictK w s.heap d xs)
    (hQ : ∀ h', DictK w h' d (storeK xs k a v) → Heap.SameBut d s.heap h' → Q () { s with heap := h', toks := s.toks + k.draws }) (hsz : xs.length ≤ sizeLine) :
    wpAny (model prog w) A (dictSet d a v) Q E s := by
  obtain ⟨o, es, ep, ho, hc, hd, he, his, hn⟩ := hm
  unfold dictSet
  try with_reducible refine wpAny_holding ?_
  refine wpAny_bind (pyHash_key (w := w) k a A s _ hkey.is (by have := hkey.dep; omega) ?_)
  unfold dictSetHashed
  try with_reducible refine wpAny_holding ?_
  refine wpAny_bind (dictFind_K (s := { s with toks := s.toks + k.draws }) hu hkey ho hd he his hn ?_ ?_)
  · intro hno
    have hnot : k ∉ xs.map (·.1) := not_mem_keysK hno
    refine wpAny_bind (wpAny_rule (wpAny_updateDictKeys (hz := by have e := size_of_entK he; omega) (s := { s with toks := s.toks + k.draws }) ho hd (hQ _ ⟨_, _, ep + 1, Heap.get?_update_self _ ho (Obj.isFreed_of_dict (Obj.data_mapDictKeys hd _)),
      hc.mapDictKeys _, Obj.data_mapDictKeys hd _, ?_, ?_, ?_⟩ (Heap.SameBut.update ..))))
    · rw [storeK_new (atK_none_of_get hno)]
      simp [he, entK]
    · rw [storeK_new (atK_none_of_get hno)]
      intro x hx
      rcases List.mem_append.mp hx with hx | hx
      · exact (his x hx).but ho hd (Heap.SameBut.update ..)
      · simp only [List.mem_singleton] at hx
        subst hx
        exact hkey.but ho hd (Heap.SameBut.update ..)
    · rw [storeK_new (atK_none_of_get hno)]
      rw [List.map_append, List.nodup_append]
      refine ⟨hn, by simp, ?_⟩
      intro x hx y hy
      simp only [List.map_cons, List.map_nil, List.mem_singleton] at hy
      subst hy
      exact fun e => hnot (e ▸ hx)
  · intro j p hj
    refine wpAny_bind (wpAny_rule (wpAny_bind (wpAny_updateDict (s := { s with toks := s.toks + k.draws }) ho hd (wpAny_point (hQ _ ⟨_, _, ep, Heap.get?_update_self _ ho (Obj.isFreed_of_dict (Obj.data_mapDict hd _)),
      hc.mapDict _, Obj.data_mapDict hd _, ?_, ?_, ?_⟩ (Heap.SameBut.update ..))))))
    · rw [storeK_old (atK_of_get hn hj)]
      have := modify_map_putK w k v hn hj
      rw [← he] at this
      obtain ⟨l⟩ := es
      simpa using this
    · rw [storeK_old (atK_of_get hn hj)]
      intro x hx
      obtain ⟨y, hy, rfl⟩ := List.mem_map.mp hx
      unfold putK
      split <;> exact (his y hy).but ho hd (Heap.SameBut.update ..)
    · rw [storeK_old (atK_of_get hn hj)]
      rw [keys_map_putK]; exact hn
variable {d : Addr} {a : Value} {xs : KVs} {k : NestedKey}
theorem contains_K {Q : Bool → Shared → Prop} (hu : A.units + 9 < cLine) (hkey : KIs s.heap k a) (hd : (d == sysModules) = false) (hm : DictK w s.heap d xs)
    (h : Q (atK xs k).isSome { s with toks := s.toks + k.draws }) : wpAny (model prog w) A (contains (.ref d) a) Q E s := by
  refine wpAny_contains_slot hm.typeIs F.slot_dict_contains ?_
  refine call_meetsIn F.slot_dict_contains hm.typeIs F.entry_dict_contains (F.args_dict_contains_2 _ _) (S := fun A' R s' => A' = A ∧ s' = s ∧ R (.ok (.ret (.bool (atK xs k).isSome))) { s with toks := s.toks + k.draws }) (fun A' R s' hS => ?_) ⟨rfl, rfl, wpAny_truthy_bool h⟩
  obtain ⟨rfl, rfl, hq⟩ := hS
  show wpAny _ _ (dictGet d a >>= _) _ _ _
  refine wpAny_bind (dictGet_K (by show A'.units + 1 + 8 < cLine; omega) hkey hm ?_)
  cases hf : atK xs k with
  | some p =>
    rw [hf] at hq
    show wpAny _ _ (ret (.bool true)) _ _ _
    exact wpAny_pure hq
  | none =>
    rw [hf] at hq
    show wpAny _ _ (Builtin.Dict.pendingKey? d a >>= _) _ _ _
    exact wpAny_bind (wpAny_pendingKey_other hd (wpAny_pure hq))
theorem in_K {Q : Value → Shared → Prop} (hu : A.units + 9 < cLine) (hkey : KIs s.heap k a) (hd : (d == sysModules) = false) (hm : DictK w s.heap d xs)
    (h : Q (.bool (atK xs k).isSome) { s with toks := s.toks + k.draws }) : wpAny (model prog w) A (compareOp .In a (.ref d)) Q E s := by
  show wpAny _ _ (do return .bool (← contains (.ref d) a)) Q E s
  exact wpAny_bind (contains_K hu hkey hd hm (wpAny_pure h))
theorem notIn_K {Q : Value → Shared → Prop} (hu : A.units + 9 < cLine) (hkey : KIs s.heap k a) (hd : (d == sysModules) = false) (hm : DictK w s.heap d xs)
    (h : Q (.bool (!(atK xs k).isSome)) { s with toks := s.toks + k.draws }) : wpAny (model prog w) A (compareOp .NotIn a (.ref d)) Q E s := by
  show wpAny _ _ (do return .bool (!(← contains (.ref d) a))) Q E s
  exact wpAny_bind (contains_K hu hkey hd hm (wpAny_pure h))
theorem getItem_K {v : Value} {Q : Value → Shared → Prop} (hu : A.units + 9 < cLine) (hkey : KIs s.heap k a) (hm : DictK w s.heap d xs) (hp : atK xs k = some v)
    (h : Q v { s with toks := s.toks + k.draws }) : wpAny (model prog w) A (getItem (.ref d) a) Q E s := by
  unfold getItem
  try with_reducible refine wpAny_holding ?_
  refine wpAny_bind (wpAny_sequenceKey hm.typeIs (by decide) ?_)
  refine wpAny_bind (wpAny_callSpecial?_slot (name := Str.ofString "__getitem__") hm.typeIs slot_dict_getitem
    (wpAny_call_entry slot_dict_getitem hm.typeIs entry_dict_getitem ?_ (args_dict_getitem _ _)))
  show wpAny _ _ (dictGet d a >>= _) _ _ s
  refine wpAny_bind (dictGet_K (by show A.units + 1 + 8 < cLine; omega) hkey hm ?_)
  rw [hp]
  exact wpAny_pure ⟨v, rfl, wpAny_pure h⟩
theorem setItem_K {v : Value} {Q : Unit → Shared → Prop} (hu : A.units + 9 < cLine) (hkey : KIs s.heap k a) (hm : DictK w s.heap d xs)
    (hQ : ∀ h', DictK w h' d (storeK xs k a v) → Heap.SameBut d s.heap h' → Q () { s with heap := h', toks := s.toks + k.draws }) (hsz : xs.length ≤ sizeLine) :
    wpAny (model prog w) A (setItem (.ref d) a v) Q E s := by
  unfold setItem
  try with_reducible refine wpAny_holding ?_
  refine wpAny_bind (wpAny_sequenceKey hm.typeIs (by decide) ?_)
  refine wpAny_bind (wpAny_callSpecial?_slot (name := Str.ofString "__setitem__") hm.typeIs slot_dict_setitem
    (wpAny_call_entry slot_dict_setitem hm.typeIs entry_dict_setitem ?_ (args_dict_setitem _ _ _)))
  show wpAny _ _ (Builtin.Dict.notOrdered "__setitem__" ⟨[.ref d, a, v], []⟩ >>= _) _ _ s
  refine wpAny_bind (wpAny_notOrdered_dict hm.typeIs ?_)
  show wpAny _ _ (dictSet d a v >>= _) _ _ s
  exact wpAny_bind (dictSet_K (hsz := hsz) (by show A.units + 1 + 8 < cLine; omega) hkey hm fun h' hm' hs' => wpAny_pure ⟨.none, rfl, wpAny_pure (hQ h' hm' hs')⟩)
theorem meetsK_get (hd : (d == sysModules) = false) (dflt : Value) :
    MeetsIn prog w (Builtin.«dict.get» ⟨[.ref d, a, dflt], []⟩) (fun A R s => A.units + 9 < cLine ∧ ∃ k xs, KIs s.heap k a ∧ DictK w s.heap d xs ∧
      R (.ok (.ret ((atK xs k).getD dflt))) { s with toks := s.toks + k.draws }) :=
  .of_wp fun A R s ⟨hu, k, xs, hkey, hm, h⟩ => by
    show wpAny _ _ (dictGet d a >>= _) _ _ s
    refine wpAny_bind (dictGet_K (by show A.units + 1 + 8 < cLine; omega) hkey hm ?_)
    cases hf : atK xs k with
    | some v =>
      rw [hf] at h
      exact wpAny_pure ⟨v, rfl, h⟩
    | none =>
      rw [hf] at h
      show wpAny _ _ (Builtin.Dict.missed d a >>= _) _ _ _
      exact wpAny_bind (wpAny_missed_other hd (wpAny_pure ⟨dflt, rfl, h⟩))
theorem meetsK_get1 (hd : (d == sysModules) = false) :
    MeetsIn prog w (Builtin.«dict.get» ⟨[.ref d, a], []⟩) (fun A R s => A.units + 9 < cLine ∧ ∃ k xs, KIs s.heap k a ∧ DictK w s.heap d xs ∧
      R (.ok (.ret ((atK xs k).getD .none))) { s with toks := s.toks + k.draws }) :=
  .of_wp fun A R s ⟨hu, k, xs, hkey, hm, h⟩ => by
    show wpAny _ _ (dictGet d a >>= _) _ _ s
    refine wpAny_bind (dictGet_K (by show A.units + 1 + 8 < cLine; omega) hkey hm ?_)
    cases hf : atK xs k with
    | some v =>
      rw [hf] at h
      exact wpAny_pure ⟨v, rfl, h⟩
    | none =>
      rw [hf] at h
      show wpAny _ _ (Builtin.Dict.missed d a >>= _) _ _ _
      exact wpAny_bind (wpAny_missed_other hd (wpAny_pure ⟨.none, rfl, h⟩))
theorem getOr_K {x : Value} {Q : Value → Shared → Prop} (hu : A.units + 9 < cLine) (hkey : KIs s.heap k a) (hd : (d == sysModules) = false) (hm : DictK w s.heap d xs)
    (h : Q ((atK xs k).getD x) { s with toks := s.toks + k.draws }) : wpAny (model prog w) A (call (.builtin "dict.get") [.ref d, a, x]) Q E s :=
  call_meetsIn F.slot_dict_get hm.typeIs F.entry_dict_get (F.args_dict_get_3 _ _ _) (meetsK_get hd x) ⟨hu, k, xs, hkey, hm, h⟩
theorem getK1 {Q : Value → Shared → Prop} (hu : A.units + 9 < cLine) (hkey : KIs s.heap k a) (hd : (d == sysModules) = false) (hm : DictK w s.heap d xs)
    (h : Q ((atK xs k).getD .none) { s with toks := s.toks + k.draws }) : wpAny (model prog w) A (call (.builtin "dict.get") [.ref d, a]) Q E s :=
  call_meetsIn F.slot_dict_get hm.typeIs F.entry_dict_get (F.args_dict_get_2 _ _) (meetsK_get1 hd) ⟨hu, k, xs, hkey, hm, h⟩
end
end PD

/-! PD12: dicts as data: reading them over the heap; look-up, store, displays. -/
namespace PD
open PySem PySem.Spec PyProof.Rows L2
abbrev KV2 := List (D × D)
def getKD (kvs : KV2) (k : NestedKey) : Option D := (kvs.find? fun p => decide (kD p.1 = some k)).map (·.2)
def putKD (kvs : KV2) (kd : D) (k : NestedKey) (v : D) : KV2 := if (getKD kvs k).isSome then kvs.map fun p => if kD p.1 = some k then (p.1, v) else p else kvs ++ [(kd, v)]
def atL (L : DL) (k : NestedKey) : Option V := (L.find? fun x => decide (x.1 = k)).map (·.2.2)
def putL' (L : DL) (kv : V) (k : NestedKey) (v : V) : DL := if (atL L k).isSome then L.map fun x => if x.1 = k then (x.1, x.2.1, v) else x else L ++ [(k, kv, v)]
section
variable {X : Cx} {pins : List (Addr × Obj)} {σ : L2.St} {F H : Hp} {s : Shared}
mutual
theorem nested_of (I : Inv X pins σ H s) (sm : Same F H) : ∀ (d : D) {k : NestedKey} {v : V} {u : Value}, keyOf d = some k → Rep X.w X.K F v d → RelV v u → NestedIs s.heap k u
  | .none, k, v, u, h, r, ru => by
    rw [keyOf] at h; cases h; cases r; cases ru; exact .none
  | .bool b, k, v, u, h, r, ru => by
    rw [keyOf] at h; cases h; cases r; cases ru; exact .bool rfl
  | .int i, k, v, u, h, r, ru => by
    rw [keyOf] at h; cases h; cases r; obtain ⟨t, rfl⟩ := ru; exact .int _ _
  | .str x, k, v, u, h, r, ru => by
    rw [keyOf] at h; cases h; cases r; obtain ⟨t, rfl⟩ := ru; exact .text _ _
  | .tuple ds, k, v, u, h, r, ru => by
    rw [keyOf] at h
    obtain ⟨ks, hks, rfl⟩ := Option.map_eq_some_iff.mp h
    obtain ⟨a, vs, rfl, h1, r1⟩ := r.tup_inv
    cases ru
    obtain ⟨its, rv, ⟨o, ho, hc, n, hd⟩, hz⟩ := I.tuple (SqT.mono sm h1)
    exact .tup ho hc hd (by simpa using nesteds_of I sm ds hks r1 rv)
  | .list ds, k, v, u, h, r, ru => by simp [keyOf] at h
  | .dict ds, k, v, u, h, r, ru => by simp [keyOf] at h
theorem nesteds_of (I : Inv X pins σ H s) (sm : Same F H) : ∀ (ds : List D) {ks : List NestedKey} {vs : List V} {us : List Value}, keysOf ds = some ks → Reps X.w X.K F vs ds → Vals vs us → NestedAll s.heap ks us
  | [], ks, vs, us, h, r, ru => by
    rw [keysOf] at h; cases h; cases r; cases ru; exact .nil
  | d :: ds, ks, vs, us, h, r, ru => by
    rw [keysOf] at h
    obtain ⟨k, hk, h2⟩ := Option.bind_eq_some_iff.mp h
    obtain ⟨ks', hks, rfl⟩ := Option.map_eq_some_iff.mp h2
    cases r with
    | cons r1 r2 =>
      cases ru with
      | cons u1 u2 => exact .cons (nested_of I sm d hk r1 u1) (nesteds_of I sm ds hks r2 u2)
end
theorem kis_of (I : Inv X pins σ H s) (sm : Same F H) {d : D} {k : NestedKey} {v : V} {u : Value} (h : kD d = some k) (r : Rep X.w X.K F v d) (ru : RelV v u) : KIs s.heap k u :=
  let ⟨h1, h2, h3⟩ := kD_some h
  ⟨nested_of I sm d h1 r ru, h2, h3⟩

/-- the table beside what is known of it -/
abbrev KX : DL → KVs → Prop := Paired fun l x => l.1 = x.1 ∧ RelV l.2.1 x.2.1 ∧ RelV l.2.2 x.2.2
theorem kx_of {w : World} : ∀ {L : DL} {es : List DictEntry}, Paired (DEnt w) L es → ∃ xs : KVs, es = xs.map (entK w) ∧ KX L xs
  | [], _, .nil => ⟨[], rfl, .nil⟩
  | l :: L, _, .cons h t => by
    rename_i e es
    obtain ⟨xs, rfl, q⟩ := kx_of t
    obtain ⟨h1, h2, h3⟩ := h
    refine ⟨(l.1, e.key, e.val) :: xs, ?_, .cons ⟨rfl, h2, h3⟩ q⟩
    rw [List.map_cons]
    congr 1
    obtain ⟨eh, ek, ev⟩ := e
    simp only at h1
    subst h1
    rfl
theorem kx_keys {L : DL} {xs : KVs} (h : KX L xs) : L.map (·.1) = xs.map (·.1) := by
  induction h with
  | nil => rfl
  | cons a b ih => rw [List.map_cons, List.map_cons, ih, a.1]
theorem kx_len {L : DL} {xs : KVs} (h : KX L xs) : L.length = xs.length := by
  have := congrArg List.length (kx_keys h)
  simpa using this
theorem kx_is (I : Inv X pins σ H s) (sm : Same F H) : ∀ {L : DL} {xs : KVs} {kvs : KV2}, KX L xs → RepE X.w X.K F L kvs → ∀ x ∈ xs, KIs s.heap x.1 x.2.1
  | _, _, _, .nil, .nil, _, h => nomatch h
  | _, _, _, .cons h t, .cons a b c d, x, hx => by
    rcases List.mem_cons.mp hx with rfl | hx
    · rw [← h.1]; exact kis_of I sm a b h.2.1
    · exact kx_is I sm t d x hx
/-- a dict that is known stands over the heap -/
theorem dict_now (I : Inv X pins σ H s) (sm : Same F H) {a : Addr} {L : DL} {kvs : KV2} (ha : H a = some (dictO X.w a L) ∨ ∃ od, H a = some (.frz od (dictO X.w a L))) (r : RepE X.w X.K F L kvs) :
    (a == sysModules) = false ∧ ∃ xs : KVs, DictK X.w s.heap a xs ∧ KX L xs := by
  have hp : dictP X.w a L s.heap := by
    rcases ha with ha | ⟨od, ha⟩
    · exact (I.hok a _ ha).1
    · exact (I.hok a _ ha).2.1
  obtain ⟨h0, o, es, ep, h1, h2, h3, h4, h5⟩ := hp
  obtain ⟨xs, he, kx⟩ := kx_of h4
  exact ⟨h0, xs, ⟨o, es, ep, h1, h2, h3, he, kx_is I sm kx r, by rw [← kx_keys kx]; exact h5⟩, kx⟩
theorem kx_at : ∀ {L : DL} {xs : KVs} {kvs : KV2} (k : NestedKey), KX L xs → RepE X.w X.K F L kvs →
    match getKD kvs k with
    | none => atK xs k = none ∧ atL L k = none
    | some d => ∃ v u, atK xs k = some u ∧ atL L k = some v ∧ RelV v u ∧ Rep X.w X.K F v d
  | _, _, _, k, .nil, .nil => by simp [getKD, atK, atL]
  | (k0, kv, vv) :: L, x :: xs, (kd, vd) :: kvs, k, .cons h t, .cons a b c d => by
    by_cases e : k0 = k
    · subst e
      have hx : x.1 = k0 := h.1.symm
      have e1 : getKD ((kd, vd) :: kvs) k0 = some vd := by simp [getKD, a]
      rw [e1]
      exact ⟨_, x.2.2, by simp [atK, hx], by simp [atL], h.2.2, c⟩
    · have ih := kx_at k t d
      have hx : ¬ x.1 = k := fun z => e (h.1.trans z)
      have e1 : ∀ r : KV2, getKD ((kd, vd) :: r) k = getKD r k := fun r => by
        have : ¬ (kD kd = some k) := fun z => e (by rw [a] at z; exact Option.some.inj z)
        simp [getKD, List.find?_cons, this]
      have e2 : ∀ r : KVs, atK (x :: r) k = atK r k := fun r => by simp [atK, List.find?_cons, hx]
      have e3 : ∀ (q : V × V) (r : DL), atL ((k0, q) :: r) k = atL r k := fun q r => by simp [atL, List.find?_cons, e]
      rw [e1, e2, e3]
      exact ih
theorem kx_map {v : V} {u : Value} (k : NestedKey) (ru : RelV v u) : ∀ {L : DL} {xs : KVs}, KX L xs → KX (L.map fun x => if x.1 = k then (x.1, x.2.1, v) else x) (xs.map (putK k u))
  | _, _, .nil => .nil
  | _, _, .cons h t => by
    rw [List.map_cons, List.map_cons]
    refine .cons ?_ (kx_map k ru t)
    unfold putK
    rw [h.1]
    split
    · exact ⟨rfl, h.2.1, ru⟩
    · exact h
theorem rep_map {v : V} {dv : D} (k : NestedKey) (r : Rep X.w X.K F v dv) : ∀ {L : DL} {kvs : KV2}, RepE X.w X.K F L kvs → RepE X.w X.K F (L.map fun x => if x.1 = k then (x.1, x.2.1, v) else x) (kvs.map fun p => if kD p.1 = some k then (p.1, dv) else p)
  | _, _, .nil => .nil
  | _, _, .cons (k := k0) a b c d => by
    rw [List.map_cons, List.map_cons]
    by_cases e : k0 = k
    · subst e
      rw [if_pos rfl, if_pos a]
      exact .cons a b r (rep_map k0 r d)
    · have : ¬ (kD _ = some k) := fun z => e (by rw [a] at z; exact Option.some.inj z)
      rw [if_neg e, if_neg this]
      exact .cons a b c (rep_map k r d)
theorem kx_append {L : DL} {xs : KVs} {l x} (h : KX L xs) (q : l.1 = x.1 ∧ RelV l.2.1 x.2.1 ∧ RelV l.2.2 x.2.2) : KX (L ++ [l]) (xs ++ [x]) := by
  induction h with
  | nil => exact .cons q .nil
  | cons a b ih => exact .cons a ih
theorem rep_append {L : DL} {kvs : KV2} {k : NestedKey} {kv vv : V} {kd vd : D} (h : RepE X.w X.K F L kvs) (a : kD kd = some k) (b : Rep X.w X.K F kv kd) (c : Rep X.w X.K F vv vd) : RepE X.w X.K F (L ++ [(k, kv, vv)]) (kvs ++ [(kd, vd)]) :=
  match L, kvs, h with
  | _, _, .nil => .cons a b c .nil
  | _, _, .cons a' b' c' d' => .cons a' b' c' (rep_append d' a b c)
/-- a store -/
theorem kx_put {L : DL} {xs : KVs} {kvs : KV2} {k : NestedKey} {kv v : V} {kd vd : D} {ku u : Value} (h : KX L xs) (r : RepE X.w X.K F L kvs) (a : kD kd = some k) (b : Rep X.w X.K F kv kd) (c : Rep X.w X.K F v vd) (rk : RelV kv ku) (ru : RelV v u) :
    KX (putL' L kv k v) (storeK xs k ku u) ∧ RepE X.w X.K F (putL' L kv k v) (putKD kvs kd k vd) := by
  have z := kx_at (X := X) (F := F) k h r
  unfold putL' storeK putKD
  cases e : getKD kvs k with
  | none =>
    rw [e] at z
    rw [z.1, z.2]
    exact ⟨kx_append h ⟨rfl, rk, ru⟩, rep_append r a b c⟩
  | some d =>
    rw [e] at z
    obtain ⟨v', u', z1, z2, _, _⟩ := z
    rw [z1, z2]
    exact ⟨kx_map k ru h, rep_map k c r⟩
theorem repE_len : ∀ {L : DL} {kvs : KV2}, RepE X.w X.K F L kvs → L.length = kvs.length
  | _, _, .nil => rfl
  | _, _, .cons _ _ _ d => by rw [List.length_cons, List.length_cons, repE_len d]
/-- what stands over the heap, said for a later heap -/
theorem dictO_ok {P : Program} {w : World} {H : Hp} {h : Heap} {a : Addr} {L : DL} {xs : KVs} (h0 : (a == sysModules) = false) (hd : DictK w h a xs) (kx : KX L xs) : ObjOk P w H h a (dictO w a L) := by
  obtain ⟨o, es, ep, h1, h2, h3, he, his, hn⟩ := hd
  have pr : Paired (DEnt w) L es.toList := by
    rw [he]
    clear he his hn
    induction kx with
    | nil => exact .nil
    | cons a b ih => rw [List.map_cons]; exact .cons ⟨by rw [a.1]; rfl, a.2.1, a.2.2⟩ ih
  refine ⟨⟨h0, o, es, ep, h1, h2, h3, pr, by rw [kx_keys kx]; exact hn⟩, ⟨o, h1⟩, fun g1 g2 q k => ?_⟩
  obtain ⟨q0, o', es', ep', p1, p2⟩ := q
  exact ⟨q0, o', es', ep', k _ p1, p2⟩
theorem dict_empty {P : Program} {w : World} {H : Hp} (h : Heap) (hb : sysModules < h.objs.size) : ObjOk P w H (h.push { cls := .type "dict", data := .dict #[] }) h.objs.size (dictO w h.objs.size []) :=
  dictO_ok (xs := []) (beq_eq_false_iff_ne.mpr (Ne.symm (Nat.ne_of_lt hb))) ⟨_, #[], 0, Heap.get?_push_size _ rfl, ⟨rfl, rfl, rfl⟩, rfl, rfl, fun _ hx => by simp at hx, List.nodup_nil⟩ .nil
end
/-! ### operations -/
def kdOf (d : D) : Option (NestedKey) := kD d
def dixD : D → D → Option D
  | .dict kvs, kd => (kD kd).bind fun k => getKD kvs k
  | _, _ => none
def dinD (neg : Bool) (kd : D) : D → Option D
  | .dict kvs => (kD kd).map fun k => .bool (neg ^^ (getKD kvs k).isSome)
  | _ => none
def dgetD : List D → Option D
  | [.dict kvs, kd, x] => (kD kd).map fun k => (getKD kvs k).getD x
  | [.dict kvs, kd] => (kD kd).map fun k => (getKD kvs k).getD .none
  | _ => none
section
variable {X : Cx}
theorem hu9 (hu : X.A.units + 64 < cLine) : X.A.units + 9 < cLine := by omega
theorem kD_notdict {kd : D} {k : NestedKey} (h : kD kd = some k) : ∀ kvs, kd ≠ .dict kvs := by
  rintro kvs rfl
  have := (kD_some h).1
  simp [keyOf] at this
theorem ix_dixD (hu : X.A.units + 64 < cLine) : IxD X dixD := by
  intro value slice pins s σ H x y v u Q I rx ry h hs
  obtain ⟨F, d, e, r, sm, p1, p2, hg, k⟩ := h
  unfold dixD at hg
  split at hg
  · rename_i kvs kd
    obtain ⟨ky, hk, hv⟩ := Option.bind_eq_some_iff.mp hg
    obtain ⟨a, L, rfl, ha, re⟩ := p1.dct_inv sm
    obtain rfl : v = Value.ref a := rx
    obtain ⟨h0, xs, hd, kx⟩ := dict_now I sm ha re
    have rk := p2.now sm (kD_notdict hk)
    have z := kx_at (X := X) (F := F) ky kx re
    rw [hv] at z
    obtain ⟨vv, uu, z1, z2, z3, z4⟩ := z
    exact PyProof.Rows.subscriptTail_builtinR (x := uu) hd.typeIs PySem.F.slot_dict_getitem.lookup (getItem_K (hu9 hu) (kis_of I (Same.refl _) hk rk ry) hd z1 ⟨rfl, vv, H, I.tok _, z3, k vv F H (.refl sm) z4⟩) hs
  · cases hg
theorem op_dinD (hu : X.A.units + 64 < cLine) : OpD X (compareOp .In) (dinD false) := by
  intro pins s σ H x y v u Q I rx ry h
  obtain ⟨F, d, e, r, sm, p1, p2, hg, k⟩ := h
  unfold dinD at hg
  split at hg
  · rename_i kvs
    obtain ⟨ky, hk, rfl⟩ := Option.map_eq_some_iff.mp hg
    obtain ⟨a, L, rfl, ha, re⟩ := p2.dct_inv sm
    obtain rfl : u = Value.ref a := ry
    obtain ⟨h0, xs, hd, kx⟩ := dict_now I sm ha re
    have rk := p1.now sm (kD_notdict hk)
    have z := kx_at (X := X) (F := F) ky kx re
    refine in_K (hu9 hu) (kis_of I (Same.refl _) hk rk rx) h0 hd ⟨.bl _, H, I.tok _, rfl, ?_⟩
    have e : (atK xs ky).isSome = (getKD kvs ky).isSome := by
      revert z
      cases getKD kvs ky with
      | none => intro z; rw [z.1]; rfl
      | some d => rintro ⟨v', u', z1, _⟩; rw [z1]; rfl
    rw [e]
    have := k (.bl (false ^^ (getKD kvs ky).isSome)) F H (.refl sm) (.bl _)
    rwa [Bool.false_xor] at this
  · cases hg
theorem op_dninD (hu : X.A.units + 64 < cLine) : OpD X (compareOp .NotIn) (dinD true) := by
  intro pins s σ H x y v u Q I rx ry h
  obtain ⟨F, d, e, r, sm, p1, p2, hg, k⟩ := h
  unfold dinD at hg
  split at hg
  · rename_i kvs
    obtain ⟨ky, hk, rfl⟩ := Option.map_eq_some_iff.mp hg
    obtain ⟨a, L, rfl, ha, re⟩ := p2.dct_inv sm
    obtain rfl : u = Value.ref a := ry
    obtain ⟨h0, xs, hd, kx⟩ := dict_now I sm ha re
    have rk := p1.now sm (kD_notdict hk)
    have z := kx_at (X := X) (F := F) ky kx re
    refine notIn_K (hu9 hu) (kis_of I (Same.refl _) hk rk rx) h0 hd ⟨.bl _, H, I.tok _, rfl, ?_⟩
    have e : (atK xs ky).isSome = (getKD kvs ky).isSome := by
      revert z
      cases getKD kvs ky with
      | none => intro z; rw [z.1]; rfl
      | some d => rintro ⟨v', u', z1, _⟩; rw [z1]; rfl
    rw [e]
    have := k (.bl (true ^^ (getKD kvs ky).isSome)) F H (.refl sm) (.bl _)
    rwa [Bool.true_xor] at this
  · cases hg
end
end PD

/-! PD13: the rules for dicts: d[k], in, len, truth, get, d[k] = v, displays, what is walked. -/
namespace PD
open PySem PySem.Spec PyProof.Rows L2
section
variable {X : Cx} {e a b : Expr} {es : List Expr} {pos p : Pos} {f fa fb : FE} {fs : FA}
/-! ### look-ups -/
theorem x_dix (hu : X.A.units + 64 < cLine) (ha : DP X a fa) (hb : DP X b fb) (hs : PlainIx b := by exact fun _ _ => rfl) : DE X (.Subscript a b pos) (b2 dixD fa fb) := de_ix (ix_dixD hu) ha hb hs
theorem x_din (hu : X.A.units + 64 < cLine) (ha : DP X a fa) (hb : DP X b fb) (hm : behindInMarks .In b = false := by rfl) : DE X (.Compare a [.In] [b] pos) (b2 (dinD false) fa fb) := de_cmp (op_dinD hu) ha hb hm
theorem x_dnin (hu : X.A.units + 64 < cLine) (ha : DP X a fa) (hb : DP X b fb) (hm : behindInMarks .NotIn b = false := by rfl) : DE X (.Compare a [.NotIn] [b] pos) (b2 (dinD true) fa fb) := de_cmp (op_dninD hu) ha hb hm
theorem t_din (hu : X.A.units + 64 < cLine) (ha : DP X a fa) (hb : DP X b fb) (hm : behindInMarks .In b = false := by rfl) : DT X (.Compare a [.In] [b] pos) (tc (dinD false) fa fb) := dt_cmp (op_dinD hu) ha hb hm
theorem t_dnin (hu : X.A.units + 64 < cLine) (ha : DP X a fa) (hb : DP X b fb) (hm : behindInMarks .NotIn b = false := by rfl) : DT X (.Compare a [.NotIn] [b] pos) (tc (dinD true) fa fb) := dt_cmp (op_dninD hu) ha hb hm
/-! ### len, truth -/
section
variable {prog : Program} {w : World} {A : Around} {E : Value → Shared → Prop} {s : Shared} {d : Addr} {xs : KVs}
theorem len_body_K {Q : Value → Shared → Prop} (hd : (d == sysModules) = false) (hm : DictK w s.heap d xs) (hfit : (xs.length : Int) < 2 ^ 63)
    (h : Q (.int xs.length (s.toks + 1)) { s with toks := s.toks + 1 + 1 }) : wpAny (model prog w) A (Builtin.«len» ⟨[.ref d], []⟩) (fun fin s' => ∃ r, fin = .done (.ret r) ∧ Q r s') E s := by
  unfold Builtin.«len»
  refine wpAny_bind (m := oneArg "len" _) (wpAny_pure ?_)
  have mt : MeetsIn prog w (Builtin.«dict.__len__» ⟨[.ref d], []⟩) (fun _ R s => ∃ xs, DictK w s.heap d xs ∧ R (.ok (.ret (.int xs.length s.toks))) { s with toks := s.toks + 1 }) :=
    .of_wp fun A R s ⟨xs, hm, h⟩ => by
      obtain ⟨o, es, ep, ho, hc, hdat, he, hk, hn⟩ := hm
      show wpAny _ _ (dictSize d >>= _) _ _ s
      unfold dictSize
      refine wpAny_bind (wpAny_bind (wpAny_dictEntries ho hdat (wpAny_pure ?_)))
      show wpAny _ _ (Builtin.Dict.pendingCount d >>= _) _ _ s
      refine wpAny_bind (wpAny_pendingCount_other hd ?_)
      refine wpAny_ret_mkInt ?_
      rw [Nat.add_zero, size_of_entK he]; exact h
  refine wpAny_bind (m := callSpecial? (.ref d) (Str.ofString "__len__")) (wpAny_callSpecial?_slot (name := Str.ofString "__len__") hm.typeIs F.slot_dict_len
    (call_meetsIn F.slot_dict_len hm.typeIs F.entry_dict_len (F.args_dict_len_1 _) mt ⟨xs, hm, ?_⟩))
  show wpAny _ _ _ _ _ { s with toks := s.toks + 1 }
  refine wpAny_bind (wpAny_holding (wpAny_pure ?_))
  refine wpAny_bind (wpAny_letGo ?_)
  show wpAny _ _ (if ((xs.length : Nat) : Int) < 0 then _ else _) _ _ _
  rw [if_neg (by omega)]
  show wpAny _ _ (if ((xs.length : Nat) : Int) ≥ 2 ^ 63 then _ else _) _ _ _
  rw [if_neg (by omega)]
  exact wpAny_bind (wpAny_mkInt (wpAny_pure ⟨_, rfl, h⟩))
theorem len_K {Q : Value → Shared → Prop} (hd : (d == sysModules) = false) (hm : DictK w s.heap d xs) (hfit : (xs.length : Int) < 2 ^ 63)
    (h : Q (.int xs.length (s.toks + 1)) { s with toks := s.toks + 1 + 1 }) : wpAny (model prog w) A (call (.builtin "len") [.ref d]) Q E s :=
  Calls.call_function_entry kind_len plain_len entry_len (args_len1 _) (len_body_K hd hm hfit h)
theorem truthy_K {Q : Bool → Shared → Prop} (hd : (d == sysModules) = false) (hm : DictK w s.heap d xs) (hfit : (xs.length : Int) < 2 ^ 63)
    (h : Q (!xs.isEmpty) { s with toks := s.toks + 1 + 1 }) : wpAny (model prog w) A (truthy (.ref d)) Q E s := by
  have hne : ((xs.length : Int) != 0) = !xs.isEmpty := by cases xs <;> simp <;> omega
  have key : wpAny (model prog w) A (runValue (.builtin "len" ⟨[.ref d], []⟩)) (fun r s' => r = .int xs.length (s.toks + 1) ∧ Q (!xs.isEmpty) s') E s := by
    refine wpAny_runValue (codeAny_builtin entry_len ?_)
    rw [Around.under_plainId plain_len _]
    exact wpAny_mono (len_body_K (Q := fun r s' => r = .int xs.length (s.toks + 1) ∧ Q (!xs.isEmpty) s') hd hm hfit ⟨rfl, h⟩)
      (fun fin s' h' => by obtain ⟨r, rfl, hq⟩ := h'; exact hq) fun _ _ e => e
  unfold truthy
  first
    | refine wpAny_bind (wpAny_callSpecial?_none (name := Str.ofString "__bool__") hm.typeIs noBool_dict ?_)
    | refine wpAny_bind (wpAny_pure (wpAny_bind (wpAny_callSpecial?_none (name := Str.ofString "__bool__") hm.typeIs noBool_dict ?_)))
  first
    | refine wpAny_bind (wpAny_specialOf (name := Str.ofString "__len__") hm.typeIs F.slot_dict_len.lookup ?_)
    | refine wpAny_bind (wpAny_pure (wpAny_bind (wpAny_specialOf (name := Str.ofString "__len__") hm.typeIs F.slot_dict_len.lookup ?_)))
  first
    | exact wpAny_bind (wpAny_mono key (fun r s' h' => by obtain ⟨rfl, hq⟩ := h'; exact wpAny_pure (hne ▸ hq)) fun _ _ e => e)
    | exact wpAny_bind (wpAny_pure (wpAny_bind (wpAny_mono key (fun r s' h' => by obtain ⟨rfl, hq⟩ := h'; exact wpAny_pure (hne ▸ hq)) fun _ _ e => e)))
end
def dlenD : List D → Option D
  | [.dict kvs] => if kvs.length ≤ 16777216 then some (.int kvs.length) else none
  | _ => none
theorem call_dlenD : CallD X (.builtin "len") dlenD := by
  intro pins s σ H vs us Q I rv h
  obtain ⟨F, ds, r, sm, p, hg, k⟩ := h
  unfold dlenD at hg
  split at hg
  · split at hg
    · rename_i kvs hz
      cases hg
      obtain ⟨v, rfl, p1⟩ := p.one
      obtain ⟨a, L, rfl, ha, re⟩ := p1.dct_inv sm
      obtain ⟨u, rfl, ru⟩ := vals1 rv
      cases ru
      obtain ⟨h0, xs, hd, kx⟩ := dict_now I sm ha re
      have hl : xs.length = kvs.length := by rw [← kx_len kx, repE_len re]
      refine len_K h0 hd (by omega) ⟨.int kvs.length, H, I.tok _, ⟨_, by rw [hl]⟩, k _ F H (.refl sm) (.int _)⟩
    · cases hg
  · cases hg
theorem x_dlen (m : X.mg "len" = none) (h : DA X (e :: es) fs) (hg : Gl X "len" := by rfl) (he : starEach (e :: es) X.env = (false, eval e X.env) :: starEach es X.env := by rfl) (hpl : (backTo pos (starEach es X.env)).any (·.1) = false := by rfl) : DE X (.Call (.Name "len" p) (e :: es) [] pos) (cl dlenD fs) := de_callB call_dlenD hg m bt_len h (by decide) (by decide) he hpl
def dtruD : D → Option Bool
  | .dict kvs => if kvs.length ≤ 16777216 then some (!kvs.isEmpty) else none
  | _ => none
def tDtr (w : World) (te : TE) (K : PySem.W.Frag) : TT := fun σ H Q => te σ H fun x H1 => ∃ F kvs, Same F H1 ∧ PRep w K F H1 x (.dict kvs) ∧ kvs.length ≤ 16777216 ∧ Q (!kvs.isEmpty) H1
theorem t_dt (h : DP X e f) (he : ∀ whole, isTrue e X.env whole = (do let v ← whole; standAt e.pos; holding [v] (truthy v)) := by intro _; rfl) : DT X e (fun ρ => (f ρ).bind dtruD) := by
  obtain ⟨t, p, q⟩ := h.ex
  have pt : PT X e (tDtr X.w t X.K) := by
    refine ⟨fun pins s σ H Q I hw => ?_⟩
    rw [he]
    refine wpAny_bind (thn (p.run pins s σ H _ I hw) fun v s1 ⟨x, H1, I1, r1, F, kvs, sm, pr, hl, q1⟩ => wpAny_bind (wpAny_standAt (wpAny_holding ?_)))
    obtain ⟨a, L, rfl, ha, re⟩ := pr.dct_inv sm
    cases r1
    obtain ⟨h0, xs, hd, kx⟩ := dict_now I1 sm ha re
    have e1 : xs.length = kvs.length := by rw [← kx_len kx, repE_len re]
    refine truthy_K h0 hd (by omega) ⟨H1, I1.tok _, ?_⟩
    have e2 : xs.isEmpty = kvs.isEmpty := by
      cases xs <;> cases kvs <;> first | rfl | (simp at e1)
    rw [e2]
    exact q1
  refine ⟨_, pt, fun F σ H ρ d Q sl hf k => ?_⟩
  obtain ⟨x, hx, hf⟩ := Option.bind_eq_some_iff.mp hf
  unfold dtruD at hf
  split at hf
  · split at hf
    · rename_i kvs hz
      cases hf
      exact q F σ H ρ _ _ sl hx fun v F1 H1 e1 r1 => ⟨F1, kvs, e1.s, r1, hz, k F1 H1 e1⟩
    · cases hf
  · cases hf
/-! ### d.get -/
theorem reps3 {F : Hp} {vs : List V} {d d' : D} (r : Reps X.w X.K F vs [d, d']) : ∃ v u, vs = [v, u] ∧ Rep X.w X.K F v d ∧ Rep X.w X.K F u d' := reps2 r
def dgetF : D → List D → Option D
  | .dict kvs, [kd, x] => (kD kd).map fun k => (getKD kvs k).getD x
  | .dict kvs, [kd] => (kD kd).map fun k => (getKD kvs k).getD .none
  | _, _ => none
theorem mt_dget (hu : X.A.units + 64 < cLine) {pins : List (Addr × Obj)} {s : Shared} {σ : L2.St} {H F : Hp} {x : V} {v : Value} {xs : List V} {us : List Value} {Q : VK} {d0 : D} {ds : List D} {r : D} (I : Inv X pins σ H s) (rx : RelV x v) (rv : Vals xs us) (sm : Same F H) (p1 : PRep X.w X.K F H x d0) (pr : Reps X.w X.K F xs ds) (hg : dgetF d0 ds = some r)
    (k : ∀ v F' H', Ext F H F' H' → Rep X.w X.K F' v r → Q v H') : wpAny (model X.prog X.w) X.A (call (.builtin "dict.get") (v :: us)) (EP X pins σ Q) X.xe s := by
  unfold dgetF at hg
  split at hg
  · rename_i kvs kd d
    obtain ⟨ky, hk, rfl⟩ := Option.map_eq_some_iff.mp hg
    obtain ⟨y0, z0, rfl, p2, p3⟩ := reps2 pr
    obtain ⟨u1, u2, rfl, ru1, ru2⟩ := vals2 rv
    obtain ⟨a, L, rfl, ha, re⟩ := p1.dct_inv sm
    obtain rfl : v = Value.ref a := rx
    obtain ⟨h0, ts, hd, kx⟩ := dict_now I sm ha re
    have z := kx_at (X := X) (F := F) ky kx re
    refine getOr_K (hu9 hu) (kis_of I sm hk p2 ru1) h0 hd ?_
    cases eg : getKD kvs ky with
    | none =>
      rw [eg] at z k
      rw [z.1]
      exact ⟨_, H, I.tok _, ru2, k _ F H (.refl sm) p3⟩
    | some d' =>
      rw [eg] at z k
      obtain ⟨vv, uu, z1, z2, z3, z4⟩ := z
      rw [z1]
      exact ⟨vv, H, I.tok _, z3, k vv F H (.refl sm) z4⟩
  · rename_i kvs kd
    obtain ⟨ky, hk, rfl⟩ := Option.map_eq_some_iff.mp hg
    obtain ⟨y0, rfl, p2⟩ := reps1 pr
    obtain ⟨u1, rfl, ru1⟩ := vals1 rv
    obtain ⟨a, L, rfl, ha, re⟩ := p1.dct_inv sm
    obtain rfl : v = Value.ref a := rx
    obtain ⟨h0, ts, hd, kx⟩ := dict_now I sm ha re
    have z := kx_at (X := X) (F := F) ky kx re
    refine getK1 (hu9 hu) (kis_of I sm hk p2 ru1) h0 hd ?_
    cases eg : getKD kvs ky with
    | none =>
      rw [eg] at z k
      rw [z.1]
      exact ⟨.non, H, I.tok _, rfl, k _ F H (.refl sm) .non⟩
    | some d' =>
      rw [eg] at z k
      obtain ⟨vv, uu, z1, z2, z3, z4⟩ := z
      rw [z1]
      exact ⟨vv, H, I.tok _, z3, k vv F H (.refl sm) z4⟩
  · cases hg
def b2l (g : D → List D → Option D) (fo : FE) (fs : FA) : FE := fun ρ => (fo ρ).bind fun x => (fs ρ).bind fun ds => g x ds
/-- d.get(k), d.get(k, x) -/
theorem x_dget {o : Expr} {fo : FE} {apos cpos : Pos} (hu : X.A.units + 64 < cLine) (ho : DP X o fo) (ha : DAE X (e :: es) fs)
    (hbase : attributeBase o "get" X.env (eval o X.env) = eval o X.env := by rfl)
    (hfew : ((backTo cpos (starEach (e :: es) X.env)).all (fun x => !x.1) && (backToKw cpos (keywordEach [] X.env)).all (fun x => x.1.isSome)
      && decide ((e :: es).length + ([] : List Keyword).length + (if ([] : List Keyword).isEmpty then 0 else 1) < 30)) = true := by rfl)
    (hline : (apos.endLine == cpos.line) = true := by rfl) (hs : starEach (e :: es) X.env = (false, eval e X.env) :: starEach es X.env := by rfl) (hplain : (backTo cpos (starEach es X.env)).any (·.1) = false := by rfl) :
    DE X (.Call (.Attribute o "get" apos) (e :: es) [] cpos) (b2l dgetF fo fs) := by
  obtain ⟨t, p, q⟩ := ho.ex
  obtain ⟨t2, p2, q2⟩ := ha.ex
  have pe : PE X (.Call (.Attribute o "get" apos) (e :: es) [] cpos) (fun σ H Q => t σ H fun x H1 => (∃ F kvs, Same F H1 ∧ PRep X.w X.K F H1 x (.dict kvs)) ∧ t2 σ H1 fun vs H2 =>
      ∃ F d0 ds r, Same F H2 ∧ PRep X.w X.K F H2 x d0 ∧ Reps X.w X.K F vs ds ∧ dgetF d0 ds = some r ∧ ∀ v F' H', Ext F H2 F' H' → Rep X.w X.K F' v r → Q v H') := by
    refine ⟨fun pins s σ H Q I h => ?_⟩
    refine wpAny_Call_method_late hbase hfew hline rfl (thn (p.run pins s σ H _ I h) fun v s1 ⟨x, H1, I1, r1, ⟨F, kvs, sm, pr⟩, q1⟩ => ?_)
    obtain ⟨a, L, rfl, ha1, re⟩ := pr.dct_inv sm
    obtain rfl : v = Value.ref a := r1
    obtain ⟨h0, xs, hd, kx⟩ := dict_now I1 sm ha1 re
    refine ⟨"dict", "dict.get", PySem.F.plainAttrs_dict, PySem.F.slot_dict_get, PySem.F.type_dict_get, hd.typeIs, fun b z => ?_, ?_⟩
    · cases z
      obtain ⟨o', es', ep', h1, h2, _⟩ := hd
      exact ⟨o', h1, h2.2.1⟩
    · have hA := p2.run cpos pins s1 σ H1 _ I1 q1
      rw [hs] at hA ⊢
      refine Calls.callWith_builtin (by show (false || (backTo cpos (starEach es X.env)).any (·.1)) = false; rw [hplain] <;> rfl) (Calls.evalArgs_plain ?_)
      refine thn hA fun us s2 ⟨vs, H2, I2, r2, F2, d0, ds, r, sm2, pr2, rs, hg, k⟩ => ?_
      exact mt_dget (x := .ref a) hu I2 rfl r2 sm2 pr2 rs hg k
  refine ⟨_, pe, fun F σ H ρ d Q sl hf k => ?_⟩
  obtain ⟨x, hx, hf1⟩ := Option.bind_eq_some_iff.mp hf
  obtain ⟨ds, hds, hg⟩ := Option.bind_eq_some_iff.mp hf1
  refine q F σ H ρ x _ sl hx fun v F1 H1 e1 r1 => ?_
  have isd : ∃ kvs, x = .dict kvs := by
    unfold dgetF at hg
    split at hg
    · exact ⟨_, rfl⟩
    · exact ⟨_, rfl⟩
    · cases hg
  obtain ⟨kvs, rfl⟩ := isd
  refine ⟨⟨F1, kvs, e1.s, r1⟩, ?_⟩
  refine q2 F1 σ H1 ρ ds _ (sl.mono e1) hds fun vs F2 H2 e2 r2 => ?_
  exact ⟨F2, _, ds, d, e2.s, r1.mono e2, r2, hg, fun v' F' H' e3 r => k v' F' H' ((e1.trans e2).trans e3) r⟩
/-! ### d[k] = v -/
theorem atL_isSome {F : Hp} (k : NestedKey) : ∀ {L : DL} {kvs : KV2}, RepE X.w X.K F L kvs → (atL L k).isSome = (getKD kvs k).isSome
  | _, _, .nil => rfl
  | (k0, kv, vv) :: L, (kd, vd) :: kvs, .cons a b c d => by
    have ih := atL_isSome k d
    by_cases e : k0 = k
    · subst e
      simp [atL, getKD, a]
    · have : ¬ (kD kd = some k) := fun z => e (by rw [a] at z; exact Option.some.inj z)
      simp only [atL, getKD, List.find?_cons, e, this, decide_false] at ih ⊢
      exact ih
def rSetK (w : World) (K : PySem.W.Frag) : TSet := fun o i v H Q => ∃ F a L kvs kd k vd, Same F H ∧ o = .ref a ∧ H a = some (dictO w a L) ∧ RepE w K F L kvs ∧ Rep w K F i kd ∧ kD kd = some k ∧ Rep w K F v vd ∧ kvs.length < 16777216 ∧ Q (upd H a (dictO w a (putL' L i k v)))
theorem set_K (hu : X.A.units + 64 < cLine) : PSet X (rSetK X.w X.K) := by
  intro pins s σ H o i v ov iv u Q I ro ri rv h
  obtain ⟨F, a, L, kvs, kd, k, vd, sm, rfl, ha, re, rk, hk, rvd, hl, q⟩ := h
  cases ro
  obtain ⟨h0, xs, hd, kx⟩ := dict_now I sm (.inl ha) re
  have e1 : xs.length = kvs.length := by rw [← kx_len kx, repE_len re]
  have p := kx_put kx re hk rk rvd ri rv
  refine setItem_K (hu9 hu) (kis_of I sm hk rk ri) hd (fun h' hd' sb => ?_) (by rw [sizeLine_eq]; omega)
  have he : ∃ q, h'.get? a = some q := let ⟨o, _, _, ho, _⟩ := hd'; ⟨o, ho⟩
  exact ⟨_, I.write (x := a) (e := a) (t' := s.toks + k.draws) (by rw [ha]; exact True.intro) (.inl rfl) (fun b x hb e => (sb.2 b hb).trans e) he (dictO_ok h0 hd' p.1), q⟩
def putDF (i : Nat) (f g : FE) (ρ : Env) : Option Out := (f ρ).bind fun v => (g ρ).bind fun kd => (kD kd).bind fun k => match ρ[i]? with
  | some (.od kvs) => if kvs.length < 16777216 then some (.nx (ρ.set i (.od (putKD kvs kd k v)))) else none
  | _ => none
theorem ds_putD {i : Nat} {l ix : Expr} {spos : Pos} {f g : FE} (hu : X.A.units + 64 < cLine) (hl : PE X l (tVar i)) (he : DE X e f) (hi : DE X ix g)
    (ha : ∀ v, assign (.Subscript l ix spos) X.env v = (do
      let ov ← holding [v] (eval l X.env)
      let iv ← holding [v, ov] (eval ix X.env)
      standAt spos
      holding [v, ov, iv] (setItem ov iv v)
      release [v, ov, iv] []) := by intro _; rfl)
    (hs : swapsWithSole [.Subscript l ix spos] e pos.line X.env = pure false := by rfl) (hw : swappedStores [.Subscript l ix spos] e X.env = pure none := by rfl)
    (h1 : (assignEach [.Subscript l ix spos] X.env).map (·.2) = [assign (.Subscript l ix spos) X.env] := by rfl) :
    DS X (.Assign [.Subscript l ix spos] e pos) (putDF i f g) := by
  obtain ⟨t, p, q⟩ := he.ex
  obtain ⟨t2, p2, q2⟩ := hi.ex
  refine ⟨_, ps_asg p (pg_sub hl p2 (set_K hu) ha) hs hw h1, fun F0 B F σ H ρ o De en hgg k => ?_⟩
  obtain ⟨d, hd, h2⟩ := Option.bind_eq_some_iff.mp hgg
  obtain ⟨x, hx, h3⟩ := Option.bind_eq_some_iff.mp h2
  obtain ⟨ky, hky, h4⟩ := Option.bind_eq_some_iff.mp h3
  split at h4
  · rename_i kvs hs
    split at h4
    · rename_i hl
      cases h4
      obtain ⟨a, L, g1, g2, g3, g4⟩ := en.sl.slot i _ hs
      refine q F σ H ρ d _ en.sl hd fun v F1 H1 e1 r1 => ⟨_, g1, q2 F1 σ H1 ρ x _ (en.sl.mono e1) hx fun u F2 H2 e2 r2 => ?_⟩
      have e12 := e1.trans e2
      refine ⟨F2, a, L, kvs, x, ky, d, e12.s, rfl, e12.h _ _ g3, g4.mono e12.f, r2, hky, r1.mono e2.f, hl, ?_⟩
      have re := g4.mono e12.f
      refine k F2 σ _ e12.f ((en.mono e12).wrOwn hs rfl g1 ⟨a, _, rfl, e12.none_of g3 g2, upd_same, ?_⟩)
      -- the table's data behind the store
      unfold putL' putKD
      have z : (atL L ky).isSome = (getKD kvs ky).isSome := atL_isSome ky re
      rw [z]
      split
      · exact rep_map ky (r1.mono e2.f) re
      · exact rep_append re hky r2 (r1.mono e2.f)
    · cases h4
  · cases h4
end
end PD

/-! PD14: displays of dicts; what is walked of a dict; comprehensions of dicts. -/
namespace PD
open PySem PySem.Spec PyProof.Rows L2
section
variable {X : Cx} {e : Expr} {pos : Pos} {f : FE}
/-! ### {} -/
def tDNewX (w : World) : TE := fun _ H Q => ∀ p, H p = none → Q (.ref p) (upd H p (dictO w p []))
theorem pe_dnewX : PE X (.Dict [] [] pos) (tDNewX X.w) := ⟨fun pins s σ H Q I h =>
  wpAny_Dict_empty ⟨.ref s.heap.objs.size, _, I.laid (a := s.heap.objs.size) (o := dictO X.w s.heap.objs.size []) (t' := s.toks) (fun _ _ q => Heap.get?_push_of_some _ q) (Nat.le_refl _) (dict_empty s.heap I.big), rfl, h _ (I.hok.fresh (Nat.le_refl _))⟩⟩
def d0F : Env → Option KV2 := fun _ => some []
theorem Ext.own {F H F' H' : Hp} {a : Addr} {o : HO} (x : Ext F H F' H') (n : H' a = none) : Ext F H F' (upd H' a o) :=
  ⟨x.f, x.h.trans (same_upd n), x.s.trans (same_upd n), x.n⟩
theorem d_nil : FD X (.Dict [] [] pos) d0F := by
  refine ⟨_, pe_dnewX, fun F σ H ρ kvs Q sl hf k p hp => ?_⟩
  cases hf
  exact k p [] F _ ((Ext.refl sl.same).own hp) hp (sl.same.free hp) upd_same .nil
/-! ### {k: v} -/
theorem wpAny_subDict1 {prog : Program} {w : World} {A : Around} {E : Value → Shared → Prop} {s : Shared} {pairs : List (Sem Value × Sem Value)} {Q : Addr → Shared → Prop} (hlen : pairs.length = 1) (hu : A.units + 8 < cLine)
    (h : wpAny (model prog w) A (evalPairs pairs) (fun vs s₁ => ∃ key v k, vs = [(key, v)] ∧ KIs s₁.heap k key ∧ DictK w s₁.heap s.heap.objs.size [] ∧
      ∀ h' tk, DictK w h' s.heap.objs.size [(k, key, v)] → Heap.SameBut s.heap.objs.size s₁.heap h' → Q s.heap.objs.size { s₁ with heap := h', toks := tk }) E
      { s with heap := s.heap.push { cls := .type "dict", data := .dict #[] } }) :
    wpAny (model prog w) A (subDict pairs) Q E s := by
  unfold subDict
  refine wpAny_bind (wpAny_alloc ?_)
  refine wpAny_bind (wpAny_holding ?_)
  rw [if_pos (by omega)]
  refine wpAny_bind (wpAny_mono h (fun vs s₁ h₁ => ?_) fun _ _ e => e)
  obtain ⟨key, v, k, rfl, hk, hd, hQ⟩ := h₁
  refine wpAny_holding ?_
  rw [List.forIn_cons]
  refine wpAny_bind (wpAny_bind (wpAny_bind (dictSet_K hu hk hd (fun h' hd' sb => wpAny_pure ?_) (by rw [sizeLine_eq]; decide))))
  dsimp only
  rw [List.forIn_nil]
  exact wpAny_pure (wpAny_pure (wpAny_pure (hQ h' _ (by simpa [storeK, atK] using hd') sb)))
def d1F (f g : FE) : Env → Option KV2 := fun ρ => (f ρ).bind fun kd => (g ρ).bind fun v => (kD kd).map fun _ => [(kd, v)]
theorem wpAny_Dict1 {prog : Program} {w : World} {A : Around} {E : Value → Shared → Prop} {s : Shared} {env : PySem.Env} {ek ev : Expr} {Q : Value → Shared → Prop} (hu : A.units + 8 < cLine)
    (h : wpAny (model prog w) A (evalPairs (pairTrees [some ek] [ev] env pos)) (fun vs s₁ => ∃ key v k, vs = [(key, v)] ∧ KIs s₁.heap k key ∧ DictK w s₁.heap s.heap.objs.size [] ∧
      ∀ h' tk, DictK w h' s.heap.objs.size [(k, key, v)] → Heap.SameBut s.heap.objs.size s₁.heap h' → Q (.ref s.heap.objs.size) { s₁ with heap := h', toks := tk }) E
      { s with heap := s.heap.push { cls := .type "dict", data := .dict #[] } }) :
    wpAny (model prog w) A (eval (.Dict [some ek] [ev] pos) env) Q E s := by
  rw [arm_eval_Dict, zip_pairTrees [some ek] [ev] env pos rfl rfl, dictDisplay_pairs _ (by simp [pairTrees]) (by simp [pairTrees])]
  exact wpAny_bind (wpAny_standAt (wpAny_bind (wpAny_subDict1 (Q := fun d s' => wpAny (model prog w) A (pure (Value.ref d)) Q E s') (by simp [pairTrees]) hu
    (wpAny_mono h (fun vs s₁ h₁ => by obtain ⟨key, v, k, e, hc, hm, hq⟩ := h₁; exact ⟨key, v, k, e, hc, hm, fun h' tk a b => wpAny_pure (hq h' tk a b)⟩) fun _ _ e => e))))
def tD1 (w : World) (K : PySem.W.Frag) (tk tv : TE) : TE := fun σ H Q => ∀ p, H p = none → tk σ (upd H p (dictO w p [])) fun x H1 => tv σ H1 fun y H2 =>
  ∃ F kd k vd, Same F H2 ∧ H2 p = some (dictO w p []) ∧ Rep w K F x kd ∧ kD kd = some k ∧ Rep w K F y vd ∧ Q (.ref p) (upd H2 p (dictO w p [(k, x, y)]))
theorem pe_d1 {ek ev : Expr} {tk tv : TE} (hu : X.A.units + 64 < cLine) (hk : PE X ek tk) (hv : PE X ev tv) : PE X (.Dict [some ek] [ev] pos) (tD1 X.w X.K tk tv) := by
  refine ⟨fun pins s σ H Q I q => ?_⟩
  have hn := I.hok.fresh (Nat.le_refl s.heap.objs.size)
  have I1 := I.laid (a := s.heap.objs.size) (o := dictO X.w s.heap.objs.size []) (h' := s.heap.push { cls := .type "dict", data := .dict #[] }) (t' := s.toks) (fun _ _ q => Heap.get?_push_of_some _ q) (Nat.le_refl _) (dict_empty s.heap I.big)
  refine wpAny_Dict1 (by omega) (pairTrees_cons_walk (thn (hk.run pins _ σ _ _ I1 (q _ hn)) fun u s1 ⟨x, H1, I1, rx, q1⟩ => thn (hv.run pins s1 σ H1 _ I1 q1) fun w2 s2 ⟨y, H2, I2, ry, q2⟩ => pairTrees_nil_walk ?_))
  obtain ⟨F, kd, k, vd, sm, hp, r1, hk, r2, qq⟩ := q2
  obtain ⟨h0, xs, hd, kx⟩ := dict_now (kvs := []) I2 sm (.inl hp) .nil
  cases kx
  refine ⟨u, w2, k, rfl, kis_of I2 sm hk r1 rx, hd, fun h' tk' hd' sb => ?_⟩
  have he : ∃ q, h'.get? s.heap.objs.size = some q := let ⟨o, _, _, ho, _⟩ := hd'; ⟨o, ho⟩
  exact ⟨.ref s.heap.objs.size, _, I2.write (x := s.heap.objs.size) (e := s.heap.objs.size) (t' := tk') (by rw [hp]; exact True.intro) (.inl rfl) (fun b x hb e => (sb.2 b hb).trans e) he (dictO_ok h0 hd' (.cons ⟨rfl, rx, ry⟩ .nil)), rfl, qq⟩
theorem d_one {ek ev : Expr} {f g : FE} (hu : X.A.units + 64 < cLine) (hk : DE X ek f) (hv : DE X ev g) : FD X (.Dict [some ek] [ev] pos) (d1F f g) := by
  obtain ⟨t, p, q⟩ := hk.ex
  obtain ⟨t2, p2, q2⟩ := hv.ex
  refine ⟨_, pe_d1 hu p p2, fun F σ H ρ kvs Q sl hf k a ha => ?_⟩
  obtain ⟨kd, hkd, h2⟩ := Option.bind_eq_some_iff.mp hf
  obtain ⟨vd, hvd, h3⟩ := Option.bind_eq_some_iff.mp h2
  obtain ⟨ky, hky, rfl⟩ := Option.map_eq_some_iff.mp h3
  have x0 : Ext F H F (upd H a (dictO X.w a [])) := (Ext.refl sl.same).own ha
  refine q F σ _ ρ kd _ (sl.mono x0) hkd fun x F1 H1 e1 r1 => q2 F1 σ H1 ρ vd _ ((sl.mono x0).mono e1) hvd fun y F2 H2 e2 r2 => ?_
  have e12 := e1.trans e2
  have hp : H2 a = some (dictO X.w a []) := e12.h _ _ upd_same
  have nf : F2 a = none := e12.none_of upd_same (sl.same.free ha)
  refine ⟨F2, kd, ky, vd, e12.s, hp, r1.mono e2.f, hky, r2, ?_⟩
  refine k a [(ky, x, y)] F2 _ ⟨e12.f, fun b u z => ?_, fun b u z => ?_, fun b hb => ?_⟩ ha nf upd_same (.cons hky (r1.mono e2.f) r2 .nil)
  · rw [upd_ne (ne_of_none z ha)]; exact e12.h _ _ (by rw [upd_ne (ne_of_none z ha)]; exact z)
  · rw [upd_ne (ne_of_none z nf)]; exact e12.s _ _ z
  · exact e12.n b (by
      by_cases hba : b = a
      · subst hba; exact absurd ha hb
      · rw [upd_ne hba]; exact hb)
/-! ### what is walked: keys, items of a locked dict -/
theorem Inv.frzX {pins : List (Addr × Obj)} {σ : L2.St} {H : Hp} {s : Shared} {d : Addr} {o : Obj} {L : DL} (I : Inv X pins σ H s) (h : H d = some (.frz o (dictO X.w d L))) :
    (d == sysModules) = false ∧ s.heap.get? d = some o ∧ o.ExactDict ∧ ∃ (es : Array DictEntry) (ep : Nat), o.data = .dict es ep ∧ es.size = L.length ∧
      ∀ (i : Nat) l, L[i]? = some l → ∃ en, es[i]? = some en ∧ RelV l.2.1 en.key ∧ RelV l.2.2 en.val := by
  obtain ⟨hd, ⟨h0, o', es, ep, h1, h2, h3, h4, h5⟩, _⟩ := I.hok d _ h
  rw [hd] at h1
  cases h1
  refine ⟨h0, hd, h2, es, ep, h3, by rw [h4.length, Array.length_toList], fun i l hl => ?_⟩
  obtain ⟨b, hb, r⟩ := paired_get h4 hl
  exact ⟨b, by rw [← Array.getElem?_toList]; exact hb, r.2.1, r.2.2⟩
def ItkX (w : World) (d : Addr) (o : Obj) (L : DL) : It :=
  ⟨fun i H => H d = some (.frz o (dictO w d L)) ∧ i < L.length, fun i H x H' => H' = H ∧ ∃ l, L[i]? = some l ∧ x = l.2.1, fun i H => H d = some (.frz o (dictO w d L)) ∧ L.length ≤ i⟩
def ItiX (w : World) (d : Addr) (o : Obj) (L : DL) : It :=
  ⟨fun i H => H d = some (.frz o (dictO w d L)) ∧ i < L.length, fun i H x H' => ∃ T l, L[i]? = some l ∧ x = .ref T ∧ H T = none ∧ H' = upd H T (.tup [l.2.1, l.2.2]), fun i H => H d = some (.frz o (dictO w d L)) ∧ L.length ≤ i⟩
theorem turn_keysX {P : Program} {w : World} {K : PySem.W.Frag} {tg : Expr} {d : Addr} {o : Obj} {es : Array DictEntry} {ep : Nat} {L : DL} (it : Addr) (hod : o.data = .dict es ep) : Turn P w K tg (ItkX w d o L) [it] it (fun i h => h.IsKeyIter it d i L.length ep) where
  mem := by simp
  obj := fun i h st b hb => by
    have e : b = it := by simpa using hb
    subst e
    obtain ⟨oi, e, c, dd⟩ := st
    exact ⟨oi, e, fun v z => by rw [dd] at z; cases z⟩
  keep := fun i h h' st k => st.at fun oi e => k it (by simp) oi e
  item := by
    intro X hP hw hK hc i pins s σ H E I hf st hg
    subst hP hw hK
    obtain ⟨hd, hi⟩ := hg
    obtain ⟨f0, f1, f2, f3, f4, f5⟩ := hf it (by simp)
    obtain ⟨hs, hgd, hx, es', ep', hdt, hsz, ent⟩ := PD.Inv.frzX I hd
    obtain ⟨rfl, rfl⟩ := dict_ep hod hdt
    obtain ⟨l, hl⟩ : ∃ p, L[i]? = some p := ⟨L[i], List.getElem?_eq_getElem hi⟩
    obtain ⟨en, hen, hkey, hval⟩ := ent i l hl
    refine next_key_item st hgd hdt hsz hen fun h' st' sb => ?_
    have I1 : Inv X pins σ H { s with heap := h' } := I.turned (t' := s.toks) (fun b ob hb e => (sb.2 b hb).trans e) f0 f1 f3 f4 f5
    obtain ⟨oi, e, c, dd⟩ := id st'
    exact ⟨en.key, rfl, go_of (s := { s with heap := h' }) e c dd (by decide) ⟨l.2.1, H, I1, hkey, ⟨rfl, l, hl, rfl⟩, st', fun b hb => (hf b hb).1⟩⟩
  done := by
    intro X hP hw hK hc i pins s σ H E I hf st hg
    subst hP hw hK
    obtain ⟨hd, hi⟩ := hg
    obtain ⟨f0, f1, f2, f3, f4, f5⟩ := hf it (by simp)
    obtain ⟨hs, hgd, hx, es', ep', hdt, hsz, ent⟩ := PD.Inv.frzX I hd
    obtain ⟨rfl, rfl⟩ := dict_ep hod hdt
    exact next_key_end (I.ok.hd hc) st hgd hdt hsz hi fun h' eb => ⟨rfl, I.turned (t' := s.toks) (fun b ob hb e => eb b ob hb e) f0 f1 f3 f4 f5⟩
  self := fun A i s Q E st h => by
    refine wpAny_pyIter_slot st.typeIs F.slot_dict_keyiterator_iter (wpAny_call_entry F.slot_dict_keyiterator_iter st.typeIs F.entry_dict_keyiterator_iter ?_ (F.args_dict_keyiterator_iter_1 _))
    show wpAny _ _ (ret (.ref it)) _ _ s
    exact wpAny_pure ⟨_, rfl, "dict_keyiterator", _, st.typeIs, F.slot_dict_keyiterator_next.lookup, h⟩
theorem turn_itemsX {P : Program} {w : World} {K : PySem.W.Frag} {elts : List Expr} {kk : Nat} {tpos : Pos} {d : Addr} {o : Obj} {es : Array DictEntry} {ep : Nat} {L : DL} (it : Addr) (hod : o.data = .dict es ep) :
    Turn P w K (.Tuple elts kk tpos) (ItiX w d o L) [it] it (fun i h => ∃ ok ov, IsItemIter h it d i L.length ep ok ov) where
  mem := by simp
  obj := fun i h st b hb => by
    have e : b = it := by simpa using hb
    subst e
    obtain ⟨ok, ov, e⟩ := st
    exact ⟨_, e, fun v z => nomatch z⟩
  keep := fun i h h' st k => let ⟨ok, ov, e⟩ := st; ⟨ok, ov, k it (by simp) _ e⟩
  item := by
    intro X hP hw hK hc i pins s σ H E I hf st hg
    subst hP hw hK
    obtain ⟨hd, hi⟩ := hg
    obtain ⟨hs, hgd, hx, es', ep', hdt, hsz, ent⟩ := PD.Inv.frzX I hd
    obtain ⟨rfl, rfl⟩ := dict_ep hod hdt
    obtain ⟨l, hl⟩ : ∃ p, L[i]? = some p := ⟨L[i], List.getElem?_eq_getElem hi⟩
    obtain ⟨en, hen, hkey, hval⟩ := ent i l hl
    obtain ⟨ok, ov, he⟩ := st
    rw [← hsz] at he
    obtain ⟨hlt', een⟩ := Array.getElem?_eq_some_iff.mp hen
    have hlt : it < s.heap.objs.size := Heap.lt_size he
    refine wpAny_pyNext_items_item_raw he ⟨o, hgd, hx, hdt⟩ hlt' fun h' ho hT hz hk => ?_
    rw [een] at ho hT
    refine ⟨_, rfl, wpAny_letOwnedTupleGo_items (s := { s with heap := h' }) ho fun h'' he' sb => ?_⟩
    have hT2 : h''.get? s.heap.objs.size = some { cls := .type "tuple", data := .seq #[en.key, en.val] } := (sb.2 _ (Nat.ne_of_gt hlt)).trans hT
    have new : ObjOk X.prog X.w (upd H s.heap.objs.size (.tup [l.2.1, l.2.2])) h'' s.heap.objs.size (.tup [l.2.1, l.2.2]) :=
      ⟨by show 2 ≤ sizeLine; decide, [en.key, en.val], .cons hkey (.cons hval .nil), ⟨_, hT2, rfl, _, rfl⟩⟩
    have I1 : Inv X pins σ (upd H s.heap.objs.size (.tup [l.2.1, l.2.2])) { s with heap := h'' } :=
      I.turnedNew (t' := s.toks) (ch := [it]) (fun b ob hb e => (sb.2 b (by simpa using hb)).trans (hk b ob (by simpa using hb) e)) hf (Nat.le_refl _) new
    refine ⟨.ref s.heap.objs.size, _, I1, rfl, ⟨_, l, hl, rfl, I.hok.fresh (Nat.le_refl _), rfl⟩, ⟨en.key, en.val, ?_⟩, fun b hb => ?_⟩
    · rw [← hsz]; exact he'
    · have e : b = it := by simpa using hb
      rw [e, upd_ne (Nat.ne_of_lt hlt)]
      exact (hf it (by simp)).1
  done := by
    intro X hP hw hK hc i pins s σ H E I hf st hg
    subst hP hw hK
    obtain ⟨hd, hi⟩ := hg
    obtain ⟨f0, f1, f2, f3, f4, f5⟩ := hf it (by simp)
    obtain ⟨hs, hgd, hx, es', ep', hdt, hsz, ent⟩ := PD.Inv.frzX I hd
    obtain ⟨rfl, rfl⟩ := dict_ep hod hdt
    obtain ⟨ok, ov, he⟩ := st
    rw [← hsz] at he
    exact wpAny_pyNext_items_end_raw (I.ok.hd hc) he ⟨o, hgd, hx, hdt⟩ (by omega) fun h' eb => ⟨rfl, I.turned (t' := s.toks) (fun b ob hb e => eb b ob hb e) f0 f1 f3 f4 f5⟩
  self := fun A i s Q E st h => let ⟨_, _, e⟩ := st; PySem.W.kcp_self e h
def iKeysX (w : World) (td : TE) : TI := fun σ H R => td σ H fun x H1 => ∃ d o L, x = .ref d ∧ H1 d = some (.frz o (dictO w d L)) ∧ R (ItkX w d o L) H1
def iItemsX (w : World) (td : TE) : TI := fun σ H R => td σ H fun x H1 => ∃ d o L, x = .ref d ∧ H1 d = some (.frz o (dictO w d L)) ∧ R (ItiX w d o L) H1
variable {tg : Expr} {td : TE} {apos cpos : Pos}
theorem pi_keysX (he : PE X e td) : PI X tg e (iKeysX X.w td) := by
  refine ⟨fun pins s σ H R I h => ?_⟩
  refine thn (he.run pins s σ H _ I h) fun u s1 ⟨x, H1, I1, rx, d, o, L, ex, hd, q⟩ => ?_
  subst ex
  obtain rfl : u = Value.ref d := rx
  obtain ⟨hs, hgd, hx, es, ep, hdt, hsz, ent⟩ := PD.Inv.frzX I1 hd
  refine iter_keys hs hgd hx hdt (pi_one (tk := s1.toks) I1 _ (turn_keysX _ hdt) ⟨_, Heap.get?_push_size _ rfl, rfl, ?_⟩ q)
  rw [hsz] <;> rfl
theorem pi_itemsX {elts : List Expr} {kk : Nat} {tpos : Pos} (he : PE X e td) (hbase : attributeBase e "items" X.env (eval e X.env) = eval e X.env := by rfl) (hline : (apos.endLine == cpos.line) = true := by rfl) :
    PI X (.Tuple elts kk tpos) (.Call (.Attribute e "items" apos) [] [] cpos) (iItemsX X.w td) := by
  refine ⟨fun pins s σ H R I h => ?_⟩
  refine wpAny_Call_method (T := "dict") (id := "dict.items") hbase rfl hline F.plainAttrs_dict F.slot_dict_items F.type_dict_items (thn (he.run pins s σ H _ I h) fun u s1 ⟨x, H1, I1, rx, d, o, L, ex, hd, q⟩ => ?_)
  subst ex
  obtain rfl : u = Value.ref d := rx
  obtain ⟨hs, hgd, hx, es, ep, hdt, hsz, ent⟩ := PD.Inv.frzX I1 hd
  have hraw : s1.heap.DictRaw d es ep := ⟨o, hgd, hx, hdt⟩
  refine ⟨hraw.typeIs, fun b z => ?_, ?_⟩
  · cases z; exact ⟨o, hgd, hx.2.1⟩
  have I2 : Inv X pins σ H1 { s1 with heap := s1.heap.push { cls := .type "dict_items", data := .fields #[.ref d] } } := I1.kept (t' := s1.toks) fun b ob q => Heap.get?_push_of_some _ q
  have fin : wpAny (model X.prog X.w) X.A (pyIter (.ref s1.heap.objs.size)) (PIE X pins σ (.Tuple elts kk tpos) R) X.xe { s1 with heap := s1.heap.push { cls := .type "dict_items", data := .fields #[.ref d] } } := by
    refine wpAny_pyIter_items_raw (d := d) ⟨_, Heap.get?_push_size _ rfl, rfl, rfl⟩ (hraw.at fun _ e => Heap.get?_push_of_some _ e) (pi_one (tk := s1.toks) I2 _ (turn_itemsX _ hdt) ⟨.none, .none, ?_⟩ q)
    rw [hsz]
    exact Heap.get?_push_size _ rfl
  show wpAny _ _ (callWith cpos (.builtin "dict.items") [.ref d] [] []) _ X.xe s1
  exact method_meetsIn F.slot_dict_items F.entry_dict_items rfl (PySem.evalArgs_none ⟨rfl, hraw.typeIs, F.args_dict_items_1 _, _, meets_dict_items_raw d hs, ⟨es, ep, hraw⟩, fin⟩)
theorem repE_get {F : Hp} : ∀ {L : DL} {kvs : KV2}, RepE X.w X.K F L kvs → ∀ {i : Nat} {p : D × D}, kvs[i]? = some p → ∃ l, L[i]? = some l ∧ Rep X.w X.K F l.2.1 p.1 ∧ Rep X.w X.K F l.2.2 p.2
  | _, _, .nil, i, p, h => by simp at h
  | _, _, .cons a b c d, 0, p, h => by cases h; exact ⟨_, rfl, b, c⟩
  | _, _, .cons a b c d, i + 1, p, h => repE_get d h
def keysD : D → Option (List D)
  | .dict kvs => some (kvs.map (·.1))
  | _ => none
def itemsD : D → Option (List D)
  | .dict kvs => some (kvs.map fun p => .tuple [p.1, p.2])
  | _ => none
theorem i_keys (h : DE X e f) : DI X tg e (u1 keysD f) := by
  obtain ⟨t, p, q⟩ := h.ex
  refine ⟨_, pi_keysX p, fun F σ H ρ ds R sl hf k => ?_⟩
  obtain ⟨x, hx, hf1⟩ := Option.bind_eq_some_iff.mp hf
  refine q F σ H ρ x _ sl hx fun v F1 H1 e1 r1 => ?_
  unfold keysD at hf1
  split at hf1
  · cases hf1
    obtain ⟨a, L, od, rfl, h1, re⟩ := r1.dct_inv
    refine ⟨a, od, L, rfl, e1.s _ _ h1, k _ F1 H1 e1 fun i F2 H2 a1 a2 => ⟨fun d hd => ?_, fun hi => ⟨(a1.trans a2) _ _ h1, by rw [repE_len re]; rw [List.length_map] at hi; omega⟩⟩⟩
    rw [List.getElem?_map] at hd
    obtain ⟨pr, hp, rfl⟩ := Option.map_eq_some_iff.mp hd
    obtain ⟨l, hl, r1, r2⟩ := repE_get re hp
    refine ⟨⟨(a1.trans a2) _ _ h1, (List.getElem?_eq_some_iff.mp hl).1⟩, fun x H3 y => ?_⟩
    obtain ⟨rfl, l', hl', rfl⟩ := y
    rw [hl] at hl'
    cases hl'
    exact ⟨F2, .refl a2, r1.mono a1⟩
  · cases hf1
theorem i_items {elts : List Expr} {kk : Nat} {tpos : Pos} (h : DE X e f) (hbase : attributeBase e "items" X.env (eval e X.env) = eval e X.env := by rfl) (hline : (apos.endLine == cpos.line) = true := by rfl) :
    DI X (.Tuple elts kk tpos) (.Call (.Attribute e "items" apos) [] [] cpos) (u1 itemsD f) := by
  obtain ⟨t, p, q⟩ := h.ex
  refine ⟨_, pi_itemsX p hbase hline, fun F σ H ρ ds R sl hf k => ?_⟩
  obtain ⟨x, hx, hf1⟩ := Option.bind_eq_some_iff.mp hf
  refine q F σ H ρ x _ sl hx fun v F1 H1 e1 r1 => ?_
  unfold itemsD at hf1
  split at hf1
  · cases hf1
    obtain ⟨a, L, od, rfl, h1, re⟩ := r1.dct_inv
    refine ⟨a, od, L, rfl, e1.s _ _ h1, k _ F1 H1 e1 fun i F2 H2 a1 a2 => ⟨fun d hd => ?_, fun hi => ⟨(a1.trans a2) _ _ h1, by rw [repE_len re]; rw [List.length_map] at hi; omega⟩⟩⟩
    rw [List.getElem?_map] at hd
    obtain ⟨pr, hp, rfl⟩ := Option.map_eq_some_iff.mp hd
    obtain ⟨l, hl, r1, r2⟩ := repE_get re hp
    refine ⟨⟨(a1.trans a2) _ _ h1, (List.getElem?_eq_some_iff.mp hl).1⟩, fun x H3 y => ?_⟩
    obtain ⟨T, l', hl', rfl, nT, rfl⟩ := y
    rw [hl] at hl'
    cases hl'
    exact ⟨_, .new a2 nT, tup2 (r1.mono a1) (r2.mono a1) a2 nT⟩
  · cases hf1
end
end PD

/-! PD15: comprehensions of dicts (after HandS.DictComp). -/
namespace PD
open PySem PySem.Spec PyProof.Rows L2
theorem dictSetX {X : Cx} {pins : List (Addr × Obj)} {σ : L2.St} {H F : Hp} {s : Shared} {E : Value → Shared → Prop} {D : Addr} {L : DL} {kvs : KV2} {kv vv : V} {kd vd : PyData} {k : NestedKey} {u r : Value} {Q : Unit → Shared → Prop} (hu : X.A.units + 64 < cLine) (I : Inv X pins σ H s) (sm : Same F H) (hD : H D = some (dictO X.w D L))
    (re : RepE X.w X.K F L kvs) (rk : Rep X.w X.K F kv kd) (hk : kD kd = some k) (rvd : Rep X.w X.K F vv vd) (hl : kvs.length < 16777216) (ri : RelV kv u) (rv : RelV vv r)
    (h : ∀ s', Inv X pins σ (upd H D (dictO X.w D (putL' L kv k vv))) s' → Q () s') : wpAny (model X.prog X.w) X.A (dictSet D u r) Q E s := by
  obtain ⟨h0, xs, hd, kx⟩ := dict_now I sm (.inl hD) re
  have e1 : xs.length = kvs.length := by rw [← kx_len kx, repE_len re]
  have p := kx_put kx re hk rk rvd ri rv
  refine dictSet_K (by omega) (kis_of I sm hk rk ri) hd (fun h' hd' sb => ?_) (by rw [sizeLine_eq]; omega)
  have he : ∃ q, h'.get? D = some q := let ⟨o, _, _, ho, _⟩ := hd'; ⟨o, ho⟩
  exact h _ (I.write (x := D) (e := D) (t' := s.toks + k.draws) (by rw [hD]; exact True.intro) (.inl rfl) (fun b x hb e => (sb.2 b hb).trans e) he (dictO_ok h0 hd' p.1))
section
variable {X : Cx}
def tDcX (w : World) (K : PySem.W.Frag) (wi : TI) (g : TG) (tt : TT) (tk tv : TE) (vs : List Nat) : TE := fun σ H Q => wi σ H fun J H1 => ∀ D, H1 D = none → ∃ W : Nat → Nat → Hp → Prop, (∃ m, W 0 m (upd H1 D (dictO w D []))) ∧ ∀ i m H, W i m H →
  (J.stop i H ∧ Q (.ref D) H) ∨ (J.go i H ∧ ∃ Nx : Hp → Prop, (∀ H', Nx H' → ∃ m', m' < m ∧ W (i + 1) m' H') ∧ ∀ x H', J.yld i H x H' → g x (L2.wipe σ vs) H' fun σ2 H2 => L2.wipe σ2 vs = L2.wipe σ vs ∧ tt σ2 H2 fun b H3 =>
    if b = true then tk σ2 H3 fun y H4 => tv σ2 H4 fun z H5 => ∃ F L kvs kd k vd, Same F H5 ∧ H5 D = some (dictO w D L) ∧ RepE w K F L kvs ∧ Rep w K F y kd ∧ kD kd = some k ∧ Rep w K F z vd ∧ kvs.length < 16777216 ∧ Nx (upd H5 D (dictO w D (putL' L y k z))) else Nx H3)
theorem dc_coreX {pins : List (Addr × Obj)} {s : Shared} {σ : L2.St} {H : Hp} {Q : VK} {kx vx tg iter : Expr} {ifs : List Expr} {scope : Scope} {own : List (Str × Nat)} {pos pos' : Pos} {wi : TI} {g : TG} {tt : TT} {tk tv : TE} {use : Option (Value → Sem Unit)} {Qf : Value → Shared → Prop}
    (hu : X.A.units + 64 < cLine) (hc : X.calm = true) (hN : X.N.Nodup) (I : Inv X pins σ H s) (hi : PI X tg iter wi) (ok : BlkOk X.N X.env.scope scope own)
    (hg : ∀ (s : Shared) (H : Hp) (C : Addr) (cl : List (Str × Addr)) (fp : List Addr), PG (X.blk s H scope (compEnvC scope cl C X.env) fp) tg g) (ht : ∀ (s : Shared) (H : Hp) (C : Addr) (cl : List (Str × Addr)) (fp : List Addr), PTs (X.blk s H scope (compEnvC scope cl C X.env) fp) ifs tt)
    (hk : ∀ (s : Shared) (H : Hp) (C : Addr) (cl : List (Str × Addr)) (fp : List Addr), PE (X.blk s H scope (compEnvC scope cl C X.env) fp) kx tk)
    (he : ∀ (s : Shared) (H : Hp) (C : Addr) (cl : List (Str × Addr)) (fp : List Addr), PE (X.blk s H scope (compEnvC scope cl C X.env) fp) vx tv) (hs : ∀ x, foldedSetIterable iter X.env x = pure x)
    (h : tDcX X.w X.K wi g tt tk tv (own.map (·.2)) σ H Q)
    (hRR : ∀ D C s' m H', Inv X pins σ H' s' → Q (.ref D) H' → s'.heap.Ns C m → FpOk X pins H' C → compPost (model X.prog X.w) X.A X.xe use Qf (.ref D) C (.ok .next) s') :
    wpAny (model X.prog X.w) X.A (comprehension (.DictComp kx vx [⟨tg, iter, ifs, 0⟩] scope pos) scope X.env pos' newDict false (eval iter X.env) use) Qf X.xe s := by
  have hfree : ∀ y ∈ scope.names, y.2 = .free → ∃ c, X.env.cells.lookup y.1 = some c := fun y hy e => by
    rcases ok.free y hy e with k | k
    · exact I.ok.has _ (.inl k)
    · exact I.ok.has _ (.inr k)
  refine wpAny_comprehension_free (use := use) rfl hs (closure_ok hfree) ok.kind (fun y hy e => by rw [ok.uniq y hy, e])
    (thn (hi.run pins s σ H _ I h) fun xv s1 hx => thn hx fun itv s2 h2 => ?_)
  obtain ⟨it, fp, tn, J, H2, e, I2, T, st2, f2, q⟩ := h2
  subst e
  refine wpAny_newObj_type (newEnv_comp ?_)
  generalize hD : s2.heap.objs.size = D
  have hDn : H2 D = none := I2.hok.fresh (Nat.le_of_eq hD)
  obtain ⟨W, ⟨m0, w0⟩, turn⟩ := q D hDn
  -- the new list
  generalize hs3 : ({ s2 with heap := s2.heap.push { cls := .type "dict", data := .dict #[] } } : Shared) = s3
  have I3 : Inv X pins σ (upd H2 D (dictO X.w D [])) s3 := by
    rw [← hs3]
    refine I2.laid (t' := s2.toks) (fun b o e => Heap.get?_push_of_some _ e) (Nat.le_of_eq hD) ?_
    rw [← hD]
    exact dict_empty s2.heap I2.big
  have h3 : s3.heap = s2.heap.push { cls := .type "dict", data := .dict #[] } := by rw [← hs3]
  have sz : ∀ b ∈ fp, b < s2.heap.objs.size := fun b hb => by
    obtain ⟨o, e, _⟩ := T.obj _ _ st2 b hb
    exact Heap.lt_size e
  have f3 : ∀ b ∈ fp, FpOk X pins (upd H2 D (dictO X.w D [])) b ∧ b < s3.heap.objs.size := fun b hb => by
    have hlt := sz b hb
    refine ⟨⟨?_, (f2 b hb).2⟩, by rw [h3, Heap.size_push]; exact Nat.lt_succ_of_lt hlt⟩
    rw [upd_ne (by rw [← hD]; exact Nat.ne_of_lt hlt)]
    exact (f2 b hb).1
  have st3 : tn 0 s3.heap := T.keep _ _ _ st2 fun b _ o e => by rw [h3]; exact Heap.get?_push_of_some _ e
  have I4 := block_start I3 ok hN f3
  have pg := hg s3 (upd H2 D (dictO X.w D [])) s3.heap.objs.size (cellsFrom (s3.heap.objs.size + 1) scope.names (cloFrom X.env.cells scope.names [])) fp
  have pt := ht s3 (upd H2 D (dictO X.w D [])) s3.heap.objs.size (cellsFrom (s3.heap.objs.size + 1) scope.names (cloFrom X.env.cells scope.names [])) fp
  have pk := hk s3 (upd H2 D (dictO X.w D [])) s3.heap.objs.size (cellsFrom (s3.heap.objs.size + 1) scope.names (cloFrom X.env.cells scope.names [])) fp
  have pe := he s3 (upd H2 D (dictO X.w D [])) s3.heap.objs.size (cellsFrom (s3.heap.objs.size + 1) scope.names (cloFrom X.env.cells scope.names [])) fp
  show codeAny _ _ (.compStart (.DictComp kx vx [⟨tg, iter, ifs, 0⟩] scope pos) 0 (.ref it) (.ref D) (compEnvC scope (cellsFrom (s3.heap.objs.size + 1) scope.names (cloFrom X.env.cells scope.names [])) s3.heap.objs.size X.env)) (compPost (model X.prog X.w) X.A X.xe use Qf (.ref D) s3.heap.objs.size) { s3 with heap := pushCells (s3.heap.push { cls := .type "dict", data := .dict #[] }) scope.names }
  have nfp : ∀ b ∈ fp, (upd H2 D (dictO X.w D [])) b = none := fun b hb => (f3 b hb).1.1
  generalize hce : compEnvC scope (cellsFrom (s3.heap.objs.size + 1) scope.names (cloFrom X.env.cells scope.names [])) s3.heap.objs.size X.env = ce at I4 pg pt pk pe ⊢
  have cL : ce.locals = s3.heap.objs.size := by subst hce; rfl
  generalize hH3 : upd H2 D (dictO X.w D []) = H3 at I3 I4 pg pt pk pe w0 nfp f3
  generalize hs4 : ({ s3 with heap := pushCells (s3.heap.push { cls := .type "dict", data := .dict #[] }) scope.names } : Shared) = s4 at I4 ⊢
  have st4 : tn 0 s4.heap := T.keep _ _ _ st3 fun b _ o e => by rw [← hs4]; exact pushCells_keeps _ _ _ _ (Heap.get?_push_of_some _ e)
  have stat : ∀ {σ' : L2.St} {H' : Hp} {s' : Shared}, Inv (X.blk s3 H3 scope ce fp) [] σ' H' s' → (∀ b ∈ fp, H' b = none) → ∀ b ∈ fp, FpOk (X.blk s3 H3 scope ce fp) [] H' b := fun {σ' H' s'} I' hn b hb =>
    ⟨hn b hb, (I'.ok.exf b hb).1, I'.ok.exfs b hb, .inl hb, fun x c e => (I'.ok.exf b hb).2 x c e, fun p hp => absurd (show p ∈ ([] : List (Addr × Obj)) ++ [] from hp) (by simp)⟩
  have loop : codeAny (model X.prog X.w) X.A (.compLoop (.DictComp kx vx [⟨tg, iter, ifs, 0⟩] scope pos) 0 (.ref it) (.ref D) ce) (compPost (model X.prog X.w) X.A X.xe use Qf (.ref D) s3.heap.objs.size) s4 := by
    refine compLoop_anyD (fun n s' => ∃ i H', Inv (X.blk s3 H3 scope ce fp) [] (wipe σ (own.map (·.2))) H' s' ∧ tn i s'.heap ∧ (∀ b ∈ fp, H' b = none) ∧ W i n H') ?_ m0 ⟨0, H3, I4, st4, nfp, w0⟩
    rintro n s5 ⟨i, H5, I5, st5, n5, w5⟩
    rcases turn i n H5 w5 with ⟨stop, qq⟩ | ⟨go, Nx, hNx, step⟩
    · have td := T.done (X.blk s3 H3 scope ce fp) rfl rfl rfl hc i [] s5 _ H5 (fun _ _ => False) I5 (stat I5 n5) st5 stop
      refine thnF td fun r s6 ⟨hr, I6⟩ => ?_
      subst hr
      -- back in the def's context
      have I7 : Inv X pins σ H5 s6 := I3.call' (ch := fp) I6.os I6.base I6.hok I6.bare fun b hb => ⟨(f3 b hb).1.2.2.2.1, (f3 b hb).1.2.1, (f3 b hb).1.2.2.2.2.1, (f3 b hb).1.2.2.2.2.2⟩
      have nC : H5 s3.heap.objs.size = none := by
        have z : H5 ce.locals = none := I6.free
        rw [cL] at z
        exact z
      obtain ⟨m, hn, _⟩ := I6.loc
      have hn : s6.heap.Ns ce.locals m := hn
      rw [cL] at hn
      exact hRR D s3.heap.objs.size s6 m H5 I7 qq hn (I3.fpOk (Nat.le_refl _) nC)
    · have ti := T.item (X.blk s3 H3 scope ce fp) rfl rfl rfl hc i [] s5 _ H5 (fun _ _ => False) I5 (stat I5 n5) st5 go
      refine thnF ti fun r s6 ⟨u, hr, h6⟩ => ?_
      subst hr
      refine thnF h6 fun _ s7 ⟨x, H7, I7, r7, y7, st7, n7⟩ => ?_
      have I7' := I7.pinned (stat I7 n7) (T.obj _ _ st7)
      refine thnF (pg.run _ s7 _ H7 x u _ I7' r7 (step x H7 y7)) fun _ s8 ⟨σ8, H8, I8, hw8, q8⟩ => ?_
      refine thnF (pt.run _ s8 σ8 H8 _ I8 q8) fun b s9 ⟨H9, I9, q9⟩ => ?_
      -- the turn's end
      have fin : ∀ {s' : Shared} {H' : Hp}, Inv (X.blk s3 H3 scope ce fp) ([] ++ pinsAt fp s7.heap) σ8 H' s' → Nx H' → ∃ m, m < n ∧ ∃ i H', Inv (X.blk s3 H3 scope ce fp) [] (wipe σ (own.map (·.2))) H' s' ∧ tn i s'.heap ∧ (∀ b ∈ fp, H' b = none) ∧ W i m H' := fun {s' H'} I' nx => by
        obtain ⟨m', hm, w'⟩ := hNx H' nx
        have pin' : ∀ b ∈ fp, ∀ o, s7.heap.get? b = some o → s'.heap.get? b = some o ∧ H' b = none := fun b hb o e =>
          let z := I'.pin (b, o) (List.mem_append_right _ (List.mem_append_right _ (mem_pinsAt hb e)))
          ⟨z.1, z.2.1⟩
        have hl : (wipe σ (own.map (·.2))).length = σ8.length := by rw [← hw8, wipe_length]
        refine ⟨m', hm, i + 1, H', (I'.unpinned (pins := [])).weak hl (fun j v e => ?_), T.keep _ _ _ st7 fun b hb o e => (pin' b hb o e).1, fun b hb => ?_, w'⟩
        · rw [← hw8] at e
          exact (wipe_some e).1
        · obtain ⟨o, e, _⟩ := T.obj _ _ st7 b hb
          exact (pin' b hb o e).2
      cases b with
      | false =>
        simp only [Bool.false_eq_true, if_false] at q9 ⊢
        exact fin I9 q9
      | true =>
        simp only [if_true] at q9 ⊢
        refine thnF (pk.run _ s9 σ8 H9 _ I9 q9) fun z s10 ⟨yk, H10, I10, r10, q10⟩ => ?_
        refine thnF (pe.run _ s10 σ8 H10 _ I10 q10) fun z2 s11 ⟨yv, H11, I11, r11, F, L, kvs, kd, k, vd, sm, hD11, re, rk, hk, rv, hl, nx⟩ => ?_
        exact dictSetX (X := X.blk s3 H3 scope ce fp) hu I11 sm hD11 re rk hk rv hl r10 r11 fun s12 I12 => fin I12 nx
  exact codeAny_compStart_dict loop (T.self X.A 0 _ _ _ st4 loop)
/-- as a value -/
theorem pe_dcX {kx vx tg iter : Expr} {ifs : List Expr} {scope : Scope} {own : List (Str × Nat)} {pos : Pos} {wi : TI} {g : TG} {tt : TT} {tk tv : TE} (hu : X.A.units + 64 < cLine) (hc : X.calm = true) (hN : X.N.Nodup) (hi : PI X tg iter wi) (ok : BlkOk X.N X.env.scope scope own)
    (hg : ∀ (s : Shared) (H : Hp) (C : Addr) (cl : List (Str × Addr)) (fp : List Addr), PG (X.blk s H scope (compEnvC scope cl C X.env) fp) tg g) (ht : ∀ (s : Shared) (H : Hp) (C : Addr) (cl : List (Str × Addr)) (fp : List Addr), PTs (X.blk s H scope (compEnvC scope cl C X.env) fp) ifs tt)
    (hk : ∀ (s : Shared) (H : Hp) (C : Addr) (cl : List (Str × Addr)) (fp : List Addr), PE (X.blk s H scope (compEnvC scope cl C X.env) fp) kx tk)
    (he : ∀ (s : Shared) (H : Hp) (C : Addr) (cl : List (Str × Addr)) (fp : List Addr), PE (X.blk s H scope (compEnvC scope cl C X.env) fp) vx tv) (hs : ∀ x, foldedSetIterable iter X.env x = pure x := by intro _; rfl) :
    PE X (.DictComp kx vx [⟨tg, iter, ifs, 0⟩] scope pos) (tDcX X.w X.K wi g tt tk tv (own.map (·.2))) := by
  refine ⟨fun pins s σ H Q I h => ?_⟩
  rw [arm_eval_DictComp]
  refine dc_coreX hu hc hN I hi ok hg ht hk he hs h fun D C s' m H' I' q hn f => ⟨m, hn, fun h'' sb => ?_⟩
  obtain ⟨f0, f1, f2, f3, f4, f5⟩ := f
  exact ⟨.ref D, H', I'.turned (t' := s'.toks) (fun b o hb e => (sb.2 b hb).trans e) f0 f1 f3 f4 f5, rfl, q⟩

/-- what the loop makes -/
def dcGo (vs : List Nat) (g : D → Option Puts) (tt : FB) (fk fe : FE) (ρ : Env) : List D → KV2 → Option KV2
  | [], acc => some acc
  | x :: xs, acc => (g x).bind fun us => (tt (putAll (wipeE ρ vs) us)).bind fun b => if b = true then (fk (putAll (wipeE ρ vs) us)).bind fun kd => (fe (putAll (wipeE ρ vs) us)).bind fun y => (kD kd).bind fun k => if acc.length < 16777216 then dcGo vs g tt fk fe ρ xs (putKD acc kd k y) else none else dcGo vs g tt fk fe ρ xs acc
def dcF (vs : List Nat) (f : FA) (g : D → Option Puts) (tt : FB) (fk fe : FE) (ρ : Env) : Option KV2 := (f ρ).bind fun ds => dcGo vs g tt fk fe ρ ds []
theorem putL_rep {F : Hp} {L : DL} {kvs : KV2} {k : NestedKey} {kv v : V} {kd vd : PyData} (re : RepE X.w X.K F L kvs) (a : kD kd = some k) (b : Rep X.w X.K F kv kd) (c : Rep X.w X.K F v vd) : RepE X.w X.K F (putL' L kv k v) (putKD kvs kd k vd) := by
  unfold putL' putKD
  have z : (atL L k).isSome = (getKD kvs k).isSome := atL_isSome k re
  rw [z]
  split
  · exact rep_map k c re
  · exact rep_append re a b c
theorem tDc_ok {F H : Hp} {σ : L2.St} {ρ : Env} {ds : List D} {out : KV2} {wi : TI} {vs is : List Nat} {g : D → Option Puts} {tt : FB} {fk fe : FE} {Q : VK}
    (sl : Sl X.w X.K F σ H ρ) (hix : ∀ d us, g d = some us → us.map (·.1) = is) (hsub : ∀ i ∈ is, i ∈ vs) (hgo : dcGo vs g tt fk fe ρ ds [] = some out)
    (hwi : ∀ R : It → Hp → Prop, (∀ J F' H', Ext F H F' H' → ItP X.w X.K F' H' J ds → R J H') → wi σ H R)
    (k : ∀ a L F' H', Ext F H F' H' → H a = none → F' a = none → H' a = some (dictO X.w a L) → RepE X.w X.K F' L out → Q (.ref a) H') :
    tDcX X.w X.K wi (tDG X.w X.K g) (tDT X.w X.K tt) (tDE X.w X.K fk) (tDE X.w X.K fe) vs σ H Q := by
  refine hwi _ fun J F1 H1 e1 it D nD => ?_
  refine ⟨fun i m H' => m = ds.length - i ∧ i ≤ ds.length ∧ ∃ F' L acc, Ext F1 H1 F' H' ∧ F' D = none ∧ H' D = some (dictO X.w D L) ∧ RepE X.w X.K F' L acc ∧ dcGo vs g tt fk fe ρ (ds.drop i) acc = some out,
    ⟨ds.length, by omega, Nat.zero_le _, F1, [], [], .grow e1.s nD, e1.s.free nD, upd_same, .nil, hgo⟩, ?_⟩
  rintro i m H2 ⟨rfl, hi, F2, L, acc, e2, nF, hD, racc, hrest⟩
  obtain ⟨it1, it2⟩ := it i F2 H2 e2
  by_cases hlt : i < ds.length
  · obtain ⟨go, yl⟩ := it1 ds[i] (List.getElem?_eq_getElem hlt)
    refine .inr ⟨go, fun H' => ∃ F' L acc, Ext F1 H1 F' H' ∧ F' D = none ∧ H' D = some (dictO X.w D L) ∧ RepE X.w X.K F' L acc ∧ dcGo vs g tt fk fe ρ (ds.drop (i + 1)) acc = some out,
      fun H' h' => ⟨ds.length - (i + 1), by omega, rfl, hlt, h'⟩, fun x H3 y => ?_⟩
    obtain ⟨F3, e3, rx⟩ := yl x H3 y
    rw [List.drop_eq_getElem_cons hlt] at hrest
    unfold dcGo at hrest
    obtain ⟨us, hus, h1⟩ := Option.bind_eq_some_iff.mp hrest
    obtain ⟨b, hb, h2⟩ := Option.bind_eq_some_iff.mp h1
    refine ⟨F3, ds[i], us, e3.s, rx, hus, fun ws hw => ⟨wipe_setAll ?_, ?_⟩⟩
    · intro j hj
      rw [hw.ix, hix _ _ hus] at hj
      exact hsub j hj
    · have sl3 : Sl X.w X.K F3 (setAll (L2.wipe σ vs) ws) H3 (putAll (wipeE ρ vs) us) := Sl.putAll hw (((sl.mono e1).mono (e2.trans e3)).wipe vs)
      refine ⟨F3, _, b, sl3, hb, fun F4 H4 e4 => ?_⟩
      have e24 := (e2.trans e3).trans e4
      have nF4 : F4 D = none := (e3.trans e4).none_of hD nF
      have hD4 : H4 D = some (dictO X.w D L) := (e3.trans e4).h _ _ hD
      cases b with
      | false =>
        simp only [Bool.false_eq_true, if_false] at h2 ⊢
        exact ⟨F4, L, acc, e24, nF4, hD4, racc.mono (e3.trans e4).f, h2⟩
      | true =>
        simp only [if_true] at h2 ⊢
        obtain ⟨kd, hkd, h3⟩ := Option.bind_eq_some_iff.mp h2
        obtain ⟨yd, hyd, h4⟩ := Option.bind_eq_some_iff.mp h3
        obtain ⟨ky, hky, h5⟩ := Option.bind_eq_some_iff.mp h4
        split at h5
        · rename_i hl
          refine ⟨F4, _, kd, sl3.mono e4, hkd, fun kv F5 H5 e5 r5 => ⟨F5, _, yd, (sl3.mono e4).mono e5, hyd, fun v F6 H6 e6 r6 => ?_⟩⟩
          have e46 := e5.trans e6
          have nF6 : F6 D = none := e46.none_of hD4 nF4
          have hD6 := e46.h _ _ hD4
          have re6 := racc.mono ((e3.trans e4).trans e46).f
          refine ⟨F6, L, acc, kd, ky, yd, e46.s, hD6, re6, r5.mono e6.f, hky, r6, hl, ?_⟩
          exact ⟨F6, _, _, (e24.trans e46).wr nD nF6, nF6, upd_same, putL_rep re6 hky (r5.mono e6.f) r6, h5⟩
        · cases h5
  · have hi' : i = ds.length := by omega
    refine .inl ⟨it2 hi', k D L F2 H2 (e1.trans e2) (e1.h.free nD) nF hD ?_⟩
    rw [hi', List.drop_length] at hrest
    cases hrest
    exact racc
theorem d_dc {kx vx tg iter : Expr} {ifs : List Expr} {scope : Scope} {pos : Pos} {is : List Nat} {f : FA} {g : D → Option Puts} {tt : FB} {fk fe : FE} (own : List (Str × Nat)) (hu : X.A.units + 64 < cLine) (hc : X.calm = true) (hN : X.N.Nodup) (hi : DIP X tg iter f)
    (hg : ∀ (s : Shared) (H : Hp) (C : Addr) (cl : List (Str × Addr)) (fp : List Addr), DG (X.blk s H scope (compEnvC scope cl C X.env) fp) tg is g)
    (ht : ∀ (s : Shared) (H : Hp) (C : Addr) (cl : List (Str × Addr)) (fp : List Addr), DTs (X.blk s H scope (compEnvC scope cl C X.env) fp) ifs tt)
    (hk : ∀ (s : Shared) (H : Hp) (C : Addr) (cl : List (Str × Addr)) (fp : List Addr), DE (X.blk s H scope (compEnvC scope cl C X.env) fp) kx fk)
    (he : ∀ (s : Shared) (H : Hp) (C : Addr) (cl : List (Str × Addr)) (fp : List Addr), DE (X.blk s H scope (compEnvC scope cl C X.env) fp) vx fe)
    (ok : BlkOk X.N X.env.scope scope own := by exact blkOk_by (by kernel_rfl))
    (hsub : ∀ i ∈ is, i ∈ own.map (·.2) := by decide) (hs : ∀ x, foldedSetIterable iter X.env x = pure x := by intro _; rfl) :
    FD X (.DictComp kx vx [⟨tg, iter, ifs, 0⟩] scope pos) (dcF (own.map (·.2)) f g tt fk fe) := by
  obtain ⟨wi, p, q⟩ := hi.ex
  refine ⟨_, pe_dcX (g := tDG X.w X.K g) (tt := tDT X.w X.K tt) (tk := tDE X.w X.K fk) (tv := tDE X.w X.K fe) hu hc hN p ok (fun s H C cl fp => (hg s H C cl fp).pg) (fun s H C cl fp => (ht s H C cl fp).pts) (fun s H C cl fp => (hk s H C cl fp).pe) (fun s H C cl fp => (he s H C cl fp).pe) hs, fun F σ H ρ out Q sl hf k => ?_⟩
  obtain ⟨ds, hds, h1⟩ := Option.bind_eq_some_iff.mp hf
  exact tDc_ok sl (hg X.s_0 H 0 [] []).ix hsub h1 (fun R h => q F σ H ρ ds R sl hds h) k
/-! names -/
variable {e : Expr} {pos : Pos} {f : FE}
theorem x_D {fd : Env → Option KV2} (h : FD X e fd) : DE X e (toDd fd) := h.de
theorem s_setD {x : Str} {pos' : Pos} {fd : Env → Option KV2} (i : Nat) (hN : X.N.Nodup) (he : FD X e fd) (hi : X.N[i]? = some x := by rfl) (hx : Loc X.env.scope x := by first | exact Or.inl rfl | exact Or.inr rfl) (hs : swapsWith e (some (.Name x pos')) pos.line X.env = pure false := by rfl)
    (hf : X.fn x = true ∨ X.env.scope.names.lookup x = some .local := by first | exact .inl rfl | exact .inr rfl | assumption) : DS X (.Assign [.Name x pos'] e pos) (setDF i fd) := ds_setDP he fun t q => ps_set hN hi hx q hs hf
theorem s_putD {x : Str} {px spos : Pos} {ix : Expr} {g : FE} (i : Nat) (hu : X.A.units + 64 < cLine) (he : DE X e f) (hi : DE X ix g) (hN : X.N[i]? = some x := by rfl) (hv : Vis X.env.scope x := by first | exact Or.inl rfl | exact Or.inr (Or.inl rfl) | exact Or.inr (Or.inr rfl)) (hd : (x == ("__debug__" : Str)) = false := by decide)
    (hcd : (x == ("__classdict__" : Str)) = false := by decide)
    (ha : ∀ v, assign (.Subscript (.Name x px) ix spos) X.env v = (do
      let ov ← holding [v] (eval (.Name x px) X.env)
      let iv ← holding [v, ov] (eval ix X.env)
      standAt spos
      holding [v, ov, iv] (setItem ov iv v)
      release [v, ov, iv] []) := by intro _; rfl)
    (hs : swapsWithSole [.Subscript (.Name x px) ix spos] e pos.line X.env = pure false := by rfl) (hw : swappedStores [.Subscript (.Name x px) ix spos] e X.env = pure none := by rfl)
    (h1 : (assignEach [.Subscript (.Name x px) ix spos] X.env).map (·.2) = [assign (.Subscript (.Name x px) ix spos) X.env] := by rfl) :
    DS X (.Assign [.Subscript (.Name x px) ix spos] e pos) (putDF i f g) := ds_putD hu (pe_var hN hv hd hcd) he hi ha hs hw h1
end
end PD

/-! PD16: more built-ins. -/
namespace PD
open PySem PySem.Spec PyProof.Rows L2
def tdt (f : FE) : FB := fun ρ => (f ρ).bind dtruD
section
variable {X : Cx} {e a b : Expr} {es : List Expr} {pos p : Pos} {f fa fb : FE} {fs : FA}
theorem t_d (h : DP X e f) (he : ∀ whole, isTrue e X.env whole = (do let v ← whole; standAt e.pos; holding [v] (truthy v)) := by intro _; rfl) : DT X e (tdt f) := t_dt h he
/-! ### tuple(range(n)) -/
noncomputable def rgT1 : D → Option D
  | .int n => if smallI n ∧ n ≤ 16777216 then some (.tuple (rgD 0 n)) else none
  | _ => none
end
end PD

/-! PV0: the functions of PD8 evaluated; loops; comprehensions. -/
namespace PD
open PySem PySem.Spec PyProof.Rows L2
/-! ### slots -/
def sV : Slot → Option D
  | .val d => some d
  | _ => none
def sP : Slot → Option D
  | .val d => some d
  | .ol ds => some (.list ds)
  | .od kvs => some (.dict kvs)
  | .un => none
def sL : Slot → Option (List D)
  | .ol ds => some ds
  | _ => none
def sF : Slot → Slot
  | .ol ds => .val (.list ds)
  | .od kvs => .val (.dict kvs)
  | s => s
@[simp] theorem sV_val (d : D) : sV (.val d) = some d := rfl
@[simp] theorem sP_val (d : D) : sP (.val d) = some d := rfl
@[simp] theorem sP_ol (ds : List D) : sP (.ol ds) = some (.list ds) := rfl
@[simp] theorem sP_od (ds : KV2) : sP (.od ds) = some (.dict ds) := rfl
@[simp] theorem sL_ol (ds : List D) : sL (.ol ds) = some ds := rfl
@[simp] theorem sF_ol (ds : List D) : sF (.ol ds) = .val (.list ds) := rfl
@[simp] theorem sF_od (ds : KV2) : sF (.od ds) = .val (.dict ds) := rfl
@[simp] theorem sF_val (d : D) : sF (.val d) = .val d := rfl
@[simp] theorem sF_un : sF .un = .un := rfl
@[simp] theorem getV_zero (s : Slot) (ρ : Env) : getV (s :: ρ) 0 = sV s := by cases s <;> rfl
@[simp] theorem getV_succ (s : Slot) (ρ : Env) (i : Nat) : getV (s :: ρ) (i + 1) = getV ρ i := by simp [getV]
@[simp] theorem getP_zero (s : Slot) (ρ : Env) : getP (s :: ρ) 0 = sP s := by cases s <;> rfl
@[simp] theorem getP_succ (s : Slot) (ρ : Env) (i : Nat) : getP (s :: ρ) (i + 1) = getP ρ i := by simp [getP]
@[simp] theorem getL_zero (s : Slot) (ρ : Env) : getL (s :: ρ) 0 = sL s := by cases s <;> rfl
@[simp] theorem getL_succ (s : Slot) (ρ : Env) (i : Nat) : getL (s :: ρ) (i + 1) = getL ρ i := by simp [getL]
@[simp] theorem frz_zero (s : Slot) (ρ : Env) : PD.frz 0 (s :: ρ) = sF s :: ρ := by cases s <;> rfl
@[simp] theorem frz_succ (s : Slot) (ρ : Env) (i : Nat) : PD.frz (i + 1) (s :: ρ) = s :: PD.frz i ρ := by
  unfold PD.frz
  simp only [List.getElem?_cons_succ, List.set_cons_succ]
  cases ρ[i]? with
  | none => rfl
  | some t => cases t <;> rfl
/-! ### expressions -/
@[simp] theorem e_cst (d : D) (ρ : Env) : cst d ρ = some d := rfl
@[simp] theorem e_lv (i : Nat) (ρ : Env) : lv i ρ = getV ρ i := rfl
@[simp] theorem e_lp (i : Nat) (ρ : Env) : lp i ρ = getP ρ i := rfl
@[simp] theorem e_b2 {α : Type} (g : D → D → Option α) (fa fb : FE) (ρ : Env) : b2 g fa fb ρ = (fa ρ).bind fun x => (fb ρ).bind fun y => g x y := rfl
@[simp] theorem e_u1 {α : Type} (g : D → Option α) (fa : FE) (ρ : Env) : u1 g fa ρ = (fa ρ).bind g := rfl
@[simp] theorem e_cl {α : Type} (g : List D → Option α) (fa : FA) (ρ : Env) : cl g fa ρ = (fa ρ).bind g := rfl
@[simp] theorem e_anil (ρ : Env) : anil ρ = some [] := rfl
@[simp] theorem e_acons (f : FE) (g : FA) (ρ : Env) : acons f g ρ = (f ρ).bind fun x => (g ρ).bind fun xs => some (x :: xs) := rfl
@[simp] theorem e_mkT (f : FA) (ρ : Env) : mkT f ρ = ((f ρ).bind lineD).map .tuple := rfl
@[simp] theorem e_mkL (f : FA) (ρ : Env) : mkL f ρ = (f ρ).bind lineD := rfl
@[simp] theorem e_toL (f : FA) (ρ : Env) : toL f ρ = (f ρ).map .list := rfl
@[simp] theorem e_toDd (f : Env → Option KV2) (ρ : Env) : toDd f ρ = (f ρ).map .dict := rfl
@[simp] theorem e_tb (f : FE) (ρ : Env) : tb f ρ = (f ρ).bind boolOf := rfl
@[simp] theorem e_tt (f : FE) (ρ : Env) : tt f ρ = (f ρ).bind truD := rfl
@[simp] theorem e_tdt (f : FE) (ρ : Env) : tdt f ρ = (f ρ).bind dtruD := rfl
@[simp] theorem e_tc (g : D → D → Option D) (fa fb : FE) (ρ : Env) : tc g fa fb ρ = (fa ρ).bind fun x => (fb ρ).bind fun y => (g x y).bind boolOf := rfl
@[simp] theorem e_tch (g g' : D → D → Option D) (fa fb fc : FE) (ρ : Env) : tch g g' fa fb fc ρ = (chainF g g' fa fb fc ρ).bind boolOf := rfl
@[simp] theorem e_chainF (g g' : D → D → Option D) (fa fb fc : FE) (ρ : Env) : chainF g g' fa fb fc ρ = (fa ρ).bind fun x => (fb ρ).bind fun y => (g x y).bind fun z => (boolOf z).bind fun k => if k = true then (fc ρ).bind fun u => g' y u else some (.bool false) := rfl
@[simp] theorem e_tn (f : FB) (ρ : Env) : tn f ρ = (f ρ).map not := rfl
@[simp] theorem e_xn (f : FE) (ρ : Env) : xn f ρ = ((f ρ).bind boolOf).map fun k => .bool (!k) := rfl
@[simp] theorem e_xand (f g : FE) (ρ : Env) : xand f g ρ = ((f ρ).bind boolOf).bind fun k => if k = true then g ρ else some (.bool false) := rfl
@[simp] theorem e_xor (f g : FE) (ρ : Env) : xor' f g ρ = ((f ρ).bind boolOf).bind fun k => if k = true then some (.bool true) else g ρ := rfl
@[simp] theorem e_andF {α : Type} (f : FB) (no : α) (g : Env → Option α) (ρ : Env) : andF f no g ρ = (f ρ).bind fun k => if k = true then g ρ else some no := rfl
@[simp] theorem e_orF {α : Type} (f : FB) (yes : α) (g : Env → Option α) (ρ : Env) : orF f yes g ρ = (f ρ).bind fun k => if k = true then some yes else g ρ := rfl
@[simp] theorem e_iteF {α : Type} (f : FB) (g h : Env → Option α) (ρ : Env) : iteF' f g h ρ = (f ρ).bind fun k => if k = true then g ρ else h ρ := rfl
@[simp] theorem e_ono (ρ : Env) : ono ρ = some none := rfl
@[simp] theorem e_oi (f : FE) (ρ : Env) : oi f ρ = ((f ρ).bind intOf).map some := rfl
@[simp] theorem e_sl3 {α : Type} (g : D → Option Int → Option Int → Option α) (f : FE) (a b : FO) (ρ : Env) : sl3 g f a b ρ = (f ρ).bind fun x => (a ρ).bind fun l => (b ρ).bind fun u => g x l u := rfl
@[simp] theorem e_b2l (g : D → List D → Option D) (fo : FE) (fs : FA) (ρ : Env) : b2l g fo fs ρ = (fo ρ).bind fun x => (fs ρ).bind fun ds => g x ds := rfl
@[simp] theorem e_d0F (ρ : Env) : d0F ρ = some [] := rfl
@[simp] theorem e_d1F (f g : FE) (ρ : Env) : d1F f g ρ = (f ρ).bind fun kd => (g ρ).bind fun v => (kD kd).map fun _ => [(kd, v)] := rfl
@[simp] theorem e_noIf (ρ : Env) : noIf ρ = some true := rfl
@[simp] theorem e_boolOf (b : Bool) : boolOf (.bool b) = some b := rfl
@[simp] theorem e_intOf (b : Int) : intOf (.int b) = some b := rfl
@[simp] theorem e_seqOf (l : List D) : seqOf (.list l) = some l := rfl
@[simp] theorem e_tupOf (l : List D) : tupOf (.tuple l) = some l := rfl
@[simp] theorem e_seqT1 (l : List D) : seqT (.list l) = some l := rfl
@[simp] theorem e_seqT2 (l : List D) : seqT (.tuple l) = some l := rfl
@[simp] theorem e_keysD (l : KV2) : keysD (.dict l) = some (l.map (·.1)) := rfl
@[simp] theorem e_itemsD (l : KV2) : itemsD (.dict l) = some (l.map fun p => .tuple [p.1, p.2]) := rfl
@[simp] theorem e_rvF1 (l : List D) : rvF (.list l) = some l.reverse := rfl
@[simp] theorem e_rvF2 (l : List D) : rvF (.tuple l) = some l.reverse := rfl
@[simp] theorem e_enF1 (l : List D) : enF [.list l] = some (enumD l) := rfl
@[simp] theorem e_enF2 (l : List D) : enF [.tuple l] = some (enumD l) := rfl
@[simp] theorem e_zpF1 (a b : List D) : zpF [.list a, .list b] = some (zipD a b) := rfl
@[simp] theorem e_zpF2 (a b : List D) : zpF [.tuple a, .tuple b] = some (zipD a b) := rfl
/-! ### statements -/
@[simp] theorem e_thenF (g h : FS) (ρ : Env) : thenF g h ρ = (g ρ).bind fun o => match o with | .nx ρ' => h ρ' | o => some o := rfl
@[simp] theorem e_setF (i : Nat) (f : FE) (ρ : Env) : setF i f ρ = (f ρ).map fun d => .nx (ρ.set i (.val d)) := rfl
@[simp] theorem e_setLF (i : Nat) (f : FA) (ρ : Env) : setLF i f ρ = (f ρ).map fun d => .nx (ρ.set i (.ol d)) := rfl
@[simp] theorem e_setDF (i : Nat) (f : Env → Option KV2) (ρ : Env) : setDF i f ρ = (f ρ).map fun d => .nx (ρ.set i (.od d)) := rfl
@[simp] theorem e_retF (f : FE) (ρ : Env) : retF f ρ = (f ρ).map .rt := rfl
@[simp] theorem e_retN (ρ : Env) : retN ρ = some (.rt .none) := rfl
@[simp] theorem e_skip (ρ : Env) : skip ρ = some (.nx ρ) := rfl
@[simp] theorem e_brk (ρ : Env) : brk ρ = some (.bk ρ) := rfl
@[simp] theorem e_cont (ρ : Env) : cont ρ = some (.ct ρ) := rfl
@[simp] theorem e_ifF (f : FB) (g h : FS) (ρ : Env) : ifF f g h ρ = (f ρ).bind fun k => if k = true then g ρ else h ρ := rfl
@[simp] theorem e_dropF (f : FE) (ρ : Env) : dropF f ρ = (f ρ).map fun _ => .nx ρ := rfl
@[simp] theorem e_asgF (f : FE) (g : D → Option Puts) (ρ : Env) : asgF f g ρ = (f ρ).bind fun d => (g d).map fun us => .nx (putAll ρ us) := rfl
@[simp] theorem e_augF (i : Nat) (f : FE) (g : D → D → Option D) (ρ : Env) : augF i f g ρ = (getP ρ i).bind fun x => (f ρ).bind fun y => (g x y).map fun z => .nx (ρ.set i (.val z)) := rfl
@[simp] theorem e_appF (i : Nat) (f : FE) (ρ : Env) : appF i f ρ = (f ρ).bind fun d => (getL ρ i).bind fun ds => if ds.length < 16777216 then some (.nx (ρ.set i (.ol (ds ++ [d])))) else none := rfl
@[simp] theorem e_extF (i : Nat) (f : FE) (ρ : Env) : extF i f ρ = (f ρ).bind fun d => (seqOf d).bind fun es => (getL ρ i).bind fun ds => if ds.length + es.length ≤ 16777216 then some (.nx (ρ.set i (.ol (ds ++ es)))) else none := rfl
@[simp] theorem e_putLF (i : Nat) (f g : FE) (ρ : Env) : putLF i f g ρ = (f ρ).bind fun d => (g ρ).bind fun x => (intOf x).bind fun k => (getL ρ i).bind fun ds => (ixN ds.length k).map fun j => .nx (ρ.set i (.ol (ds.set j d))) := rfl
def sD : Slot → Option KV2
  | .od k => some k
  | _ => none
@[simp] theorem sD_od (k : KV2) : sD (.od k) = some k := rfl
def getD' (ρ : Env) (i : Nat) : Option KV2 := (ρ[i]?).bind sD
@[simp] theorem getD_zero (s : Slot) (ρ : Env) : getD' (s :: ρ) 0 = sD s := rfl
@[simp] theorem getD_succ (s : Slot) (ρ : Env) (i : Nat) : getD' (s :: ρ) (i + 1) = getD' ρ i := rfl
@[simp] theorem e_putDF (i : Nat) (f g : FE) (ρ : Env) : putDF i f g ρ = (f ρ).bind fun v => (g ρ).bind fun kd => (kD kd).bind fun k => (getD' ρ i).bind fun kvs => if kvs.length < 16777216 then some (.nx (ρ.set i (.od (putKD kvs kd k v)))) else none := by
  unfold putDF getD'
  congr 1; funext v; congr 1; funext kd; congr 1; funext k
  cases ρ[i]? with
  | none => rfl
  | some s => cases s <;> rfl
@[simp] theorem e_fz (i : Nat) (g : FS) (ρ : Env) : fz i g ρ = g (PD.frz i ρ) := rfl
@[simp] theorem e_gn (i : Nat) (d : D) : gn i d = some [(i, d)] := rfl
@[simp] theorem e_gTupD (n : Nat) (gs : List D → Option Puts) (ds : List D) : gTupD n gs (.tuple ds) = if ds.length = n then gs ds else none := rfl
@[simp] theorem e_gsNil : gsNil [] = some [] := rfl
@[simp] theorem e_gsCons (g : D → Option Puts) (gs : List D → Option Puts) (d : D) (ds : List D) : gsCons g gs (d :: ds) = (g d).bind fun a => (gs ds).map fun b => a ++ b := rfl
@[simp] theorem e_putAll_nil (ρ : Env) : putAll ρ [] = ρ := rfl
@[simp] theorem e_putAll_cons (ρ : Env) (p : Nat × D) (us : Puts) : putAll ρ (p :: us) = putAll (ρ.set p.1 (.val p.2)) us := rfl
@[simp] theorem e_wipe_nil (ρ : Env) : wipeE ρ [] = ρ := rfl
@[simp] theorem e_wipe_cons (ρ : Env) (v : Nat) (vs : List Nat) : wipeE ρ (v :: vs) = (wipeE ρ vs).set v .un := rfl
@[simp] theorem e_forF (f : FA) (gt : D → Option Puts) (gb : FS) (ρ : Env) : forF f gt gb ρ = (f ρ).bind fun ds => forD gt gb ds ρ := rfl
@[simp] theorem e_parF (i j : Nat) (f : FA) (ρ : Env) : parF i j f ρ = (f ρ).bind fun ds => match ds with | [d, e] => some (.nx ((ρ.set i (.val d)).set j (.val e))) | _ => none := rfl
theorem then_nx {g h : FS} {ρ ρ' : Env} (e : g ρ = some (.nx ρ')) : thenF g h ρ = h ρ' := by rw [e_thenF, e]; rfl
theorem then_rt {g h : FS} {ρ : Env} {d : D} (e : g ρ = some (.rt d)) : thenF g h ρ = some (.rt d) := by rw [e_thenF, e]; rfl
theorem then_set {i : Nat} {f : FE} {h : FS} {ρ : Env} {d : D} (e : f ρ = some d) : thenF (setF i f) h ρ = h (ρ.set i (.val d)) := then_nx (by rw [e_setF, e]; rfl)
theorem then_setL {i : Nat} {f : FA} {h : FS} {ρ : Env} {d : List D} (e : f ρ = some d) : thenF (setLF i f) h ρ = h (ρ.set i (.ol d)) := then_nx (by rw [e_setLF, e]; rfl)
theorem then_setD {i : Nat} {f : Env → Option KV2} {h : FS} {ρ : Env} {d : KV2} (e : f ρ = some d) : thenF (setDF i f) h ρ = h (ρ.set i (.od d)) := then_nx (by rw [e_setDF, e]; rfl)
theorem then_if_t {f : FB} {g k h : FS} {ρ ρ' : Env} (e : f ρ = some true) (e2 : g ρ = some (.nx ρ')) : thenF (ifF f g k) h ρ = h ρ' := then_nx (by rw [e_ifF, e]; exact e2)
theorem then_if_f {f : FB} {g k h : FS} {ρ ρ' : Env} (e : f ρ = some false) (e2 : k ρ = some (.nx ρ')) : thenF (ifF f g k) h ρ = h ρ' := then_nx (by rw [e_ifF, e]; exact e2)
theorem then_ift_rt {f : FB} {g k h : FS} {ρ : Env} {d : D} (e : f ρ = some true) (e2 : g ρ = some (.rt d)) : thenF (ifF f g k) h ρ = some (.rt d) := then_rt (by rw [e_ifF, e]; exact e2)
theorem ret_of {f : FE} {ρ : Env} {d : D} (e : f ρ = some d) : retF f ρ = some (.rt d) := by rw [e_retF, e]; rfl
theorem for_of {f : FA} {gt : D → Option Puts} {gb : FS} {ρ : Env} {ds : List D} {o : Out} (e : f ρ = some ds) (e2 : forD gt gb ds ρ = some o) : forF f gt gb ρ = some o := by rw [e_forF, e]; exact e2
theorem fnD_of {n m : Nat} {g : FS} {ds : List D} (h : ds.length = m) : fnD n m g ds = (g (startE n ds)).bind fun o => match o with | .rt d => some d | .nx _ => some .none | _ => none := if_pos h
theorem fn_ret {n m : Nat} {g : FS} {ds : List D} {d : D} (h : ds.length = m) (e : g (startE n ds) = some (.rt d)) : fnD n m g ds = some d := by
  rw [fnD_of h, e]; rfl
/-! ### operators on numbers -/
@[simp] theorem o_add (a b : Int) : addD (.int a) (.int b) = some (.int (a + b)) := rfl
@[simp] theorem o_sub (a b : Int) : subD (.int a) (.int b) = some (.int (a - b)) := rfl
@[simp] theorem o_neg (a : Int) : negD (.int a) = some (.int (-a)) := rfl
@[simp] theorem o_iadd (a b : Int) : iaddD (.int a) (.int b) = some (.int (a + b)) := rfl
theorem o_addT (a b : List D) (h : a.length + b.length ≤ 16777216) : addD (.tuple a) (.tuple b) = some (.tuple (a ++ b)) := if_pos h
theorem o_cat (a b : List D) (h : a.length + b.length ≤ 16777216) : catL (.list a) (.list b) = some (a ++ b) := if_pos h
theorem o_mod (a b : Int) (h : 0 < b) : modD (.int a) (.int b) = some (.int (a % b)) := if_pos h
theorem o_fdiv (a b : Int) (h : 0 < b) (h2 : b < 1073741824) : fdivD (.int a) (.int b) = some (.int (a / b)) := if_pos ⟨h, h2⟩
theorem o_mul (a b : Int) (h : (-18446744073709551616 < a ∧ a < 18446744073709551616) ∨ (-18446744073709551616 < b ∧ b < 18446744073709551616)) : mulD (.int a) (.int b) = some (.int (a * b)) := if_pos (.inl h)
@[simp] theorem o_int (a : Int) : intD [.int a] = some (.int a) := rfl
@[simp] theorem o_intb (a : Bool) : intD [.bool a] = some (.int (if a = true then 1 else 0)) := rfl
@[simp] theorem o_lenL (l : List D) : lenD [.list l] = some (.int l.length) := rfl
@[simp] theorem o_lenT (l : List D) : lenD [.tuple l] = some (.int l.length) := rfl
@[simp] theorem o_tupL (l : List D) : tupD [.list l] = some (.tuple l) := rfl
@[simp] theorem o_tupT (l : List D) : tupD [.tuple l] = some (.tuple l) := rfl
@[simp] theorem o_listL (l : List D) : listL [.list l] = some l := rfl
@[simp] theorem o_listT (l : List D) : listL [.tuple l] = some l := rfl
@[simp] theorem o_abs (a : Int) : absD [.int a] = some (.int (if a < 0 then -a else a)) := rfl
@[simp] theorem o_max2 (a b : Int) : max2D [.int a, .int b] = some (.int (if b > a then b else a)) := rfl
@[simp] theorem o_min2 (a b : Int) : min2D [.int a, .int b] = some (.int (if b < a then b else a)) := rfl
@[simp] theorem o_isN : isD .none .none = some (.bool true) := rfl
@[simp] theorem o_isI (i : Int) : isD (.int i) .none = some (.bool false) := rfl
@[simp] theorem o_isT (i : List D) : isD (.tuple i) .none = some (.bool false) := rfl
@[simp] theorem o_isB (i : Bool) : isD (.bool i) .none = some (.bool false) := rfl
@[simp] theorem o_isS (i : Str) : isD (.str i) .none = some (.bool false) := rfl
@[simp] theorem o_isnN : isNotD .none .none = some (.bool false) := rfl
@[simp] theorem o_isnI (i : Int) : isNotD (.int i) .none = some (.bool true) := rfl
@[simp] theorem o_isnT (i : List D) : isNotD (.tuple i) .none = some (.bool true) := rfl
@[simp] theorem o_all (bs : List Bool) : allD [.list (bs.map .bool)] = some (.bool (bs.all id)) := by
  have : boolsOf (bs.map .bool) = some bs := by
    induction bs with
    | nil => rfl
    | cons b bs ih => simp [boolsOf, ih]
  simp [allD, this]
@[simp] theorem o_any (bs : List Bool) : anyD [.list (bs.map .bool)] = some (.bool (bs.any id)) := by
  have : boolsOf (bs.map .bool) = some bs := by
    induction bs with
    | nil => rfl
    | cons b bs ih => simp [boolsOf, ih]
  simp [anyD, this]
@[simp] theorem o_sum (ns : List Int) : sumD [.list (ns.map .int)] = some (.int ns.sum) := by simp [sumD, intsOf_map]
theorem lineD_of (ds : List D) (h : ds.length ≤ 16777216) : lineD ds = some ds := if_pos h
@[simp] theorem o_line0 : lineD [] = some [] := rfl
@[simp] theorem o_line1 (a : D) : lineD [a] = some [a] := rfl
@[simp] theorem o_line2 (a b : D) : lineD [a, b] = some [a, b] := rfl
@[simp] theorem o_line3 (a b c : D) : lineD [a, b, c] = some [a, b, c] := rfl
@[simp] theorem o_line4 (a b c d : D) : lineD [a, b, c, d] = some [a, b, c, d] := rfl
@[simp] theorem o_line5 (a b c d e : D) : lineD [a, b, c, d, e] = some [a, b, c, d, e] := rfl
theorem o_rg1 (n : Int) (h : smallI n) : rg1 [.int n] = some ((List.range n.toNat).map fun i => .int (i : Nat)) := by
  show (if smallI n then some (rgD 0 n) else none) = _
  rw [if_pos h]
  unfold rgD
  rw [Int.sub_zero]
  congr 1
  refine List.map_congr_left fun i _ => ?_
  rw [Int.zero_add]
theorem o_rg1n (n : Nat) (h : n < 4611686018427387904) : rg1 [.int (n : Int)] = some ((List.range n).map fun i => .int (i : Nat)) := o_rg1 n ⟨by omega, by omega⟩
theorem o_rg2 (a b : Int) (ha : smallI a) (hb : smallI b) : rg2 [.int a, .int b] = some ((List.range (b - a).toNat).map fun i => .int (a + (i : Nat))) := by
  show (if smallI a ∧ smallI b then some (rgD a b) else none) = _
  rw [if_pos ⟨ha, hb⟩]
  rfl
theorem atI_nat {α : Type} {xs : List α} {i : Nat} {x : α} (h : xs[i]? = some x) : atI xs (i : Int) = some x := by
  have hl := (List.getElem?_eq_some_iff.mp h).1
  unfold atI
  have e : L2.ixN xs.length (i : Int) = some i := by
    unfold L2.ixN
    rw [if_pos (by omega), if_pos (by omega), Int.toNat_natCast]
  rw [e]
  exact h
theorem atI_int {α : Type} {xs : List α} {i : Int} {x : α} (h0 : 0 ≤ i) (h : xs[i.toNat]? = some x) : atI xs i = some x := by
  have : i = ((i.toNat : Nat) : Int) := by omega
  rw [this]
  exact atI_nat h
theorem atI_last {α : Type} {xs : List α} {x : α} (h : xs.getLast? = some x) : atI xs (-1) = some x := by
  have hl : 0 < xs.length := by
    cases xs with
    | nil => simp at h
    | cons a l => simp
  unfold atI ixN
  rw [if_neg (by omega), if_pos (by omega)]
  rw [List.getLast?_eq_getElem?] at h
  show xs[((-1 : Int) + (xs.length : Int)).toNat]? = some x
  rw [show ((-1 : Int) + (xs.length : Int)).toNat = xs.length - 1 by omega]
  exact h
@[simp] theorem o_ixL (ds : List D) (i : Int) : ixD (.list ds) (.int i) = atI ds i := rfl
@[simp] theorem o_ixT (ds : List D) (i : Int) : ixD (.tuple ds) (.int i) = atI ds i := rfl
theorem atI_map {α β : Type} (f : α → β) {xs : List α} {i : Int} : atI (xs.map f) i = (atI xs i).map f := by
  unfold atI
  rw [List.length_map]
  cases ixN xs.length i with
  | none => rfl
  | some j => simp
@[simp] theorem atI_lit0 {α : Type} (a : α) (l : List α) : atI (a :: l) 0 = some a := atI_nat (i := 0) rfl
@[simp] theorem atI_lit1 {α : Type} (a b : α) (l : List α) : atI (a :: b :: l) 1 = some b := atI_nat (i := 1) rfl
@[simp] theorem atI_lit2 {α : Type} (a b c : α) (l : List α) : atI (a :: b :: c :: l) 2 = some c := atI_nat (i := 2) rfl
@[simp] theorem atI_lit3 {α : Type} (a b c d : α) (l : List α) : atI (a :: b :: c :: d :: l) 3 = some d := atI_nat (i := 3) rfl
@[simp] theorem atI_lit4 {α : Type} (a b c d e : α) (l : List α) : atI (a :: b :: c :: d :: e :: l) 4 = some e := atI_nat (i := 4) rfl
/-! ### slices -/
@[simp] theorem o_slT (ds : List D) (a b : Option Int) : slD (.tuple ds) a b = some (.tuple (cutD ds a b)) := rfl
@[simp] theorem o_slL (ds : List D) (a b : Option Int) : slL (.list ds) a b = some (cutD ds a b) := rfl
theorem sIx_nat' (n d : Nat) (i : Int) (h : 0 ≤ i) : HT.sIx n d (some i) = min i.toNat n := by
  have := HT.sIx_nat n d i.toNat
  rw [show ((i.toNat : Nat) : Int) = i by omega] at this
  exact this
theorem cut_from (ds : List D) (i : Int) (h : 0 ≤ i) : cutD ds (some i) none = ds.drop i.toNat := by
  unfold cutD
  rw [sIx_nat' _ _ _ h, HT.sIx_none]
  rcases Nat.le_total i.toNat ds.length with z | z
  · rw [Nat.min_eq_left z, List.take_of_length_le (by rw [List.length_drop]; omega)]
  · rw [Nat.min_eq_right z, List.drop_length, List.drop_eq_nil_of_le z, List.take_nil]
theorem cut_to (ds : List D) (i : Int) (h : 0 ≤ i) : cutD ds none (some i) = ds.take i.toNat := by
  unfold cutD
  rw [sIx_nat' _ _ _ h, HT.sIx_none]
  rw [List.drop_zero, Nat.sub_zero]
  rcases Nat.le_total i.toNat ds.length with z | z
  · rw [Nat.min_eq_left z]
  · rw [Nat.min_eq_right z, List.take_of_length_le (Nat.le_refl _), List.take_of_length_le z]
theorem sIx_neg' (n d : Nat) (i : Int) (h : i < 0) : HT.sIx n d (some i) = (n + i).toNat := by
  show (if i < 0 then (i + (n : Int)).toNat else min i.toNat n) = _
  rw [if_pos h, Int.add_comm]
theorem cut_neg1 (ds : List D) : cutD ds none (some (-1)) = ds.dropLast := by
  unfold cutD
  rw [sIx_neg' _ _ _ (by decide), HT.sIx_none, List.drop_zero, Nat.sub_zero, List.dropLast_eq_take]
  congr 1
  omega
theorem cut_tail (ds : List D) : cutD ds (some 1) none = ds.drop 1 := cut_from ds 1 (by decide)
/-! ### loops -/
/-- a loop that goes to its end: R holds of the state and the names all the way -/
theorem forD_inv {α β : Type} {gt : D → Option Puts} {gb : FS} (enc : α → D) (R : β → Env → Prop) (step : β → α → β) :
    ∀ (l : List α), (∀ b a ρ, a ∈ l → R b ρ → ∃ us ρ', gt (enc a) = some us ∧ (gb (putAll ρ us) = some (.nx ρ') ∨ gb (putAll ρ us) = some (.ct ρ')) ∧ R (step b a) ρ') →
    ∀ b ρ, R b ρ → ∃ ρ', forD gt gb (l.map enc) ρ = some (.nx ρ') ∧ R (l.foldl step b) ρ'
  | [], h, b, ρ, hr => ⟨ρ, rfl, hr⟩
  | a :: l, h, b, ρ, hr => by
    obtain ⟨us, ρ', h1, h2, h3⟩ := h b a ρ List.mem_cons_self hr
    obtain ⟨ρ'', h4, h5⟩ := forD_inv enc R step l (fun b a ρ ha => h b a ρ (List.mem_cons_of_mem _ ha)) _ _ h3
    refine ⟨ρ'', ?_, h5⟩
    rw [List.map_cons]
    show (gt (enc a)).bind _ = _
    rw [h1]
    show (gb (putAll ρ us)).bind _ = _
    rcases h2 with h2 | h2 <;> rw [h2] <;> exact h4
/-- .. in its steps, each with its place -/
theorem forD_ix {α : Type} {gt : D → Option Puts} {gb : FS} (enc : α → D) (l : List α) (R : Nat → Env → Prop)
    (h : ∀ i a ρ, l[i]? = some a → R i ρ → ∃ us ρ', gt (enc a) = some us ∧ (gb (putAll ρ us) = some (.nx ρ') ∨ gb (putAll ρ us) = some (.ct ρ')) ∧ R (i + 1) ρ') {ρ : Env} (h0 : R 0 ρ) :
    ∃ ρ', forD gt gb (l.map enc) ρ = some (.nx ρ') ∧ R l.length ρ' := by
  have key : ∀ (m : List α) (k : Nat) (ρ : Env), (∀ i a, m[i]? = some a → l[k + i]? = some a) → R k ρ → ∃ ρ', forD gt gb (m.map enc) ρ = some (.nx ρ') ∧ R (k + m.length) ρ' := by
    intro m
    induction m with
    | nil => intro k ρ _ hr; exact ⟨ρ, rfl, hr⟩
    | cons a m ih =>
      intro k ρ hm hr
      obtain ⟨us, ρ', h1, h2, h3⟩ := h k a ρ (hm 0 a rfl) hr
      obtain ⟨ρ'', h4, h5⟩ := ih (k + 1) ρ' (fun i b hb => by rw [show k + 1 + i = k + (i + 1) by omega]; exact hm (i + 1) b hb) h3
      refine ⟨ρ'', ?_, by rw [List.length_cons, show k + (m.length + 1) = k + 1 + m.length by omega]; exact h5⟩
      rw [List.map_cons]
      show (gt (enc a)).bind _ = _
      rw [h1]
      show (gb (putAll ρ us)).bind _ = _
      rcases h2 with h2 | h2 <;> rw [h2] <;> exact h4
  have := key l 0 ρ (fun i a h => by rw [Nat.zero_add]; exact h) h0
  rwa [Nat.zero_add] at this
/-- a loop that may return: step says what is returned, or the state -/
def runE {α β γ : Type} (step : β → α → γ ⊕ β) : List α → β → γ ⊕ β
  | [], b => .inr b
  | a :: l, b => match step b a with
    | .inl c => .inl c
    | .inr b' => runE step l b'
theorem forD_ret {α β : Type} {gt : D → Option Puts} {gb : FS} (enc : α → D) (R : β → Env → Prop) (step : β → α → D ⊕ β) :
    ∀ (l : List α), (∀ b a ρ, a ∈ l → R b ρ → ∃ us, gt (enc a) = some us ∧ match step b a with
      | .inl d => gb (putAll ρ us) = some (.rt d)
      | .inr b' => ∃ ρ', (gb (putAll ρ us) = some (.nx ρ') ∨ gb (putAll ρ us) = some (.ct ρ')) ∧ R b' ρ') →
    ∀ b ρ, R b ρ → match runE step l b with
      | .inl d => forD gt gb (l.map enc) ρ = some (.rt d)
      | .inr b' => ∃ ρ', forD gt gb (l.map enc) ρ = some (.nx ρ') ∧ R b' ρ'
  | [], h, b, ρ, hr => ⟨ρ, rfl, hr⟩
  | a :: l, h, b, ρ, hr => by
    obtain ⟨us, h1, h2⟩ := h b a ρ List.mem_cons_self hr
    unfold runE
    have e : forD gt gb ((a :: l).map enc) ρ = (gb (putAll ρ us)).bind fun o => match o with
      | .nx ρ' => forD gt gb (l.map enc) ρ'
      | .ct ρ' => forD gt gb (l.map enc) ρ'
      | .bk ρ' => some (.nx ρ')
      | .rt d => some (.rt d) := by
      rw [List.map_cons]
      show (gt (enc a)).bind _ = _
      rw [h1]; rfl
    rw [e]
    cases hs : step b a with
    | inl d => rw [hs] at h2; simp only at h2 ⊢; rw [h2]; rfl
    | inr b' =>
      rw [hs] at h2
      simp only at h2 ⊢
      obtain ⟨ρ', h3, h4⟩ := h2
      have ih := forD_ret enc R step l (fun b a ρ ha => h b a ρ (List.mem_cons_of_mem _ ha)) b' ρ' h4
      rcases h3 with h3 | h3 <;> rw [h3] <;> exact ih
/-! ### comprehensions -/
theorem lcGo_eq {α : Type} {vs : List Nat} {g : D → Option Puts} {tt : FB} {fe : FE} {ρ : Env} (enc : α → D) (us : α → Puts) (p : α → Bool) (q : α → D) :
    ∀ l : List α, (∀ a ∈ l, g (enc a) = some (us a) ∧ tt (putAll (wipeE ρ vs) (us a)) = some (p a) ∧ (p a = true → fe (putAll (wipeE ρ vs) (us a)) = some (q a))) →
      lcGo vs g tt fe ρ (l.map enc) = some ((l.filter p).map q)
  | [], _ => rfl
  | a :: l, h => by
    obtain ⟨h1, h2, h3⟩ := h a List.mem_cons_self
    have ih := lcGo_eq enc us p q l fun b hb => h b (List.mem_cons_of_mem _ hb)
    rw [List.map_cons]
    unfold lcGo
    rw [h1]
    show (tt _).bind _ = _
    rw [h2]
    show (if p a = true then _ else _) = _
    rw [List.filter_cons]
    split
    · rename_i hp
      rw [h3 hp, ih]
      rfl
    · exact ih
theorem lcF_eq {α : Type} {vs : List Nat} {f : FA} {g : D → Option Puts} {tt : FB} {fe : FE} {ρ : Env} (enc : α → D) (us : α → Puts) (p : α → Bool) (q : α → D) (l : List α) (hf : f ρ = some (l.map enc)) (hl : l.length ≤ 16777216)
    (h : ∀ a ∈ l, g (enc a) = some (us a) ∧ tt (putAll (wipeE ρ vs) (us a)) = some (p a) ∧ (p a = true → fe (putAll (wipeE ρ vs) (us a)) = some (q a))) : lcF vs f g tt fe ρ = some ((l.filter p).map q) := by
  unfold lcF
  rw [hf]
  show (if (l.map enc).length ≤ 16777216 then _ else none) = _
  rw [List.length_map, if_pos hl]
  exact lcGo_eq enc us p q l h
/-- with no test -/
theorem lcF_map {α : Type} {vs : List Nat} {f : FA} {g : D → Option Puts} {fe : FE} {ρ : Env} (enc : α → D) (us : α → Puts) (q : α → D) (l : List α) (hf : f ρ = some (l.map enc)) (hl : l.length ≤ 16777216)
    (h : ∀ a ∈ l, g (enc a) = some (us a) ∧ fe (putAll (wipeE ρ vs) (us a)) = some (q a)) : lcF vs f g noIf fe ρ = some (l.map q) := by
  rw [lcF_eq enc us (fun _ => true) q l hf hl (fun a ha => ⟨(h a ha).1, rfl, fun _ => (h a ha).2⟩)]
  rw [List.filter_eq_self.mpr (fun _ _ => rfl)]
end PD

/-! PV1: typed data: their order, their least. -/
namespace PD
open PySem PySem.Spec PyProof.Rows L2
open PySem.W (alike alikeAll dataLt keyToks keyToksAll)
/-- a type whose values are data of one form -/
class Enc (α : Type) where
  enc : α → D
  dep : Nat
  ok : ∀ (a : α) (n : Nat), dep ≤ n → okN n (enc a) = true
  al : ∀ a b : α, alike (enc a) (enc b) = true
  nn : ∀ a : α, isNone (enc a) = false
  mu : ∀ a : α, isMut (enc a) = false
  eqv : ∀ a b : α, PyData.eqv (enc a) (enc b) = true ↔ a = b
open Enc
instance : Enc Int where
  enc := .int
  dep := 0
  ok _ n _ := by cases n <;> simp [okN]
  al _ _ := by simp [alike]
  nn _ := rfl
  mu _ := rfl
  eqv a b := by simp [PyData.eqv]
theorem eqvs_map {α : Type} [Enc α] : ∀ a b : List α, PyData.eqvAll (a.map enc) (b.map enc) = true ↔ a = b
  | [], [] => by simp [PyData.eqvAll]
  | [], y :: ys => by simp [PyData.eqvAll]
  | x :: xs, [] => by simp [PyData.eqvAll]
  | x :: xs, y :: ys => by
    rw [List.map_cons, List.map_cons, PyData.eqvAll, Bool.and_eq_true, Enc.eqv, eqvs_map xs ys]
    simp
theorem alikes_map {α : Type} [Enc α] : ∀ xs ys : List α, alikeAll (xs.map enc) (ys.map enc) = true
  | [], _ => by rw [List.map_nil, alikeAll]
  | _ :: _, [] => by rw [List.map_nil, List.map_cons, alikeAll]
  | x :: xs, y :: ys => by
    rw [List.map_cons, List.map_cons, alikeAll, Enc.al x y, alikes_map xs ys]
    rfl
theorem oks_map {α : Type} [Enc α] (n : Nat) (h : dep α ≤ n) : ∀ xs : List α, okNs n (xs.map enc) = true
  | [] => by simp [okNs]
  | x :: xs => by rw [List.map_cons, okNs, Enc.ok x n h, oks_map n h xs]; rfl
/-- tuples of any length -/
instance {α : Type} [Enc α] : Enc (List α) where
  enc l := .tuple (l.map enc)
  dep := dep α + 1
  ok a n h := by
    cases n with
    | zero => omega
    | succ n => rw [okN]; exact oks_map n (by omega) a
  al a b := by simp only [alike]; exact alikes_map a b
  nn _ := rfl
  mu _ := rfl
  eqv a b := by simp only [PyData.eqv]; exact eqvs_map a b
/-- pairs -/
instance {α β : Type} [Enc α] [Enc β] : Enc (α × β) where
  enc p := .tuple [enc p.1, enc p.2]
  dep := max (dep α) (dep β) + 1
  ok a n h := by
    cases n with
    | zero => omega
    | succ n =>
      rw [okN, okNs, okNs, okNs, Enc.ok a.1 n (by omega), Enc.ok a.2 n (by omega)]; rfl
  al a b := by simp only [alike, alikeAll, Enc.al]; rfl
  nn _ := rfl
  mu _ := rfl
  eqv a b := by
    obtain ⟨a1, a2⟩ := a
    obtain ⟨b1, b2⟩ := b
    simp [PyData.eqv, PyData.eqvAll, Enc.eqv]
/-- triples -/
structure T3 (α β γ : Type) where
  a : α
  b : β
  c : γ
instance {α β γ : Type} [Enc α] [Enc β] [Enc γ] : Enc (T3 α β γ) where
  enc p := .tuple [enc p.a, enc p.b, enc p.c]
  dep := max (dep α) (max (dep β) (dep γ)) + 1
  ok a n h := by
    cases n with
    | zero => omega
    | succ n =>
      rw [okN, okNs, okNs, okNs, okNs, Enc.ok a.a n (by omega), Enc.ok a.b n (by omega), Enc.ok a.c n (by omega)]; rfl
  al a b := by simp only [alike, alikeAll, Enc.al]; rfl
  nn _ := rfl
  mu _ := rfl
  eqv a b := by
    obtain ⟨a1, a2, a3⟩ := a
    obtain ⟨b1, b2, b3⟩ := b
    simp [PyData.eqv, PyData.eqvAll, Enc.eqv]
@[simp] theorem enc_int (a : Int) : enc a = (.int a : D) := rfl
@[simp] theorem enc_list {α : Type} [Enc α] (a : List α) : enc a = (.tuple (a.map enc) : D) := rfl
@[simp] theorem enc_pair {α β : Type} [Enc α] [Enc β] (a : α × β) : enc a = (.tuple [enc a.1, enc a.2] : D) := rfl
@[simp] theorem enc_t3 {α β γ : Type} [Enc α] [Enc β] [Enc γ] (a : T3 α β γ) : enc a = (.tuple [enc a.a, enc a.b, enc a.c] : D) := rfl
theorem enc_inj {α : Type} [Enc α] {a b : α} (h : enc a = enc b) : a = b := by
  have := (Enc.eqv b b).mpr rfl
  rw [← h] at this
  exact (Enc.eqv a a).mp this ▸ (Enc.eqv a b).mp (by rw [← h]; exact (Enc.eqv a a).mpr rfl)
section
variable {α : Type} [Enc α]
/-- a < b as Python says -/
def lt (a b : α) : Bool := dataLt (enc a) (enc b)
theorem lt_irr (a : α) : lt a a = false := lex_irrefl _
theorem lt_tr {a b c : α} (h : lt a b = true) (h' : lt b c = true) : lt a c = true := lex_trans _ _ _ h h'
theorem lt_tot {a b : α} (h : lt a b = false) (h' : lt b a = false) : a = b := by
  have e : keyToks (enc a) = keyToks (enc b) := lex_total _ _ h h'
  rw [← Enc.eqv]
  cases q : PyData.eqv (enc a) (enc b) with
  | true => rfl
  | false =>
    have z := (PySem.W.toks_eqv _ _ (Enc.al a b)).2 q [] [.inl 0]
    rw [e, PySem.W.lex_pre] at z
    have : lexLt itemOrd (keyToks (enc b)) (keyToks (enc b)) = false := lex_irrefl _
    rw [this] at z
    exact absurd z (by decide)
theorem lt_asym {a b : α} (h : lt a b = true) : lt b a = false := by
  cases q : lt b a with
  | false => rfl
  | true => exact absurd (lt_tr h q) (by rw [lt_irr]; decide)
theorem lt_ne {a b : α} (h : lt a b = true) : a ≠ b := fun e => by rw [e, lt_irr] at h; cases h
theorem le_tr {a b c : α} (h : lt b a = false) (h' : lt c b = false) : lt c a = false := by
  cases q : lt c a with
  | false => rfl
  | true =>
    cases r : lt a b with
    | true => rw [lt_tr q r] at h'; cases h'
    | false => have e := lt_tot h r; rw [e] at h'; rw [h'] at q; cases q
theorem lt_le {a b c : α} (h : lt a b = true) (h' : lt c b = false) : lt a c = true := by
  cases q : lt a c with
  | true => rfl
  | false =>
    have := le_tr h' q
    rw [this] at h; cases h
theorem le_lt {a b c : α} (h : lt b a = false) (h' : lt b c = true) : lt a c = true := by
  cases q : lt a c with
  | true => rfl
  | false =>
    have := le_tr q h
    rw [this] at h'; cases h'
theorem ltD_enc (h : dep α ≤ 40) (a b : α) : ltD (enc a) (enc b) = some (.bool (lt a b)) := if_pos ⟨Enc.ok a 40 h, Enc.ok b 40 h, Enc.al a b, Enc.nn a⟩
theorem gtD_enc (h : dep α ≤ 40) (a b : α) : gtD (enc a) (enc b) = some (.bool (lt b a)) := if_pos ⟨Enc.ok a 40 h, Enc.ok b 40 h, Enc.al a b, Enc.nn a⟩
theorem leD_enc (h : dep α ≤ 40) (a b : α) : leD (enc a) (enc b) = some (.bool (!lt b a)) := if_pos ⟨Enc.ok a 40 h, Enc.ok b 40 h, Enc.al a b, Enc.nn a⟩
theorem geD_enc (h : dep α ≤ 40) (a b : α) : geD (enc a) (enc b) = some (.bool (!lt a b)) := if_pos ⟨Enc.ok a 40 h, Enc.ok b 40 h, Enc.al a b, Enc.nn a⟩
theorem eqv_dec [DecidableEq α] (a b : α) : PyData.eqv (enc a) (enc b) = decide (a = b) := by
  by_cases e : a = b
  · rw [decide_eq_true e, Enc.eqv]; exact e
  · rw [decide_eq_false e]
    cases q : PyData.eqv (enc a) (enc b) with
    | false => rfl
    | true => exact absurd ((Enc.eqv a b).mp q) e
theorem eqD_enc [DecidableEq α] (h : dep α ≤ 40) (a b : α) : eqD (enc a) (enc b) = some (.bool (decide (a = b))) := by
  rw [← eqv_dec]; exact if_pos ⟨Enc.ok a 40 h, Enc.ok b 40 h⟩
theorem neD_enc [DecidableEq α] (h : dep α ≤ 40) (a b : α) : neD (enc a) (enc b) = some (.bool (!decide (a = b))) := by
  rw [← eqv_dec]; exact if_pos ⟨Enc.ok a 40 h, Enc.ok b 40 h⟩
theorem any_enc [DecidableEq α] (a : α) (l : List α) : ((l.map enc).any fun y => PyData.eqv y (enc a)) = decide (a ∈ l) := by
  induction l with
  | nil => simp
  | cons x xs ih =>
    rw [List.map_cons, List.any_cons, ih, eqv_dec]
    by_cases e : x = a
    · subst e; simp
    · have : ¬ a = x := fun z => e z.symm
      simp [e, this]
theorem inL_enc [DecidableEq α] (h : dep α ≤ 40) (neg : Bool) (a : α) (l : List α) : inD neg (enc a) (.list (l.map enc)) = some (.bool (neg ^^ decide (a ∈ l))) := by
  rw [← any_enc]; exact if_pos ⟨Enc.ok a 40 h, oks_map 40 h l⟩
theorem inT_enc [DecidableEq α] (h : dep α ≤ 40) (neg : Bool) (a : α) (l : List α) : inD neg (enc a) (.tuple (l.map enc)) = some (.bool (neg ^^ decide (a ∈ l))) := by
  rw [← any_enc]; exact if_pos ⟨Enc.ok a 40 h, oks_map 40 h l⟩
/-! ### the least -/
def minF (a : α) (l : List α) : α := l.foldl (fun x y => if lt y x = true then y else x) a
theorem minF_spec : ∀ (l : List α) (a : α), minF a l ∈ a :: l ∧ ∀ x ∈ a :: l, lt x (minF a l) = false
  | [], a => ⟨List.mem_cons_self, fun x hx => by
      have : x = a := by simpa using hx
      subst this; exact lt_irr _⟩
  | y :: l, a => by
    show minF (if lt y a = true then y else a) l ∈ _ ∧ ∀ x ∈ _, lt x (minF (if lt y a = true then y else a) l) = false
    split
    · rename_i h
      obtain ⟨h1, h2⟩ := minF_spec l y
      refine ⟨by rcases List.mem_cons.mp h1 with z | z <;> simp [z], fun x hx => ?_⟩
      rcases List.mem_cons.mp hx with rfl | hx
      · exact le_tr (h2 y List.mem_cons_self) (lt_asym h)
      · rcases List.mem_cons.mp hx with rfl | hx
        · exact h2 _ List.mem_cons_self
        · exact h2 _ (List.mem_cons_of_mem _ hx)
    · rename_i h
      have h : lt y a = false := by simpa using h
      obtain ⟨h1, h2⟩ := minF_spec l a
      refine ⟨by rcases List.mem_cons.mp h1 with z | z <;> simp [z], fun x hx => ?_⟩
      rcases List.mem_cons.mp hx with rfl | hx
      · exact h2 _ List.mem_cons_self
      · rcases List.mem_cons.mp hx with rfl | hx
        · exact le_tr (h2 a List.mem_cons_self) h
        · exact h2 _ (List.mem_cons_of_mem _ hx)
def minO : List α → Option α
  | [] => none
  | a :: l => some (minF a l)
/-- m is the least of l -/
def IsMin (l : List α) (m : α) : Prop := m ∈ l ∧ ∀ x ∈ l, lt x m = false
theorem minO_spec {l : List α} {m : α} (h : minO l = some m) : IsMin l m := by
  cases l with
  | nil => cases h
  | cons a l => cases h; exact minF_spec l a
theorem IsMin.uniq {l : List α} {m m' : α} (h : IsMin l m) (h' : IsMin l m') : m = m' := lt_tot (h'.2 m h.1) (h.2 m' h'.1)
theorem minO_of {l : List α} {m : α} (h : IsMin l m) : minO l = some m := by
  cases l with
  | nil => exact absurd h.1 (by simp)
  | cons a l => exact congrArg some (IsMin.uniq (minF_spec l a) h)
theorem minO_nil {l : List α} : minO l = none ↔ l = [] := by cases l <;> simp [minO]
/-- the least hangs on what is in the list -/
theorem minO_congr {l l' : List α} (h : ∀ x, x ∈ l ↔ x ∈ l') : minO l = minO l' := by
  cases e : minO l with
  | none =>
    rw [minO_nil] at e
    subst e
    cases l' with
    | nil => rfl
    | cons a l' => exact absurd ((h a).mpr List.mem_cons_self) (by simp)
  | some m =>
    have := minO_spec e
    exact (minO_of ⟨(h m).mp this.1, fun x hx => this.2 x ((h x).mpr hx)⟩).symm
theorem alikeB_enc (l : List α) : alikeB (l.map enc) = true := by
  unfold alikeB
  rw [List.all_eq_true]
  intro x hx
  obtain ⟨a, _, rfl⟩ := List.mem_map.mp hx
  rw [Enc.nn, Bool.and_eq_true, List.all_eq_true]
  refine ⟨rfl, fun y hy => ?_⟩
  obtain ⟨b, _, rfl⟩ := List.mem_map.mp hy
  exact Enc.al a b
theorem minD_enc (a : α) (l : List α) : PySem.W.minD (enc a) (l.map enc) = enc (minF a l) := by
  unfold PySem.W.minD minF
  induction l generalizing a with
  | nil => rfl
  | cons y l ih =>
    rw [List.map_cons, List.foldl_cons, List.foldl_cons]
    have : (if dataLt (enc y) (enc a) = true then enc y else enc a) = enc (if lt y a = true then y else a) := by
      unfold lt
      split <;> rfl
    rw [this]
    exact ih _
theorem minL_enc (h : dep α ≤ 40) (a : α) (l : List α) : minL [.list ((a :: l).map enc)] = some (enc (minF a l)) := by
  rw [← minD_enc]
  exact if_pos ⟨oks_map 40 h (a :: l), alikeB_enc (a :: l)⟩
theorem minL_some (h : dep α ≤ 40) {l : List α} {m : α} (e : minO l = some m) : minL [.list (l.map enc)] = some (enc m) := by
  cases l with
  | nil => cases e
  | cons a l => cases e; exact minL_enc h a l
theorem minLt_some (h : dep α ≤ 40) {l : List α} {m : α} (e : minO l = some m) : minL [.tuple (l.map enc)] = some (enc m) := by
  cases l with
  | nil => cases e
  | cons a l =>
    cases e
    rw [← minD_enc]
    exact if_pos ⟨oks_map 40 h (a :: l), alikeB_enc (a :: l)⟩
theorem min2L_enc (h : dep α ≤ 40) (a b : α) : min2L [enc a, enc b] = some (enc (if lt b a = true then b else a)) := by
  unfold min2L
  show (if (okDs [enc a, enc b] = true ∧ alikeB [enc a, enc b] = true) ∧ isMut (enc a) = false ∧ isMut (enc b) = false then some (if dataLt (enc b) (enc a) = true then enc b else enc a) else none) = _
  rw [if_pos ⟨⟨oks_map 40 h [a, b], alikeB_enc [a, b]⟩, Enc.mu a, Enc.mu b⟩]
  unfold lt
  split <;> rfl
/-- a map that keeps the order keeps the least -/
theorem minO_map {β : Type} [Enc β] (f : α → β) (hf : ∀ a b, lt a b = true → lt (f a) (f b) = true) (l : List α) : minO (l.map f) = (minO l).map f := by
  cases e : minO l with
  | none => rw [minO_nil] at e; subst e; rfl
  | some m =>
    have := minO_spec e
    refine minO_of ⟨List.mem_map.mpr ⟨m, this.1, rfl⟩, fun x hx => ?_⟩
    obtain ⟨y, hy, rfl⟩ := List.mem_map.mp hx
    cases q : lt m y with
    | true => exact lt_asym (hf _ _ q)
    | false =>
      rw [lt_tot q (this.2 y hy)]
      exact lt_irr _
/-- the least of the parts' least ones -/
theorem minO_flat (ls : List (List α)) : minO ls.flatten = minO (ls.filterMap minO) := by
  cases e : minO (ls.filterMap minO) with
  | none =>
    rw [minO_nil] at e ⊢
    rw [List.flatten_eq_nil_iff]
    intro l hl
    cases q : minO l with
    | none => exact minO_nil.mp q
    | some m =>
      have : m ∈ ls.filterMap minO := List.mem_filterMap.mpr ⟨l, hl, q⟩
      rw [e] at this
      cases this
  | some m =>
    have := minO_spec e
    obtain ⟨l, hl, hm⟩ := List.mem_filterMap.mp this.1
    have sp := minO_spec hm
    refine minO_of ⟨List.mem_flatten.mpr ⟨l, hl, sp.1⟩, fun x hx => ?_⟩
    obtain ⟨l', hl', hx'⟩ := List.mem_flatten.mp hx
    cases q : minO l' with
    | none => rw [minO_nil] at q; subst q; cases hx'
    | some m' =>
      have sp' := minO_spec q
      exact le_tr (this.2 m' (List.mem_filterMap.mpr ⟨l', hl', q⟩)) (sp'.2 x hx')
end
/-! ### the order of numbers, pairs, rows -/
@[simp] theorem lt_int (a b : Int) : lt a b = decide (a < b) := PySem.W.dataLt_int a b
theorem lt_pair {α β : Type} [Enc α] [Enc β] [DecidableEq α] (a b : α × β) : lt a b = if a.1 = b.1 then lt a.2 b.2 else lt a.1 b.1 := by
  unfold lt
  show dataLt (.tuple [enc a.1, enc a.2]) (.tuple [enc b.1, enc b.2]) = _
  rw [PySem.W.dataLt_pair (Enc.al _ _) (Enc.al _ _)]
  by_cases h : a.1 = b.1
  · rw [if_pos ((Enc.eqv _ _).mpr h), if_pos h]
    split
    · rename_i h2
      rw [(Enc.eqv _ _).mp h2]
      exact (lex_irrefl _).symm
    · rfl
  · rw [if_neg (fun z => h ((Enc.eqv _ _).mp z)), if_neg h]
theorem lt_nil_cons {α : Type} [Enc α] (a : α) (l : List α) : lt ([] : List α) (a :: l) = true := by
  unfold lt
  show dataLt (.tuple []) (.tuple (enc a :: l.map enc)) = true
  rw [PySem.W.dataLt_tuple, PySem.W.toks_all_cons]
  simp only [keyToksAll]
  rw [lex_diff (O := itemOrd) (by simp)]
  rfl
theorem lt_nil {α : Type} [Enc α] (l : List α) : lt l ([] : List α) = false := by
  cases l with
  | nil => exact lt_irr _
  | cons a l => exact lt_asym (lt_nil_cons a l)
theorem lt_cons {α : Type} [Enc α] [DecidableEq α] (a b : α) (l m : List α) : lt (a :: l) (b :: m) = if a = b then lt l m else lt a b := by
  unfold lt
  show dataLt (.tuple (enc a :: l.map enc)) (.tuple (enc b :: m.map enc)) = _
  rw [PySem.W.dataLt_tuple, PySem.W.dataLt_cons (Enc.al a b)]
  by_cases h : a = b
  · rw [if_pos ((Enc.eqv _ _).mpr h), if_pos h]
    show _ = dataLt (.tuple (l.map enc)) (.tuple (m.map enc))
    rw [PySem.W.dataLt_tuple]
  · rw [if_neg (fun z => h ((Enc.eqv _ _).mp z)), if_neg h]
end PD

/-! PV2: what all laws share: mixed, row, is_int, like. -/
namespace PD
open PySem PySem.Spec PyProof.Rows L2
open Enc
noncomputable def mixG : FS :=
 (thenF (setF 2 (cst (.int 0)))
 (thenF (ifF (tc gtD (cl lenD (acons (lp 0) anil)) (cst (.int 0)))
 (setF 2 (b2 ixD (lp 0) (b2 modD (lp 1) (cl lenD (acons (lp 0) anil)))))
 skip)
 (thenF (setF 3 (b2 modD (cl intD (acons (b2 addD (b2 addD (b2 mulD (lp 2) (cst (.int 48271))) (b2 mulD (lp 1) (cst (.int 69621)))) (cst (.int 8191))) anil)) (cst (.int 2147483647))))
 (thenF (setF 4 (b2 modD (cl intD (acons (b2 addD (b2 addD (b2 mulD (lp 3) (lp 3)) (b2 fdivD (lp 3) (cst (.int 7)))) (b2 mulD (lp 1) (cst (.int 16807)))) anil)) (cst (.int 2147483629))))
 (thenF (setF 5 (b2 modD (cl intD (acons (b2 addD (b2 addD (b2 mulD (lp 4) (lp 4)) (b2 fdivD (lp 4) (cst (.int 11)))) (cst (.int 40692))) anil)) (cst (.int 2147483563))))
 (retF (b2 modD (b2 fdivD (lp 5) (cst (.int 5))) (cst (.int 1000003)))))))))
noncomputable def mixD : List D → Option D := fnD 6 2 mixG
@[simp] theorem gt_int (a b : Int) : gtD (.int a) (.int b) = some (.bool (decide (b < a))) := by
  have := gtD_enc (α := Int) (by decide) a b
  rwa [lt_int] at this
@[simp] theorem lt_intD (a b : Int) : ltD (.int a) (.int b) = some (.bool (decide (a < b))) := by
  have := ltD_enc (α := Int) (by decide) a b
  rwa [lt_int] at this
@[simp] theorem le_intD (a b : Int) : leD (.int a) (.int b) = some (.bool (decide (a ≤ b))) := by
  have := leD_enc (α := Int) (by decide) a b
  rw [lt_int] at this
  rw [show decide (a ≤ b) = !decide (b < a) by by_cases h : a ≤ b <;> simp [h] <;> omega]
  exact this
@[simp] theorem ge_intD (a b : Int) : geD (.int a) (.int b) = some (.bool (decide (b ≤ a))) := by
  have := geD_enc (α := Int) (by decide) a b
  rw [lt_int] at this
  rw [show decide (b ≤ a) = !decide (a < b) by by_cases h : b ≤ a <;> simp [h] <;> omega]
  exact this
@[simp] theorem eq_intD (a b : Int) : eqD (.int a) (.int b) = some (.bool (decide (a = b))) := by
  have := eqD_enc (α := Int) (by decide) a b
  exact this
@[simp] theorem ne_intD (a b : Int) : neD (.int a) (.int b) = some (.bool (!decide (a = b))) := by
  have := neD_enc (α := Int) (by decide) a b
  exact this
theorem mix_end (cell k : Int) (ds : List D) (hk : 0 ≤ k ∧ k < 1000000) : ∃ m : Int, (0 ≤ m ∧ m < 1000003) ∧
    (thenF (setF 3 (b2 modD (cl intD (acons (b2 addD (b2 addD (b2 mulD (lp 2) (cst (.int 48271))) (b2 mulD (lp 1) (cst (.int 69621)))) (cst (.int 8191))) anil)) (cst (.int 2147483647))))
 (thenF (setF 4 (b2 modD (cl intD (acons (b2 addD (b2 addD (b2 mulD (lp 3) (lp 3)) (b2 fdivD (lp 3) (cst (.int 7)))) (b2 mulD (lp 1) (cst (.int 16807)))) anil)) (cst (.int 2147483629))))
 (thenF (setF 5 (b2 modD (cl intD (acons (b2 addD (b2 addD (b2 mulD (lp 4) (lp 4)) (b2 fdivD (lp 4) (cst (.int 11)))) (cst (.int 40692))) anil)) (cst (.int 2147483563))))
 (retF (b2 modD (b2 fdivD (lp 5) (cst (.int 5))) (cst (.int 1000003))))))) [.val (.list ds), .val (.int k), .val (.int cell), .un, .un, .un] = some (.rt (.int m)) := by
  generalize h1 : (cell * 48271 + k * 69621 + 8191) % 2147483647 = f1
  have b1 : 0 ≤ f1 ∧ f1 < 2147483647 := by omega
  generalize h2 : (f1 * f1 + f1 / 7 + k * 16807) % 2147483629 = f2
  have b2' : 0 ≤ f2 ∧ f2 < 2147483629 := by
    rw [← h2]
    exact ⟨Int.emod_nonneg _ (by decide), Int.emod_lt_of_pos _ (by decide)⟩
  refine ⟨(f2 * f2 + f2 / 11 + 40692) % 2147483563 / 5 % 1000003, ⟨Int.emod_nonneg _ (by decide), Int.emod_lt_of_pos _ (by decide)⟩, ?_⟩
  have m1 : mulD (.int f1) (.int f1) = some (.int (f1 * f1)) := o_mul _ _ (.inl (by omega))
  have m2 : mulD (.int f2) (.int f2) = some (.int (f2 * f2)) := o_mul _ _ (.inl (by omega))
  have n1 : ∀ a c : Int, -18446744073709551616 < c ∧ c < 18446744073709551616 → mulD (.int a) (.int c) = some (.int (a * c)) := fun a c h => o_mul a c (.inr h)
  have q1 : ∀ a c : Int, 0 < c ∧ c < 1073741824 → fdivD (.int a) (.int c) = some (.int (a / c)) := fun a c h => o_fdiv a c h.1 h.2
  have r1 : ∀ a c : Int, 0 < c → modD (.int a) (.int c) = some (.int (a % c)) := fun a c h => o_mod a c h
  simp [n1, r1, q1, h1, m1, h2, m2]
theorem mix_ok (ns : List Int) (k : Nat) (hk : k < 1000000) : ∃ m : Int, (0 ≤ m ∧ m < 1000003) ∧ mixD [.list (ns.map .int), .int k] = some (.int m) := by
  have key : ∃ cell : Int, ifF (tc gtD (cl lenD (acons (lp 0) anil)) (cst (.int 0))) (setF 2 (b2 ixD (lp 0) (b2 modD (lp 1) (cl lenD (acons (lp 0) anil))))) skip
        [.val (.list (ns.map .int)), .val (.int k), .val (.int 0), .un, .un, .un] = some (.nx [.val (.list (ns.map .int)), .val (.int k), .val (.int cell), .un, .un, .un]) := by
    rcases Nat.eq_zero_or_pos ns.length with h0 | h0
    · refine ⟨0, ?_⟩
      have : ns = [] := List.length_eq_zero_iff.mp h0
      subst this
      simp
    · have hlt : k % ns.length < ns.length := Nat.mod_lt _ h0
      obtain ⟨cell, hc⟩ : ∃ c, ns[k % ns.length]? = some c := ⟨_, List.getElem?_eq_getElem hlt⟩
      have at_ : atI (ns.map PyData.int) (((k : Int) % (ns.length : Int))) = some (.int cell) := by
        rw [← Int.natCast_emod]
        refine atI_nat ?_
        rw [List.getElem?_map, hc]
        rfl
      refine ⟨cell, ?_⟩
      have hp : (0 : Int) < (ns.length : Int) := by omega
      have hp' : 0 < ns.length := h0
      have hm : modD (.int (k : Int)) (.int (ns.length : Int)) = some (.int ((k : Int) % (ns.length : Int))) := o_mod _ _ hp
      simp [hp, hp', hm, at_]
  obtain ⟨cell, e1⟩ := key
  obtain ⟨m, hm, e⟩ := mix_end cell k (ns.map .int) (by omega)
  refine ⟨m, hm, fn_ret rfl ?_⟩
  show mixG [.val (.list (ns.map .int)), .val (.int k), .un, .un, .un, .un] = _
  exact (then_set (e_cst _ _)).trans ((then_nx e1).trans e)
noncomputable def rowG : FS :=
 (thenF (setF 2 (cst (.int 0)))
 (thenF (ifF (andF (tc gtD (cl lenD (acons (lp 0) anil)) (cst (.int 0))) false (tc geD (b2 ixD (lp 0) (cst (.int 0))) (b2 powD (cst (.int 10)) (cst (.int 18)))))
 (setF 2 (b2 ixD (lp 0) (cst (.int 0))))
 skip)
 (thenF (setLF 3 (mkL anil))
 (thenF (forF (cl rg1 (acons (lp 1) anil)) (gn 4)
 (ifF (tc gtD (lp 2) (cst (.int 0)))
 (thenF (appF 3 (b2 modD (cl intD (acons (lp 2) anil)) (cst (.int 1000))))
 (setF 2 (b2 fdivD (lp 2) (cst (.int 1000)))))
 (appF 3 (cl mixD (acons (lv 0) (acons (lv 4) anil))))))
 (fz 3 (retF (lv 3)))))))
noncomputable def rowD : List D → Option D := fnD 5 2 rowG
theorem pow_18 : powD (.int 10) (.int 18) = some (.int 1000000000000000000) := by
  show (if powOk 10 18 then _ else none) = _
  rw [if_pos ⟨by decide, by decide, by decide⟩]
  rfl
theorem row_ok (ns : List Int) (many : Nat) (hm : many < 1000) : ∃ row : List Int, row.length = many ∧ (∀ x ∈ row, 0 ≤ x ∧ x < 1000003) ∧ rowD [.list (ns.map .int), .int many] = some (.list (row.map .int)) := by
  have key : ∃ big : Int, ifF (andF (tc gtD (cl lenD (acons (lp 0) anil)) (cst (.int 0))) false (tc geD (b2 ixD (lp 0) (cst (.int 0))) (b2 powD (cst (.int 10)) (cst (.int 18)))))
      (setF 2 (b2 ixD (lp 0) (cst (.int 0)))) skip [.val (.list (ns.map .int)), .val (.int many), .val (.int 0), .un, .un] = some (.nx [.val (.list (ns.map .int)), .val (.int many), .val (.int big), .un, .un]) := by
    cases ns with
    | nil => exact ⟨0, by simp⟩
    | cons a l =>
      by_cases h : (1000000000000000000 : Int) ≤ a
      · exact ⟨a, by simp [pow_18, h]⟩
      · exact ⟨0, by simp [pow_18, h]⟩
  obtain ⟨big, e1⟩ := key
  obtain ⟨ρ', e2, b', row, s, e3, hl, hb⟩ := forD_ix (gt := gn 4)
    (gb := ifF (tc gtD (lp 2) (cst (.int 0))) (thenF (appF 3 (b2 modD (cl intD (acons (lp 2) anil)) (cst (.int 1000)))) (setF 2 (b2 fdivD (lp 2) (cst (.int 1000))))) (appF 3 (cl mixD (acons (lv 0) (acons (lv 4) anil)))))
    (fun i : Nat => (.int (i : Nat) : D)) (List.range many) (fun i ρ => ∃ (big : Int) (row : List Int) (s : Slot), ρ = [.val (.list (ns.map .int)), .val (.int many), .val (.int big), .ol (row.map .int), s] ∧ row.length = i ∧ ∀ x ∈ row, 0 ≤ x ∧ x < 1000003)
    (ρ := [.val (.list (ns.map .int)), .val (.int many), .val (.int big), .ol [], .un])
    (fun i a ρ ha hr => by
      obtain ⟨big, row, s, rfl, hl, hb⟩ := hr
      have hi : i < many := by
        have := (List.getElem?_eq_some_iff.mp ha).1
        simpa using this
      have ea : a = i := by
        rw [List.getElem?_range hi] at ha
        exact (Option.some.inj ha).symm
      subst ea
      by_cases hbig : 0 < big
      · refine ⟨_, _, rfl, .inl ?_, big / 1000, row ++ [big % 1000], .val (.int (a : Nat)), rfl, by rw [List.length_append, hl]; rfl, fun x hx => ?_⟩
        · have h1 : modD (.int big) (.int 1000) = some (.int (big % 1000)) := o_mod _ _ (by decide)
          have h2 : fdivD (.int big) (.int 1000) = some (.int (big / 1000)) := o_fdiv _ _ (by decide) (by decide)
          have h3 : row.length < 16777216 := by omega
          simp [hbig, h1, h2, h3]
        · rcases List.mem_append.mp hx with z | z
          · exact hb x z
          · have : x = big % 1000 := by simpa using z
            omega
      · obtain ⟨m, hmb, em⟩ := mix_ok ns a (by omega)
        refine ⟨_, _, rfl, .inl ?_, big, row ++ [m], .val (.int (a : Nat)), rfl, by rw [List.length_append, hl]; rfl, fun x hx => ?_⟩
        · have h3 : row.length < 16777216 := by omega
          simp [hbig, em, h3]
        · rcases List.mem_append.mp hx with z | z
          · exact hb x z
          · have : x = m := by simpa using z
            rw [this]; exact hmb)
    ⟨big, [], .un, rfl, rfl, fun x hx => nomatch hx⟩
  refine ⟨row, by rw [hl, List.length_range], hb, fn_ret rfl ?_⟩
  show rowG [.val (.list (ns.map .int)), .val (.int many), .un, .un, .un] = _
  have e4 : cl rg1 (acons (lp 1) anil) [.val (.list (ns.map .int)), .val (.int many), .val (.int big), .ol [], .un] = some ((List.range many).map fun i => .int (i : Nat)) := by
    have z := o_rg1n many (by omega)
    simp only [e_cl, e_acons, e_lp, getP_succ, getP_zero, sP_val, e_anil, Option.bind_some]
    exact z
  subst e3
  exact (then_set (e_cst _ _)).trans ((then_nx e1).trans ((then_setL (d := []) rfl).trans ((then_nx (for_of e4 e2)).trans rfl)))
/-! ### like -/
noncomputable def isIntG : FS := (retF (xand (u1 (isiD "int") (lp 0)) (xn (u1 (isiD "bool") (lp 0)))))
noncomputable def isIntD : List D → Option D := fnD 1 1 isIntG
noncomputable def likeG (self : List D → Option D) : FS :=
 (thenF (ifF (tc isD (lp 1) (cst .none))
 (retF (b2 isD (lp 0) (cst .none)))
 skip)
 (thenF (ifF (tb (u1 (isiD "bool") (lp 1)))
 (retF (xand (u1 (isiD "bool") (lp 0)) (b2 eqD (lp 0) (lp 1))))
 skip)
 (thenF (ifF (tb (u1 (isiD "tuple") (lp 1)))
 (thenF (ifF (orF (tn (tb (u1 (isiD "tuple") (lp 0)))) true (tc neD (cl lenD (acons (lp 0) anil)) (cl lenD (acons (lp 1) anil))))
 (retF (cst (.bool false)))
 skip)
 (retF (cl allD (acons (toL (lcF [2] (cl rg1 (acons (cl lenD (acons (lp 1) anil)) anil)) (gn 2) noIf (cl self (acons (b2 ixD (lp 0) (lp 2)) (acons (b2 ixD (lp 1) (lp 2)) anil))))) anil))))
 skip)
 (thenF (ifF (tb (u1 (isiD "str") (lp 1)))
 (retF (xand (u1 (isiD "str") (lp 0)) (b2 eqD (lp 0) (lp 1))))
 skip)
 (retF (xand (cl isIntD (acons (lv 0) anil)) (b2 eqD (lp 0) (lp 1))))))))
noncomputable def likeN : Nat → List D → Option D
  | 0 => fun _ => none
  | n + 1 => fnD 3 2 (likeG (likeN n))
theorem like_eq {f : Nat → List D → Option D} (h0 : f 0 = fun _ => none) (h1 : ∀ n, f (n + 1) = fnD 3 2 (likeG (f n))) : ∀ n, f n = likeN n
  | 0 => h0
  | n + 1 => by rw [h1, like_eq h0 h1 n]; rfl
/-- data that a like to its depth takes -/
def likeOk : Nat → D → Bool
  | 0, _ => false
  | _ + 1, .none => true
  | _ + 1, .bool _ => true
  | _ + 1, .int _ => true
  | _ + 1, .str _ => true
  | n + 1, .tuple ds => decide (ds.length ≤ 1000000) && ds.all (likeOk n)
  | _ + 1, _ => false
theorem k_ii : kitB "int" "int" = some true := by decide +kernel
theorem k_ib : kitB "int" "bool" = some false := by decide +kernel
theorem k_it : kitB "int" "tuple" = some false := by decide +kernel
theorem k_is : kitB "int" "str" = some false := by decide +kernel
theorem k_bi : kitB "bool" "int" = some true := by decide +kernel
theorem k_bb : kitB "bool" "bool" = some true := by decide +kernel
theorem k_bt : kitB "bool" "tuple" = some false := by decide +kernel
theorem k_bs : kitB "bool" "str" = some false := by decide +kernel
theorem k_ti : kitB "tuple" "int" = some false := by decide +kernel
theorem k_tb : kitB "tuple" "bool" = some false := by decide +kernel
theorem k_tt : kitB "tuple" "tuple" = some true := by decide +kernel
theorem k_ts : kitB "tuple" "str" = some false := by decide +kernel
theorem k_si : kitB "str" "int" = some false := by decide +kernel
theorem k_sb : kitB "str" "bool" = some false := by decide +kernel
theorem k_st : kitB "str" "tuple" = some false := by decide +kernel
theorem k_ss : kitB "str" "str" = some true := by decide +kernel
theorem k_ni : kitB "NoneType" "int" = some false := by decide +kernel
theorem k_nb : kitB "NoneType" "bool" = some false := by decide +kernel
theorem k_nt : kitB "NoneType" "tuple" = some false := by decide +kernel
theorem k_ns : kitB "NoneType" "str" = some false := by decide +kernel
@[simp] theorem isi_i (T : String) (i : Int) : isiD T (.int i) = (kitB "int" T).map .bool := rfl
@[simp] theorem isi_b (T : String) (i : Bool) : isiD T (.bool i) = (kitB "bool" T).map .bool := rfl
@[simp] theorem isi_t (T : String) (i : List D) : isiD T (.tuple i) = (kitB "tuple" T).map .bool := rfl
@[simp] theorem isi_s (T : String) (i : Str) : isiD T (.str i) = (kitB "str" T).map .bool := rfl
@[simp] theorem isi_n (T : String) : isiD T .none = (kitB "NoneType" T).map .bool := rfl
theorem isInt_int (i : Int) : isIntD [.int i] = some (.bool true) := by
  refine fn_ret rfl ?_
  show isIntG [.val (.int i)] = _
  unfold isIntG
  simp [k_ii, k_ib]
theorem like_self : ∀ (n : Nat) (d : D), likeOk n d = true → likeN n [d, d] = some (.bool true)
  | 0, d, h => by simp [likeOk] at h
  | n + 1, d, h => by
    unfold likeN
    refine fn_ret rfl ?_
    show likeG (likeN n) [.val d, .val d, .un] = _
    unfold likeG
    cases d with
    | none => simp
    | bool b => simp [k_bb, eqD, okN, PyData.eqv]
    | int i => simp [k_ib, k_it, k_is, isInt_int]
    | str x => simp [k_sb, k_st, k_ss, eqD, okN, PyData.eqv]
    | tuple ds =>
      rw [likeOk, Bool.and_eq_true, decide_eq_true_eq, List.all_eq_true] at h
      have e1 : lcF [2] (cl rg1 (acons (cl lenD (acons (lp 1) anil)) anil)) (gn 2) noIf (cl (likeN n) (acons (b2 ixD (lp 0) (lp 2)) (acons (b2 ixD (lp 1) (lp 2)) anil))) [.val (.tuple ds), .val (.tuple ds), .un] = some ((List.range ds.length).map fun _ => .bool true) := by
        refine lcF_map (fun i : Nat => (.int (i : Nat) : D)) (fun i => [(2, .int (i : Nat))]) (fun _ => .bool true) (List.range ds.length) (by
          have z := o_rg1n ds.length (by omega)
          simp only [e_cl, e_acons, e_lp, getP_succ, getP_zero, sP_val, e_anil, Option.bind_some, o_lenT]
          exact z) (by rw [List.length_range]; omega) fun i hi => ⟨rfl, ?_⟩
        have hi : i < ds.length := by simpa using hi
        have at_ : atI ds (i : Int) = some ds[i] := atI_nat (List.getElem?_eq_getElem hi)
        have ih := like_self n ds[i] (h.2 _ (List.getElem_mem hi))
        simp [at_, ih]
      have e2 : allD [.list ((List.range ds.length).map fun _ => .bool true)] = some (.bool true) := by
        have := o_all ((List.range ds.length).map fun _ => true)
        rw [List.map_map] at this
        have q : ((List.range ds.length).map fun _ => true).all id = true := by simp
        rw [q] at this
        exact this
      simp [k_tb, k_tt, e1, e2]
    | list ds => simp [likeOk] at h
    | dict ds => simp [likeOk] at h
end PD

/-! PV3: typed dicts; more of comprehensions. -/
namespace PD
open PySem PySem.Spec PyProof.Rows L2
open Enc
/-- a type whose values may be keys -/
class Key (α : Type) where
  kenc : α → D
  key : α → NestedKey
  kdep : Nat
  raw : ∀ a : α, keyOf (kenc a) = some (key a)
  kdp : ∀ a : α, (key a).depth ≤ kdep
  top : ∀ a : α, topOk (key a) = true
  inj : ∀ a b : α, key a = key b → a = b
open Key
theorem kD_key {α : Type} [Key α] (h : kdep α ≤ 8) (a : α) : kD (kenc a) = some (key a) := by
  unfold kD
  rw [Key.raw]
  show (if _ then _ else _) = _
  rw [if_pos ⟨Nat.le_trans (Key.kdp a) h, Key.top a⟩]
instance : Key Int where
  kenc := .int
  key := .num
  kdep := 0
  raw a := by rw [keyOf]
  kdp a := by simp [NestedKey.depth]
  top _ := rfl
  inj a b h := by cases h; rfl
theorem keys_raw {α : Type} [Key α] : ∀ l : List α, keysOf (l.map kenc) = some (l.map key)
  | [] => by simp [keysOf]
  | a :: l => by rw [List.map_cons, keysOf, Key.raw, keys_raw l]; rfl
theorem keys_dep {α : Type} [Key α] : ∀ l : List α, NestedKey.depthAll (l.map key) ≤ kdep α
  | [] => by simp [NestedKey.depthAll]
  | a :: l => by
    rw [List.map_cons, NestedKey.depthAll]
    exact Nat.max_le.mpr ⟨Key.kdp a, keys_dep l⟩
theorem keys_inj {α : Type} [Key α] : ∀ l m : List α, l.map key = m.map key → l = m
  | [], [], _ => rfl
  | [], _ :: _, h => by simp at h
  | _ :: _, [], h => by simp at h
  | a :: l, b :: m, h => by
    rw [List.map_cons, List.map_cons] at h
    injection h with h1 h2
    rw [Key.inj a b h1, keys_inj l m h2]
instance {α : Type} [Key α] : Key (List α) where
  kenc l := .tuple (l.map kenc)
  key l := .tup (l.map key)
  kdep := kdep α + 1
  raw l := by rw [keyOf, keys_raw]; rfl
  kdp l := by rw [NestedKey.depth]; exact Nat.succ_le_succ (keys_dep l)
  top _ := rfl
  inj a b h := by injection h with h; exact keys_inj a b h
instance {α β : Type} [Key α] [Key β] : Key (α × β) where
  kenc p := .tuple [kenc p.1, kenc p.2]
  key p := .tup [key p.1, key p.2]
  kdep := max (kdep α) (kdep β) + 1
  raw p := by rw [keyOf, keysOf, keysOf, keysOf, Key.raw, Key.raw]; rfl
  kdp p := by
    rw [NestedKey.depth, NestedKey.depthAll, NestedKey.depthAll, NestedKey.depthAll]
    have h1 := Key.kdp p.1
    have h2 := Key.kdp p.2
    omega
  top _ := rfl
  inj a b h := by
    injection h with h
    injection h with h1 h
    injection h with h2 h
    exact Prod.ext (Key.inj _ _ h1) (Key.inj _ _ h2)
/-! ### typed dicts -/
section
variable {α β : Type} [Key α] [DecidableEq α]
def encK (v : β → D) (l : List (α × β)) : KV2 := l.map fun e => (kenc e.1, v e.2)
def getT (l : List (α × β)) (k : α) : Option β := (l.find? fun e => decide (e.1 = k)).map (·.2)
def putT (l : List (α × β)) (k : α) (b : β) : List (α × β) := if (getT l k).isSome then l.map fun e => if e.1 = k then (e.1, b) else e else l ++ [(k, b)]
theorem getKD_enc (h : kdep α ≤ 8) (v : β → D) (l : List (α × β)) (k : α) : getKD (encK v l) (key k) = (getT l k).map v := by
  induction l with
  | nil => rfl
  | cons e l ih =>
    unfold getKD getT encK at ih ⊢
    rw [List.map_cons, List.find?_cons, List.find?_cons]
    by_cases q : e.1 = k
    · have : kD (kenc e.1) = some (key k) := by rw [q]; exact kD_key h k
      rw [decide_eq_true (show kD (kenc e.1, v e.2).1 = some (key k) from this), decide_eq_true q]
      rfl
    · have : ¬ kD (kenc e.1) = some (key k) := by
        rw [kD_key h]
        intro z
        exact q (Key.inj _ _ (Option.some.inj z))
      simp only [this, q, decide_false]
      exact ih
theorem putKD_enc (h : kdep α ≤ 8) (v : β → D) (l : List (α × β)) (k : α) (b : β) : putKD (encK v l) (kenc k) (key k) (v b) = encK v (putT l k b) := by
  unfold putKD putT
  rw [getKD_enc h, Option.isSome_map]
  split
  · unfold encK
    rw [List.map_map, List.map_map]
    refine List.map_congr_left fun e _ => ?_
    show (if kD (kenc e.1) = some (key k) then (kenc e.1, v b) else (kenc e.1, v e.2)) = (kenc (if e.1 = k then (e.1, b) else e).1, v (if e.1 = k then (e.1, b) else e).2)
    by_cases q : e.1 = k
    · rw [if_pos (by rw [q]; exact kD_key h k), if_pos q]
    · rw [if_neg (by rw [kD_key h]; intro z; exact q (Key.inj _ _ (Option.some.inj z))), if_neg q]
  · unfold encK
    rw [List.map_append]
    rfl
theorem getT_of_mem {l : List (α × β)} (hn : (l.map (·.1)).Nodup) {e : α × β} (he : e ∈ l) : getT l e.1 = some e.2 := by
  induction l with
  | nil => cases he
  | cons a l ih =>
    rw [List.map_cons, List.nodup_cons] at hn
    unfold getT at ih ⊢
    rw [List.find?_cons]
    rcases List.mem_cons.mp he with rfl | he
    · simp
    · have : ¬ a.1 = e.1 := fun q => hn.1 (q ▸ List.mem_map.mpr ⟨e, he, rfl⟩)
      simp only [this, decide_false]
      exact ih hn.2 he
theorem getT_none {l : List (α × β)} {k : α} (h : k ∉ l.map (·.1)) : getT l k = none := by
  unfold getT
  rw [List.find?_eq_none.mpr]
  · rfl
  · intro e he
    simp only [decide_eq_true_eq]
    exact fun q => h (q ▸ List.mem_map.mpr ⟨e, he, rfl⟩)
theorem putT_new {l : List (α × β)} {k : α} (b : β) (h : k ∉ l.map (·.1)) : putT l k b = l ++ [(k, b)] := by
  unfold putT
  rw [getT_none h]
  rfl
theorem encK_keys (v : β → D) (l : List (α × β)) : (encK v l).map (·.1) = (l.map (·.1)).map kenc := by
  unfold encK
  rw [List.map_map, List.map_map]
  rfl
theorem encK_len (v : β → D) (l : List (α × β)) : (encK v l).length = l.length := by
  unfold encK
  rw [List.length_map]
@[simp] theorem o_dix (kvs : KV2) (kd : D) : dixD (.dict kvs) kd = (kD kd).bind fun k => getKD kvs k := rfl
theorem o_dixT (h : kdep α ≤ 8) (v : β → D) (l : List (α × β)) (k : α) : dixD (.dict (encK v l)) (kenc k) = (getT l k).map v := by
  rw [o_dix, kD_key h]
  exact getKD_enc h v l k
theorem o_dgetT (h : kdep α ≤ 8) (v : β → D) (l : List (α × β)) (k : α) (x : D) : dgetF (.dict (encK v l)) [kenc k, x] = some (((getT l k).map v).getD x) := by
  show (kD (kenc k)).map _ = _
  rw [kD_key h, Option.map_some, getKD_enc h]
theorem o_dinT (h : kdep α ≤ 8) (neg : Bool) (v : β → D) (l : List (α × β)) (k : α) : dinD neg (kenc k) (.dict (encK v l)) = some (.bool (neg ^^ (getT l k).isSome)) := by
  show (kD (kenc k)).map _ = _
  rw [kD_key h, Option.map_some, getKD_enc h, Option.isSome_map]
end
/-- a dict comprehension whose keys are all different -/
theorem dcGo_new {α β : Type} [Key α] [DecidableEq α] (hk : kdep α ≤ 8) {γ : Type} {vs : List Nat} {g : D → Option Puts} {tt : FB} {fk fe : FE} {ρ : Env} (v : β → D) (enc : γ → D) (us : γ → Puts) (p : γ → Bool) (ke : γ → α) (ve : γ → β) :
    ∀ (l : List γ) (acc : List (α × β)), (∀ a ∈ l, g (enc a) = some (us a) ∧ tt (putAll (wipeE ρ vs) (us a)) = some (p a) ∧ (p a = true → fk (putAll (wipeE ρ vs) (us a)) = some (kenc (ke a)) ∧ fe (putAll (wipeE ρ vs) (us a)) = some (v (ve a)))) →
      (acc.map (·.1) ++ (l.filter p).map ke).Nodup → acc.length + l.length < 16777216 → dcGo vs g tt fk fe ρ (l.map enc) (encK v acc) = some (encK v (acc ++ (l.filter p).map fun a => (ke a, ve a)))
  | [], acc, _, _, _ => by simp [dcGo]
  | a :: l, acc, h, hn, hl => by
    obtain ⟨h1, h2, h3⟩ := h a List.mem_cons_self
    rw [List.length_cons] at hl
    rw [List.map_cons]
    unfold dcGo
    rw [h1]
    show (tt _).bind _ = _
    rw [h2]
    show (if p a = true then _ else _) = _
    rw [List.filter_cons]
    rw [List.filter_cons] at hn
    split
    · rename_i hp
      rw [if_pos hp] at hn
      obtain ⟨h4, h5⟩ := h3 hp
      rw [h4]
      show (fe _).bind _ = _
      rw [h5]
      show (kD (kenc (ke a))).bind _ = _
      rw [kD_key hk]
      show (if (encK v acc).length < 16777216 then _ else none) = _
      rw [encK_len, if_pos (by omega), putKD_enc hk]
      have nm : ke a ∉ acc.map (·.1) := by
        rw [List.map_cons, List.nodup_append] at hn
        intro z
        exact hn.2.2 _ z _ List.mem_cons_self rfl
      rw [putT_new _ nm]
      rw [dcGo_new hk v enc us p ke ve l (acc ++ [(ke a, ve a)]) (fun b hb => h b (List.mem_cons_of_mem _ hb)) (by simpa [List.append_assoc] using hn) (by rw [List.length_append, List.length_singleton]; omega)]
      rw [List.append_assoc]
      rfl
    · rename_i hp
      rw [if_neg hp] at hn
      exact dcGo_new hk v enc us p ke ve l acc (fun b hb => h b (List.mem_cons_of_mem _ hb)) hn (by omega)
/-! ### enumerate -/
theorem enumD_map {α : Type} (f : α → D) (l : List α) : enumD (l.map f) = l.zipIdx.map fun p => .tuple [.int (p.2 : Nat), f p.1] := by
  unfold enumD
  rw [List.zipIdx_map, List.map_map]
  rfl
theorem zipD_map {α β : Type} (f : α → D) (g : β → D) (l : List α) (m : List β) : zipD (l.map f) (m.map g) = (l.zip m).map fun p => .tuple [f p.1, g p.2] := by
  unfold zipD
  rw [List.zipWith_map]
  induction l generalizing m with
  | nil => rfl
  | cons a l ih =>
    cases m with
    | nil => rfl
    | cons b m => simp [ih]
end PD

/-! PVBd: the helpers of the books, as functions on data (printed by mkbk.py). -/
namespace PD
open PySem PySem.Spec PyProof.Rows L2
noncomputable def bg_follows : FS :=
 (thenF (parF 3 4 (acons (b2 ixD (lp 0) (cst (.int 1))) (acons (b2 ixD (lp 0) (cst (.int 4))) anil)))
 (thenF (ifF (tc gtD (cl absD (acons (lp 2) anil)) (lp 3))
 (retF (cst (.bool false)))
 skip)
 (thenF (setF 5 (b2 addD (lp 1) (mkT (acons (lv 2) anil))))
 (retF (xn (cl anyD (acons (toL (lcF [6] (u1 tupOf (lv 4)) (gn 6) noIf (b2 eqD (sl3 slD (lp 5) (oi (u1 negD (cl lenD (acons (lp 6) anil)))) ono) (lp 6)))) anil)))))))
noncomputable def bd_follows : List D → Option D := fnD 7 3 bg_follows
noncomputable def bg_member_behind : FS :=
 (thenF (ifF (tc isD (lp 1) (cst .none))
 (retF (iteF' (tc (inD false) (lp 2) (b2 ixD (lp 0) (cst (.int 2)))) (mkT (acons (lv 2) (acons (mkT anil) anil))) (cst .none)))
 skip)
 (thenF (asgF (lv 1) (gTupD 2 (gsCons (gn 3) (gsCons (gn 4) gsNil))))
 (thenF (ifF (tn (tb (cl bd_follows (acons (lv 0) (acons (lv 4) (acons (b2 subD (lp 2) (lp 3)) anil))))))
 (retF (cst .none))
 skip)
 (retF (mkT (acons (lv 2) (acons (sl3 slD (b2 addD (lp 4) (mkT (acons (b2 subD (lp 2) (lp 3)) anil))) (oi (b2 subD (cst (.int 1)) (cst (.int 3)))) ono) anil)))))))
noncomputable def bd_member_behind : List D → Option D := fnD 5 3 bg_member_behind
noncomputable def bg__law_book : FS :=
 (thenF (setF 3 (b2 addD (cst (.int 1)) (b2 modD (cl intD (acons (b2 ixD (lp 0) (lp 1)) anil)) (lp 2))))
 (thenF (setF 4 (cl tupD (acons (toL (lcF [10] (cl rg1 (acons (lp 3) anil)) (gn 10) (tc gtD (b2 modD (b2 fdivD (cl intD (acons (b2 ixD (lp 0) (b2 addD (lp 1) (cst (.int 2)))) anil)) (b2 shlD (cst (.int 1)) (lp 10))) (cst (.int 3))) (cst (.int 0))) (lv 10))) anil)))
 (thenF (setF 5 (cl tupD (acons (toL (lcF [10] (cl rg1 (acons (lp 3) anil)) (gn 10) (tc gtD (b2 modD (b2 fdivD (cl intD (acons (b2 ixD (lp 0) (b2 addD (lp 1) (cst (.int 3)))) anil)) (b2 shlD (cst (.int 1)) (lp 10))) (cst (.int 3))) (cst (.int 0))) (lv 10))) anil)))
 (thenF (setLF 6 (mkL anil))
 (thenF (forF (cl rg1 (acons (b2 modD (cl intD (acons (b2 ixD (lp 0) (b2 addD (lp 1) (cst (.int 4)))) anil)) (cst (.int 4))) anil)) (gn 7)
 (thenF (setF 8 (cl intD (acons (b2 ixD (lp 0) (b2 addD (b2 addD (lp 1) (cst (.int 5))) (lp 7))) anil)))
 (thenF (setF 9 (cl tupD (acons (toL (lcF [11] (cl rg1 (acons (b2 addD (cst (.int 1)) (b2 modD (b2 fdivD (lp 8) (cst (.int 512))) (cst (.int 3)))) anil)) (gn 11) noIf (b2 subD (b2 modD (b2 fdivD (lp 8) (b2 shlD (cst (.int 1)) (b2 mulD (cst (.int 3)) (lp 11)))) (cst (.int 7))) (cst (.int 3))))) anil)))
 (ifF (tc (inD true) (lp 9) (lp 6))
 (appF 6 (lv 9))
 skip))))
 (retF (mkT (acons (lv 3) (acons (b2 modD (cl intD (acons (b2 ixD (lp 0) (b2 addD (lp 1) (cst (.int 1)))) anil)) (cst (.int 8))) (acons (lv 4) (acons (lv 5) (acons (cl tupD (acons (toL (cl sortL (acons (lp 6) anil))) anil)) anil))))))))))))
noncomputable def bd__law_book : List D → Option D := fnD 12 3 bg__law_book
noncomputable def bg__law_goes : FS :=
 (thenF (setF 2 (cl tupD (acons (toL (lcF [4] (cl rg1 (acons (b2 subD (cl lenD (acons (lp 1) anil)) (cst (.int 1))) anil)) (gn 4) noIf (b2 subD (b2 ixD (lp 1) (b2 addD (lp 4) (cst (.int 1)))) (b2 ixD (lp 1) (lp 4))))) anil)))
 (thenF (ifF (tb (cl anyD (acons (toL (lcF [5] (u1 tupOf (lv 2)) (gn 5) noIf (b2 gtD (cl absD (acons (lp 5) anil)) (b2 ixD (lp 0) (cst (.int 1)))))) anil)))
 (retF (cst (.bool false)))
 skip)
 (thenF (forF (u1 tupOf (b2 ixD (lp 0) (cst (.int 4)))) (gn 3)
 (ifF (tb (cl anyD (acons (toL (lcF [4] (cl rg1 (acons (b2 addD (b2 subD (cl lenD (acons (lp 2) anil)) (cl lenD (acons (lp 3) anil))) (cst (.int 1))) anil)) (gn 4) noIf (b2 eqD (sl3 slD (lp 2) (oi (lp 4)) (oi (b2 addD (lp 4) (cl lenD (acons (lp 3) anil))))) (lp 3)))) anil)))
 (retF (cst (.bool false)))
 skip))
 (retF (cst (.bool true))))))
noncomputable def bd__law_goes : List D → Option D := fnD 6 2 bg__law_goes
noncomputable def bg__law_is_line : FS :=
 (retF (xand (b2 gtD (cl lenD (acons (lp 1) anil)) (cst (.int 0))) (xand (b2 (inD false) (b2 ixD (lp 1) (cst (.int 0))) (b2 ixD (lp 0) (cst (.int 2)))) (xand (b2 (inD false) (b2 ixD (lp 1) (b2 subD (cl lenD (acons (lp 1) anil)) (cst (.int 1)))) (b2 ixD (lp 0) (cst (.int 3)))) (cl bd__law_goes (acons (lv 0) (acons (lv 1) anil)))))))
noncomputable def bd__law_is_line : List D → Option D := fnD 2 2 bg__law_is_line
noncomputable def bg__law_begun : FS :=
 (thenF (setLF 2 (lcF [6] (u1 tupOf (b2 ixD (lp 0) (cst (.int 2)))) (gn 6) noIf (mkT (acons (lv 6) anil))))
 (fz 2 (thenF (forF (cl rg1 (acons (b2 subD (lp 1) (cst (.int 1))) anil)) (gn 3)
 (thenF (setLF 4 (mkL anil))
 (thenF (forF (u1 seqOf (lv 2)) (gn 5)
 (extF 4 (toL (lcF [6] (cl rg1 (acons (b2 ixD (lp 0) (cst (.int 0))) anil)) (gn 6) (tb (cl bd__law_goes (acons (lv 0) (acons (b2 addD (sl3 slD (lp 5) (oi (cl max2D (acons (cst (.int 0)) (acons (b2 subD (cl lenD (acons (lp 5) anil)) (cst (.int 4))) anil)))) ono) (mkT (acons (lv 6) anil))) anil)))) (b2 addD (lp 5) (mkT (acons (lv 6) anil)))))))
 (fz 4 (setF 2 (lv 4))))))
 (retF (lv 2)))))
noncomputable def bd__law_begun : List D → Option D := fnD 7 2 bg__law_begun
noncomputable def bg__law_consonances : FS :=
 (thenF (setLF 2 (lcF [3] (cl rg2 (acons (u1 negD (cst (.int 6))) (acons (cst (.int 7)) anil))) (gn 3) (tc eqD (b2 modD (b2 fdivD (cl intD (acons (b2 ixD (lp 0) (lp 1)) anil)) (b2 shlD (cst (.int 1)) (b2 addD (lp 3) (cst (.int 6))))) (cst (.int 2))) (cst (.int 1))) (lv 3)))
 (fz 2 (retF (cl tupD (acons (lp 2) anil)))))
noncomputable def bd__law_consonances : List D → Option D := fnD 4 2 bg__law_consonances
end PD

/-! PVB: the books' helpers, plainly. -/
namespace PD
open PySem PySem.Spec PyProof.Rows L2
open Enc
structure Book where
  m : Nat
  leap : Int
  begins : List Int
  ends : List Int
  barred : List (List Int)
def encBk (b : Book) : D := .tuple [.int b.m, .int b.leap, enc b.begins, enc b.ends, enc b.barred]
def rangeI (m : Nat) : List Int := (List.range m).map fun (i : Nat) => (i : Int)
/-- what is known of every book here -/
structure BookOk (b : Book) : Prop where
  m1 : 1 ≤ b.m
  m8 : b.m ≤ 8
  bg : ∃ p, b.begins = (rangeI b.m).filter p
  en : ∃ p, b.ends = (rangeI b.m).filter p
  bl : b.barred.length ≤ 1000
  br : ∀ r ∈ b.barred, 1 ≤ r.length ∧ r.length ≤ 3
theorem cut_mid (ds : List D) (i j : Nat) : cutD ds (some (i : Int)) (some (j : Int)) = (ds.drop i).take (j - i) := by
  unfold cutD
  rw [HT.sIx_nat, HT.sIx_nat]
  by_cases h : i ≤ ds.length
  · rw [Nat.min_eq_left h]
    by_cases h2 : j ≤ ds.length
    · rw [Nat.min_eq_left h2]
    · rw [Nat.min_eq_right (by omega)]
      rw [List.take_of_length_le (by rw [List.length_drop]; omega), List.take_of_length_le (by rw [List.length_drop]; omega)]
  · rw [List.drop_eq_nil_of_le (by omega), List.drop_eq_nil_of_le (by omega), List.take_nil, List.take_nil]
/-! ### the steps of a line -/
def stepsOf : List Int → List Int
  | a :: b :: l => (b - a) :: stepsOf (b :: l)
  | _ => []
theorem steps_len : ∀ l : List Int, (stepsOf l).length = l.length - 1
  | [] => rfl
  | [_] => rfl
  | a :: b :: l => by
    rw [stepsOf, List.length_cons, steps_len (b :: l)]
    simp
theorem steps_get : ∀ (l : List Int) (i : Nat), i + 1 < l.length → (stepsOf l)[i]? = some (l.getD (i + 1) 0 - l.getD i 0)
  | [], _, h => by simp at h
  | [_], _, h => by simp at h
  | a :: b :: l, 0, _ => by simp [stepsOf]
  | a :: b :: l, i + 1, h => by
    have := steps_get (b :: l) i (by simpa using h)
    rw [stepsOf, List.getElem?_cons_succ, this]
    rfl
theorem steps_range (l : List Int) : stepsOf l = (List.range (l.length - 1)).map fun k => l.getD (k + 1) 0 - l.getD k 0 := by
  apply List.ext_getElem?
  intro i
  rw [List.getElem?_map]
  by_cases h : i < l.length - 1
  · rw [steps_get l i (by omega), List.getElem?_range h]; rfl
  · rw [List.getElem?_eq_none (by rw [steps_len]; omega), List.getElem?_eq_none (by simpa using h)]; rfl
theorem steps_snoc : ∀ (l : List Int) (x n : Int), stepsOf (l ++ [x] ++ [n]) = stepsOf (l ++ [x]) ++ [n - x]
  | [], x, n => rfl
  | [a], x, n => rfl
  | a :: b :: l, x, n => by
    show (b - a) :: stepsOf (b :: l ++ [x] ++ [n]) = (b - a) :: (stepsOf (b :: l ++ [x])) ++ [n - x]
    rw [steps_snoc (b :: l) x n]
    rfl
/-- r stands somewhere in s -/
def occ (r s : List Int) : Bool := (List.range (s.length + 1 - r.length)).any fun k => decide ((s.drop k).take r.length = r)
def absI (x : Int) : Int := if x < 0 then -x else x
def goesB (b : Book) (l : List Int) : Bool := !((stepsOf l).any fun s => decide (b.leap < absI s)) && b.barred.all fun r => !occ r (stepsOf l)
theorem at_int (l : List Int) (i : Nat) (h : i < l.length) (j : Int) (hj : j = i) : atI (l.map (PyData.int)) j = some (.int (l.getD i 0)) := by
  subst hj
  refine PD.atI_nat ?_
  rw [List.getElem?_map, List.getElem?_eq_getElem h]
  simp [List.getD_eq_getElem?_getD, h]
theorem bk_steps (l : List Int) (hl : l.length ≤ 1000000) (a0 a2 a3 a4 a5 : Slot) : lcF [4] (cl rg1 (acons (b2 subD (cl lenD (acons (lp 1) anil)) (cst (.int 1))) anil)) (gn 4) noIf (b2 subD (b2 ixD (lp 1) (b2 addD (lp 4) (cst (.int 1)))) (b2 ixD (lp 1) (lp 4)))
    [a0, .val (.tuple (l.map .int)), a2, a3, a4, a5] = some ((stepsOf l).map .int) := by
  have z := lcF_map (vs := [4]) (f := cl rg1 (acons (b2 subD (cl lenD (acons (lp 1) anil)) (cst (.int 1))) anil)) (g := gn 4) (fe := b2 subD (b2 ixD (lp 1) (b2 addD (lp 4) (cst (.int 1)))) (b2 ixD (lp 1) (lp 4))) (ρ := [a0, .val (.tuple (l.map .int)), a2, a3, a4, a5])
    (fun k : Nat => (.int (k : Nat) : D)) (fun k => [(4, .int (k : Nat))]) (fun k => .int (l.getD (k + 1) 0 - l.getD k 0)) (List.range (l.length - 1)) ?_ (by rw [List.length_range]; omega) fun k hk => ⟨rfl, ?_⟩
  · rw [z, steps_range, List.map_map]; rfl
  · have h0 : rg1 [.int ((l.length : Int) - 1)] = some ((List.range (l.length - 1)).map fun i => .int (i : Nat)) := by
      rw [o_rg1 _ ⟨by omega, by omega⟩]
      congr 3
      omega
    simp only [e_cl, e_acons, e_b2, e_lp, getP_succ, getP_zero, sP_val, e_anil, Option.bind_some, o_lenT, List.length_map, e_cst, o_sub]
    exact h0
  · have hk : k < l.length - 1 := by simpa using hk
    have q1 := at_int l k (by omega) (k : Int) rfl
    have q2 := at_int l (k + 1) (by omega) ((k : Int) + 1) (by omega)
    generalize l.map PyData.int = ws at q1 q2 ⊢
    simp only [e_wipe_cons, e_wipe_nil, e_putAll_cons, e_putAll_nil, List.set_cons_succ, List.set_cons_zero, e_b2, e_lp, getP_succ, getP_zero, sP_val, Option.bind_some, e_cst, o_add, o_ixT, q1, q2, o_sub]
theorem goes_ok (b : Book) (h : BookOk b) (l : List Int) (hl : l.length ≤ 1000000) : bd__law_goes [encBk b, enc l] = some (.bool (goesB b l)) := by
  refine fn_ret rfl ?_
  show bg__law_goes [.val (encBk b), .val (.tuple (l.map .int)), .un, .un, .un, .un] = _
  have e1 : cl tupD (acons (toL (lcF [4] (cl rg1 (acons (b2 subD (cl lenD (acons (lp 1) anil)) (cst (.int 1))) anil)) (gn 4) noIf (b2 subD (b2 ixD (lp 1) (b2 addD (lp 4) (cst (.int 1)))) (b2 ixD (lp 1) (lp 4))))) anil) [.val (encBk b), .val (.tuple (l.map .int)), .un, .un, .un, .un] = some (.tuple ((stepsOf l).map .int)) := by
    rw [e_cl, e_acons, e_toL, bk_steps l hl]; rfl
  refine (then_set e1).trans ?_
  have hsl : (stepsOf l).length ≤ 1000000 := by rw [steps_len]; omega
  generalize hS : stepsOf l = S at hsl
  have e2 : tb (cl anyD (acons (toL (lcF [5] (u1 tupOf (lv 2)) (gn 5) noIf (b2 gtD (cl absD (acons (lp 5) anil)) (b2 ixD (lp 0) (cst (.int 1)))))) anil)) [.val (encBk b), .val (.tuple (l.map .int)), .val (.tuple (S.map .int)), .un, .un, .un] = some (S.any fun s => decide (b.leap < absI s)) := by
    have z := lcF_map (vs := [5]) (f := u1 tupOf (lv 2)) (g := gn 5) (fe := b2 gtD (cl absD (acons (lp 5) anil)) (b2 ixD (lp 0) (cst (.int 1)))) (ρ := [.val (encBk b), .val (.tuple (l.map .int)), .val (.tuple (S.map .int)), .un, .un, .un])
      (PyData.int) (fun s => [(5, .int s)]) (fun s => .bool (decide (b.leap < absI s))) S rfl (by omega) (fun s hs => ⟨rfl, by
        unfold encBk
        simp only [e_wipe_cons, e_wipe_nil, e_putAll_cons, e_putAll_nil, List.set_cons_succ, List.set_cons_zero, e_b2, e_lp, getP_succ, getP_zero, sP_val, Option.bind_some, e_cst, o_ixT, atI_lit1, e_cl, e_acons, e_anil, o_abs, gt_int]
        rfl⟩)
    rw [e_tb, e_cl, e_acons, e_toL, z]
    have := o_any (S.map fun s => decide (b.leap < absI s))
    rw [List.map_map, List.any_map] at this
    show (Option.bind (anyD [.list (S.map _)]) boolOf) = _
    rw [show (S.map fun s => PyData.bool (decide (b.leap < absI s))) = S.map (PyData.bool ∘ fun s => decide (b.leap < absI s)) from rfl, this]
    rfl
  unfold goesB
  cases hA : S.any fun s => decide (b.leap < absI s) with
  | true =>
    rw [hA] at e2
    rw [hS, hA]
    exact (then_ift_rt e2 rfl)
  | false =>
    rw [hA] at e2
    rw [hS, hA]
    refine (then_if_f e2 rfl).trans ?_
    have e3 := forD_ret (gt := gn 3) (gb := (ifF (tb (cl anyD (acons (toL (lcF [4] (cl rg1 (acons (b2 addD (b2 subD (cl lenD (acons (lp 2) anil)) (cl lenD (acons (lp 3) anil))) (cst (.int 1))) anil)) (gn 4) noIf (b2 eqD (sl3 slD (lp 2) (oi (lp 4)) (oi (b2 addD (lp 4) (cl lenD (acons (lp 3) anil))))) (lp 3)))) anil)))
 (retF (cst (.bool false)))
 skip)) (enc : List Int → D) (fun (_ : Unit) ρ => ∃ t3, ρ = [.val (encBk b), .val (.tuple (l.map .int)), .val (.tuple (S.map .int)), t3, .un, .un]) (fun _ r => if occ r S = true then .inl (.bool false) else .inr ()) b.barred
      (fun _ r ρ hr hR => by
        obtain ⟨t3, rfl⟩ := hR
        refine ⟨[(3, enc r)], rfl, ?_⟩
        have hrl := (h.br r hr).2
        have z := lcF_map (vs := [4]) (f := cl rg1 (acons (b2 addD (b2 subD (cl lenD (acons (lp 2) anil)) (cl lenD (acons (lp 3) anil))) (cst (.int 1))) anil)) (g := gn 4) (fe := b2 eqD (sl3 slD (lp 2) (oi (lp 4)) (oi (b2 addD (lp 4) (cl lenD (acons (lp 3) anil))))) (lp 3))
          (ρ := [.val (encBk b), .val (.tuple (l.map .int)), .val (.tuple (S.map .int)), .val (.tuple (r.map .int)), .un, .un]) (fun k : Nat => (.int (k : Nat) : D)) (fun k => [(4, .int (k : Nat))]) (fun k => .bool (decide ((S.drop k).take r.length = r))) (List.range (S.length + 1 - r.length)) ?_ (by rw [List.length_range]; omega) (fun k hk => ⟨rfl, ?_⟩)
        · have e4 : tb (cl anyD (acons (toL (lcF [4] (cl rg1 (acons (b2 addD (b2 subD (cl lenD (acons (lp 2) anil)) (cl lenD (acons (lp 3) anil))) (cst (.int 1))) anil)) (gn 4) noIf (b2 eqD (sl3 slD (lp 2) (oi (lp 4)) (oi (b2 addD (lp 4) (cl lenD (acons (lp 3) anil))))) (lp 3)))) anil)) [.val (encBk b), .val (.tuple (l.map .int)), .val (.tuple (S.map .int)), .val (.tuple (r.map .int)), .un, .un] = some (occ r S) := by
            rw [e_tb, e_cl, e_acons, e_toL, z]
            have q := o_any ((List.range (S.length + 1 - r.length)).map fun k => decide ((S.drop k).take r.length = r))
            rw [List.map_map, List.any_map] at q
            exact (congrArg (fun o => Option.bind o boolOf) q)
          have kt : ∀ q : Bool, occ r S = q → ifF (tb (cl anyD (acons (toL (lcF [4] (cl rg1 (acons (b2 addD (b2 subD (cl lenD (acons (lp 2) anil)) (cl lenD (acons (lp 3) anil))) (cst (.int 1))) anil)) (gn 4) noIf (b2 eqD (sl3 slD (lp 2) (oi (lp 4)) (oi (b2 addD (lp 4) (cl lenD (acons (lp 3) anil))))) (lp 3)))) anil))) (retF (cst (.bool false))) skip [.val (encBk b), .val (.tuple (l.map .int)), .val (.tuple (S.map .int)), .val (.tuple (r.map .int)), .un, .un]
              = if q = true then some (.rt (.bool false)) else some (.nx [.val (encBk b), .val (.tuple (l.map .int)), .val (.tuple (S.map .int)), .val (.tuple (r.map .int)), .un, .un]) := fun q hq => by
            rw [e_ifF, e4, hq, Option.bind_some]
            rfl
          cases ho : occ r S with
          | true => exact kt true ho
          | false => exact ⟨_, .inl (kt false ho), _, rfl⟩
        · have h0 : rg1 [.int ((S.length : Int) - (r.length : Int) + 1)] = some ((List.range (S.length + 1 - r.length)).map fun i => .int (i : Nat)) := by
            rw [o_rg1 _ ⟨by omega, by omega⟩]
            congr 3
            omega
          simp only [e_cl, e_acons, e_b2, e_lp, getP_succ, getP_zero, sP_val, e_anil, Option.bind_some, o_lenT, List.length_map, e_cst, o_sub, o_add]
          exact h0
        · have hc := cut_mid (S.map PyData.int) k (k + r.length)
          rw [Nat.add_sub_cancel_left, ← List.map_drop, ← List.map_take] at hc
          have hce : ((k : Int) + (r.length : Int)) = ((k + r.length : Nat) : Int) := by omega
          have he : eqD (.tuple (((S.drop k).take r.length).map .int)) (.tuple (r.map .int)) = some (.bool (decide ((S.drop k).take r.length = r))) := eqD_enc (α := List Int) (by decide) ((S.drop k).take r.length) r
          simp only [e_wipe_cons, e_wipe_nil, e_putAll_cons, e_putAll_nil, List.set_cons_succ, List.set_cons_zero, e_b2, e_sl3, e_oi, e_lp, getP_succ, getP_zero, sP_val, Option.bind_some, e_intOf, Option.map_some, e_cl, e_acons, e_anil, o_lenT, List.length_map, o_add, hce, o_slT, hc, he]) () [.val (encBk b), .val (.tuple (l.map .int)), .val (.tuple (S.map .int)), .un, .un, .un] ⟨.un, rfl⟩
    have hf : u1 tupOf (b2 ixD (lp 0) (cst (.int 4))) [.val (encBk b), .val (.tuple (l.map .int)), .val (.tuple (S.map .int)), .un, .un, .un] = some (b.barred.map enc) := by
      unfold encBk
      simp only [e_u1, e_b2, e_lp, getP_zero, sP_val, Option.bind_some, e_cst, o_ixT, atI_lit4, enc_list, e_tupOf]
    have hrun : ∀ rs : List (List Int), runE (fun (_ : Unit) r => if occ r S = true then Sum.inl (PyData.bool false) else Sum.inr ()) rs () = if (rs.all fun r => !occ r S) = true then .inr () else .inl (.bool false) := by
      intro rs
      induction rs with
      | nil => rfl
      | cons r rs ih =>
        rw [runE]
        cases ho : occ r S with
        | true => simp [ho]
        | false => simp only [Bool.false_eq_true, if_false]; rw [ih]; simp [ho]
    rw [hrun] at e3
    cases hB : b.barred.all fun r => !occ r S with
    | true =>
      rw [hB, if_pos rfl] at e3
      obtain ⟨ρ', e5, t3, rfl⟩ := e3
      exact (then_nx (for_of hf e5)).trans rfl
    | false =>
      rw [hB, if_neg (by decide)] at e3
      exact then_rt (for_of hf e3)
end PD

/-! PVC: lines, note by note (no program in sight). -/
namespace PD
open PySem PySem.Spec PyProof.Rows L2
open Enc
/-- r ends T -/
def sfx (r T : List Int) : Bool := decide (T.drop (T.length - r.length) = r)
theorem occ_snoc (r S : List Int) (s : Int) (hr : 1 ≤ r.length) : occ r (S ++ [s]) = (occ r S || sfx r (S ++ [s])) := by
  unfold occ sfx
  rw [List.length_append, List.length_singleton]
  by_cases h : r.length ≤ S.length + 1
  · have e1 : S.length + 1 + 1 - r.length = (S.length + 1 - r.length) + 1 := by omega
    rw [e1, List.range_succ, List.any_append]
    congr 1
    · rw [Bool.eq_iff_iff, List.any_eq_true, List.any_eq_true]
      refine exists_congr fun k => and_congr_right fun hk => ?_
      have hk : k < S.length + 1 - r.length := by simpa using hk
      rw [List.drop_append_of_le_length (by omega), List.take_append_of_le_length (by rw [List.length_drop]; omega)]
    · rw [List.any_cons, List.any_nil, Bool.or_false, List.take_of_length_le (by rw [List.length_drop, List.length_append, List.length_singleton]; omega)]
  · have e1 : S.length + 1 + 1 - r.length = 0 := by omega
    have e2 : S.length + 1 - r.length = 0 := by omega
    rw [e1, e2]
    simp only [List.range_zero, List.any_nil, Bool.false_or, List.drop_zero]
    symm
    rw [decide_eq_false_iff_not]
    intro z
    rw [← z, List.length_append, List.length_singleton] at h
    omega
def extOk (b : Book) (S : List Int) (s : Int) : Bool := !decide (b.leap < absI s) && b.barred.all fun r => !sfx r (S ++ [s])
theorem goes_snoc (b : Book) (h : BookOk b) (w : List Int) (x n : Int) : goesB b (w ++ [x] ++ [n]) = (goesB b (w ++ [x]) && extOk b (stepsOf (w ++ [x])) (n - x)) := by
  unfold goesB extOk
  rw [steps_snoc, List.any_append]
  have e : (b.barred.all fun r => !occ r (stepsOf (w ++ [x]) ++ [n - x])) = ((b.barred.all fun r => !occ r (stepsOf (w ++ [x]))) && b.barred.all fun r => !sfx r (stepsOf (w ++ [x]) ++ [n - x])) := by
    rw [Bool.eq_iff_iff, Bool.and_eq_true, List.all_eq_true, List.all_eq_true, List.all_eq_true]
    constructor
    · intro z
      constructor <;> intro r hr <;> have := z r hr <;> rw [occ_snoc r _ _ (h.br r hr).1] at this <;> simp at this ⊢
      · exact this.1
      · exact this.2
    · intro z r hr
      have h1 := z.1 r hr
      have h2 := z.2 r hr
      rw [occ_snoc r _ _ (h.br r hr).1]
      simp at h1 h2 ⊢
      exact ⟨h1, h2⟩
  rw [e]
  simp only [List.any_cons, List.any_nil, Bool.or_false, Bool.not_or]
  cases (!(stepsOf (w ++ [x])).any fun s => decide (b.leap < absI s)) <;> cases (!decide (b.leap < absI (n - x))) <;> cases (b.barred.all fun r => !occ r (stepsOf (w ++ [x]))) <;> rfl
theorem goes_one (b : Book) (h : BookOk b) (n : Int) : goesB b [n] = true := by
  unfold goesB
  have : stepsOf [n] = [] := rfl
  rw [this]
  simp only [List.any_nil, Bool.not_false, Bool.true_and, List.all_eq_true]
  intro r hr
  have := (h.br r hr).1
  unfold occ
  have e : ([] : List Int).length + 1 - r.length = 0 := by simp; omega
  rw [e]; rfl
/-- the last k of a list -/
def lastN (k : Nat) (T : List Int) : List Int := T.drop (T.length - k)
theorem sfx_drop (r T : List Int) (k : Nat) (h : k + r.length ≤ T.length ∨ k = 0) : sfx r (T.drop k) = sfx r T := by
  unfold sfx
  rw [List.length_drop, List.drop_drop]
  rcases h with h | h
  · have : k + (T.length - k - r.length) = T.length - r.length := by omega
    rw [this]
  · subst h
    simp
theorem lastN_snoc (k : Nat) (T : List Int) (s : Int) : lastN (k + 1) (T ++ [s]) = lastN k T ++ [s] := by
  unfold lastN
  rw [List.length_append, List.length_singleton, List.drop_append_of_le_length (by omega)]
  congr 2
  omega
theorem sfx_last (r T : List Int) (s : Int) (h : r.length ≤ 3) : sfx r (lastN 2 T ++ [s]) = sfx r (T ++ [s]) := by
  rw [← lastN_snoc]
  unfold lastN
  refine sfx_drop r _ _ ?_
  by_cases h2 : (T ++ [s]).length ≤ 3
  · exact .inr (by omega)
  · exact .inl (by omega)
theorem ext_last (b : Book) (h : BookOk b) (S : List Int) (s : Int) : extOk b (lastN 2 S) s = extOk b S s := by
  unfold extOk
  congr 1
  rw [Bool.eq_iff_iff, List.all_eq_true, List.all_eq_true]
  constructor
  · intro z r hr
    have := z r hr
    rwa [sfx_last r S s (h.br r hr).2] at this
  · intro z r hr
    have := z r hr
    rwa [sfx_last r S s (h.br r hr).2]
theorem ext_congr (b : Book) (h : BookOk b) (S S' : List Int) (s : Int) (e : lastN 2 S = lastN 2 S') : extOk b S s = extOk b S' s := by
  rw [← ext_last b h S, e, ext_last b h]
theorem steps_drop : ∀ (k : Nat) (l : List Int), stepsOf (l.drop k) = (stepsOf l).drop k
  | 0, l => by simp
  | k + 1, [] => by simp [stepsOf]
  | k + 1, [a] => by simp [stepsOf]
  | k + 1, a :: c :: l => by
    rw [List.drop_succ_cons, steps_drop k (c :: l), stepsOf, List.drop_succ_cons]
theorem occ_drop (r S : List Int) (k : Nat) (h : occ r (S.drop k) = true) : occ r S = true := by
  unfold occ at h ⊢
  rw [List.any_eq_true] at h ⊢
  obtain ⟨j, hj, e⟩ := h
  rw [List.drop_drop] at e
  have hj : j < (S.drop k).length + 1 - r.length := by simpa using hj
  rw [List.length_drop] at hj
  by_cases hk : k ≤ S.length
  · exact ⟨k + j, by simp; omega, e⟩
  · have e' := of_decide_eq_true e
    rw [List.drop_eq_nil_of_le (by omega), List.take_nil] at e'
    refine ⟨0, ?_, ?_⟩
    · rw [← e']; simp
    · rw [← e']; simp
theorem goes_drop (b : Book) (w : List Int) (k : Nat) (h : goesB b w = true) : goesB b (w.drop k) = true := by
  unfold goesB at h ⊢
  rw [Bool.and_eq_true] at h ⊢
  rw [steps_drop]
  constructor
  · have h1 := h.1
    rw [Bool.not_eq_true', List.any_eq_false] at h1 ⊢
    intro s hs
    exact h1 s (List.mem_of_mem_drop hs)
  · rw [List.all_eq_true]
    intro r hr
    have h2 := List.all_eq_true.mp h.2 r hr
    cases hq : occ r ((stepsOf w).drop k) with
    | false => rfl
    | true => rw [occ_drop r _ k hq] at h2; exact h2
/-- the law's window of four notes says enough -/
theorem goes_window (b : Book) (h : BookOk b) (w : List Int) (n : Int) (hw : w ≠ []) (hg : goesB b w = true) : goesB b (w.drop (w.length - 4) ++ [n]) = goesB b (w ++ [n]) := by
  obtain ⟨i, x, rfl⟩ : ∃ i x, w = i ++ [x] := ⟨w.dropLast, w.getLast hw, (List.dropLast_concat_getLast hw).symm⟩
  have e : (i ++ [x]).drop ((i ++ [x]).length - 4) = i.drop ((i ++ [x]).length - 4) ++ [x] := by
    rw [List.drop_append_of_le_length (by rw [List.length_append, List.length_singleton]; omega)]
  have hd := goes_drop b (i ++ [x]) ((i ++ [x]).length - 4) hg
  rw [e] at hd ⊢
  rw [goes_snoc b h, goes_snoc b h, hd, hg, Bool.true_and, Bool.true_and]
  refine ext_congr b h _ _ _ ?_
  rw [← e, steps_drop]
  unfold lastN
  rw [List.drop_drop, List.length_drop, steps_len]
  congr 1
  omega
/-! ### all lines begun -/
def growB (b : Book) (ws : List (List Int)) : List (List Int) := ws.flatMap fun w => ((rangeI b.m).filter fun n => goesB b (w ++ [n])).map fun n => w ++ [n]
def begunB (b : Book) : Nat → List (List Int)
  | 0 => b.begins.map fun n => [n]
  | k + 1 => growB b (begunB b k)
theorem begun_mem (b : Book) (h : BookOk b) : ∀ (k : Nat) (w : List Int), w ∈ begunB b k → w.length = k + 1 ∧ goesB b w = true ∧ w.getD 0 0 ∈ b.begins ∧ ∀ x ∈ w, x ∈ rangeI b.m
  | 0, w, hw => by
    obtain ⟨n, hn, rfl⟩ := List.mem_map.mp hw
    refine ⟨rfl, goes_one b h n, hn, fun x hx => ?_⟩
    rw [List.mem_singleton] at hx
    subst hx
    obtain ⟨p, hp⟩ := h.bg
    rw [hp] at hn
    exact (List.mem_filter.mp hn).1
  | k + 1, w, hw => by
    obtain ⟨v, hv, hw⟩ := List.mem_flatMap.mp hw
    obtain ⟨n, hn, rfl⟩ := List.mem_map.mp hw
    obtain ⟨h1, h2, h3, h4⟩ := begun_mem b h k v hv
    have hn := List.mem_filter.mp hn
    refine ⟨by rw [List.length_append, h1]; rfl, hn.2, ?_, ?_⟩
    · cases v with
      | nil => simp at h1
      | cons a v => exact h3
    · intro x hx
      rw [List.mem_append, List.mem_singleton] at hx
      rcases hx with hx | rfl
      · exact h4 x hx
      · exact hn.1
theorem begun_len (b : Book) (h : BookOk b) : ∀ k, (begunB b k).length ≤ b.m ^ (k + 1)
  | 0 => by
    rw [begunB, List.length_map]
    obtain ⟨p, hp⟩ := h.bg
    rw [hp]
    have := List.length_filter_le p (rangeI b.m)
    unfold rangeI at this
    simp at this
    simpa [rangeI] using this
  | k + 1 => by
    rw [begunB, growB, List.length_flatMap]
    have key : ∀ l : List (List Int), (l.map fun w => (((rangeI b.m).filter fun n => goesB b (w ++ [n])).map fun n => w ++ [n]).length).sum ≤ l.length * b.m := by
      intro l
      induction l with
      | nil => simp
      | cons a l ih =>
        rw [List.map_cons, List.sum_cons, List.length_cons, Nat.add_mul, List.length_map]
        have := List.length_filter_le (fun n => goesB b (a ++ [n])) (rangeI b.m)
        have e : (rangeI b.m).length = b.m := by unfold rangeI; simp
        omega
    refine Nat.le_trans (key _) ?_
    rw [Nat.pow_succ]
    exact Nat.mul_le_mul_right _ (begun_len b h k)
end PD

/-! PVD: the books' helpers, what they answer. -/
namespace PD
open PySem PySem.Spec PyProof.Rows L2
open Enc
def lineB (b : Book) (l : List Int) : Bool := decide (l.getD 0 0 ∈ b.begins) && decide (l.getD (l.length - 1) 0 ∈ b.ends) && goesB b l
theorem is_line_ok (b : Book) (h : BookOk b) (l : List Int) (h0 : 1 ≤ l.length) (hl : l.length ≤ 1000000) : bd__law_is_line [encBk b, enc l] = some (.bool (lineB b l)) := by
  refine fn_ret rfl ?_
  show bg__law_is_line [.val (encBk b), .val (.tuple (l.map .int))] = _
  refine ret_of ?_
  have hg := goes_ok b h l hl
  have q0 := at_int l 0 (by omega) 0 rfl
  have q1 := at_int l (l.length - 1) (by omega) ((l.length : Int) - 1) (by omega)
  have i0 : inD false (.int (l.getD 0 0)) (enc b.begins) = some (.bool (false ^^ decide (l.getD 0 0 ∈ b.begins))) := inT_enc (α := Int) (by decide) false (l.getD 0 0) b.begins
  have i1 : inD false (.int (l.getD (l.length - 1) 0)) (enc b.ends) = some (.bool (false ^^ decide (l.getD (l.length - 1) 0 ∈ b.ends))) := inT_enc (α := Int) (by decide) false _ b.ends
  have hln : (l.map PyData.int).length = l.length := List.length_map _
  rw [enc_list] at hg
  have hen : (l.map (enc : Int → D)) = l.map PyData.int := rfl
  rw [hen] at hg
  generalize l.map PyData.int = ws at q0 q1 hg hln ⊢
  have hb2 : ∀ i, b2 ixD (lp 0) (cst (.int i)) [.val (encBk b), .val (.tuple ws)] = atI [.int b.m, .int b.leap, enc b.begins, enc b.ends, enc b.barred] i := fun i => rfl
  have hp : decide ((0 : Int) < (l.length : Int)) = true := by simp; omega
  have hb2' := hb2 2
  have hb3' := hb2 3
  rw [atI_lit2] at hb2'
  rw [atI_lit3] at hb3'
  have s1 : b2 (inD false) (b2 ixD (lp 1) (cst (.int 0))) (b2 ixD (lp 0) (cst (.int 2))) [.val (encBk b), .val (.tuple ws)] = some (.bool (decide (l.getD 0 0 ∈ b.begins))) := by
    rw [e_b2, hb2']
    simp only [e_b2, e_lp, getP_succ, getP_zero, sP_val, Option.bind_some, e_cst, o_ixT, q0, i0, Bool.false_xor]
  have s2 : b2 (inD false) (b2 ixD (lp 1) (b2 subD (cl lenD (acons (lp 1) anil)) (cst (.int 1)))) (b2 ixD (lp 0) (cst (.int 3))) [.val (encBk b), .val (.tuple ws)] = some (.bool (decide (l.getD (l.length - 1) 0 ∈ b.ends))) := by
    rw [e_b2, hb3']
    simp only [e_b2, e_lp, getP_succ, getP_zero, sP_val, Option.bind_some, e_cst, o_ixT, q1, i1, Bool.false_xor, e_cl, e_acons, e_anil, o_lenT, hln, o_sub]
  have s3 : cl bd__law_goes (acons (lv 0) (acons (lv 1) anil)) [.val (encBk b), .val (.tuple ws)] = some (.bool (goesB b l)) := by
    simp only [e_cl, e_acons, e_lv, getV_succ, getV_zero, sV_val, Option.bind_some, e_anil, hg]
  have s0 : b2 gtD (cl lenD (acons (lp 1) anil)) (cst (.int 0)) [.val (encBk b), .val (.tuple ws)] = some (.bool true) := by
    simp only [e_cl, e_acons, e_b2, e_lp, getP_succ, getP_zero, sP_val, Option.bind_some, e_anil, o_lenT, hln, e_cst, gt_int, hp]
  simp only [e_xand, s0, s1, s2, s3, Option.bind_some, e_boolOf, if_true]
  unfold lineB
  cases decide (l.getD 0 0 ∈ b.begins) <;> cases decide (l.getD (l.length - 1) 0 ∈ b.ends) <;> cases goesB b l <;> rfl
theorem rangeI_rg (m : Nat) (h : m ≤ 1000) : rg1 [.int (m : Int)] = some ((rangeI m).map .int) := by
  rw [o_rg1 _ ⟨by omega, by omega⟩]
  unfold rangeI
  rw [List.map_map]
  rfl
noncomputable abbrev gcomp : FA := lcF [6] (cl rg1 (acons (b2 ixD (lp 0) (cst (.int 0))) anil)) (gn 6) (tb (cl bd__law_goes (acons (lv 0) (acons (b2 addD (sl3 slD (lp 5) (oi (cl max2D (acons (cst (.int 0)) (acons (b2 subD (cl lenD (acons (lp 5) anil)) (cst (.int 4))) anil)))) ono) (mkT (acons (lv 6) anil))) anil)))) (b2 addD (lp 5) (mkT (acons (lv 6) anil)))
theorem gcomp_ok (b : Book) (h : BookOk b) (w : List Int) (hw : w ≠ []) (hl : w.length ≤ 1000) (hg : goesB b w = true) (a1 a2 a3 a4 a6 : Slot) :
    gcomp [.val (encBk b), a1, a2, a3, a4, .val (.tuple (w.map .int)), a6] = some (((((rangeI b.m).filter fun n => goesB b (w ++ [n])).map fun n => w ++ [n])).map enc) := by
  have z := lcF_eq (vs := [6]) (f := cl rg1 (acons (b2 ixD (lp 0) (cst (.int 0))) anil)) (g := gn 6) (tt := tb (cl bd__law_goes (acons (lv 0) (acons (b2 addD (sl3 slD (lp 5) (oi (cl max2D (acons (cst (.int 0)) (acons (b2 subD (cl lenD (acons (lp 5) anil)) (cst (.int 4))) anil)))) ono) (mkT (acons (lv 6) anil))) anil)))) (fe := b2 addD (lp 5) (mkT (acons (lv 6) anil)))
    (ρ := [.val (encBk b), a1, a2, a3, a4, .val (.tuple (w.map .int)), a6]) (PyData.int) (fun n => [(6, .int n)]) (fun n => goesB b (w ++ [n])) (fun n => enc (w ++ [n])) (rangeI b.m) ?_ ?_ fun n hn => ⟨rfl, ?_, fun _ => ?_⟩
  · show lcF _ _ _ _ _ _ = _
    rw [z, List.map_map]; rfl
  · have hr := rangeI_rg b.m (by have := h.m8; omega)
    unfold encBk
    simp only [e_cl, e_acons, e_b2, e_lp, getP_zero, sP_val, Option.bind_some, e_cst, o_ixT, atI_lit0, e_anil]
    exact hr
  · have := h.m8
    unfold rangeI; simp; omega
  · have hc := cut_from (w.map PyData.int) ((w.length - 4 : Nat) : Int) (by omega)
    rw [Int.toNat_natCast] at hc
    have hm : (if ((w.length : Int) - 4) > 0 then ((w.length : Int) - 4) else 0) = ((w.length - 4 : Nat) : Int) := by split <;> omega
    have hgo : bd__law_goes [encBk b, .tuple (((w.map PyData.int).drop (w.length - 4)) ++ [.int n])] = some (.bool (goesB b (w ++ [n]))) := by
      have := goes_ok b h (w.drop (w.length - 4) ++ [n]) (by simp; omega)
      rw [goes_window b h w n hw hg] at this
      rw [← this]
      congr 3
      rw [enc_list, List.map_append, List.map_drop]
      rfl
    have ha : addD (.tuple ((w.map PyData.int).drop (w.length - 4))) (.tuple [.int n]) = some (.tuple (((w.map PyData.int).drop (w.length - 4)) ++ [.int n])) := o_addT _ _ (by simp; omega)
    have hln : (w.map PyData.int).length = w.length := List.length_map _
    generalize w.map PyData.int = ws at hc hgo ha hln ⊢
    simp only [e_wipe_cons, e_wipe_nil, e_putAll_cons, e_putAll_nil, List.set_cons_succ, List.set_cons_zero, e_tb, e_cl, e_acons, e_b2, e_sl3, e_oi, e_ono, e_lp, e_lv, getP_succ, getP_zero, getV_succ, getV_zero, sP_val, sV_val, e_cst, e_anil, Option.bind_some, o_lenT, hln, o_sub, o_max2, hm, e_intOf, Option.map_some, o_slT, hc, e_mkT, o_line1, ha, hgo, e_boolOf]
  · have ha : addD (.tuple (w.map PyData.int)) (.tuple [.int n]) = some (.tuple ((w.map PyData.int) ++ [.int n])) := o_addT _ _ (by simp; omega)
    rw [enc_list, List.map_append]
    show _ = some (PyData.tuple (w.map PyData.int ++ [.int n]))
    generalize w.map PyData.int = ws at ha ⊢
    simp only [e_wipe_cons, e_wipe_nil, e_putAll_cons, e_putAll_nil, List.set_cons_succ, List.set_cons_zero, e_b2, e_lp, e_lv, getP_succ, getP_zero, getV_succ, getV_zero, sP_val, sV_val, Option.bind_some, e_mkT, e_acons, e_anil, o_line1, Option.map_some, ha]
theorem grow_take (b : Book) (ws : List (List Int)) (i : Nat) (a : List Int) (ha : ws[i]? = some a) : growB b (ws.take (i + 1)) = growB b (ws.take i) ++ ((rangeI b.m).filter fun n => goesB b (a ++ [n])).map fun n => a ++ [n] := by
  unfold growB
  rw [List.take_add_one, ha, List.flatMap_append]
  simp
theorem growB_len (b : Book) (ws : List (List Int)) (i : Nat) : (growB b (ws.take i)).length ≤ (growB b ws).length := by
  conv => rhs; rw [← List.take_append_drop i ws]
  unfold growB
  rw [List.flatMap_append, List.length_append]
  omega
theorem turn (b : Book) (h : BookOk b) (j : Nat) (hl : (begunB b (j + 1)).length ≤ 2097152) (hj : j ≤ 100) (a1 a3 t4 t5 t6 : Slot) :
   ∃ u4 u5 u6, (thenF (setLF 4 (mkL anil))
 (thenF (forF (u1 seqOf (lv 2)) (gn 5)
 (extF 4 (toL gcomp)))
 (fz 4 (setF 2 (lv 4))))) [.val (encBk b), a1, .val (.list ((begunB b j).map enc)), a3, t4, t5, t6] = some (.nx [.val (encBk b), a1, .val (.list ((begunB b (j + 1)).map enc)), a3, u4, u5, u6]) := by
  obtain ⟨ρ', e, u5, u6, rfl⟩ := forD_ix (gt := gn 5) (gb := extF 4 (toL gcomp)) (enc : List Int → D) (begunB b j) (fun i ρ => ∃ u5 u6, ρ = [.val (encBk b), a1, .val (.list ((begunB b j).map enc)), a3, .ol ((growB b ((begunB b j).take i)).map enc), u5, u6])
    (fun i w ρ hw hr => by
      obtain ⟨u5, u6, rfl⟩ := hr
      have hwm := List.mem_of_getElem? hw
      obtain ⟨h1, h2, _, _⟩ := begun_mem b h j w hwm
      have hc := gcomp_ok b h w (by rintro rfl; simp at h1) (by omega) h2 a1 (.val (.list ((begunB b j).map enc))) a3 (.ol ((growB b ((begunB b j).take i)).map enc)) u6
      refine ⟨[(5, enc w)], _, rfl, .inl ?_, .val (enc w), u6, rfl⟩
      have hg := growB_len b (begunB b j) (i + 1)
      rw [grow_take b _ i w hw] at hg ⊢
      have hg2 : (growB b (begunB b j)).length ≤ 2097152 := hl
      rw [List.length_append] at hg
      rw [List.map_append]
      show extF 4 (toL gcomp) [.val (encBk b), a1, .val (.list ((begunB b j).map enc)), a3, .ol ((growB b ((begunB b j).take i)).map enc), .val (.tuple (w.map .int)), u6] = _
      have q : ((growB b ((begunB b j).take i)).map (enc : List Int → D)).length + (((((rangeI b.m).filter fun n => goesB b (w ++ [n])).map fun n => w ++ [n])).map (enc : List Int → D)).length ≤ 16777216 := by
        rw [List.length_map, List.length_map]; omega
      rw [e_extF, e_toL, hc]
      simp only [Option.map_some, Option.bind_some, e_seqOf, getL_succ, getL_zero, sL_ol, q, if_true, List.set_cons_succ, List.set_cons_zero]
      rfl)
    ⟨t5, t6, rfl⟩
  rw [List.take_length] at e
  refine ⟨.val (.list ((begunB b (j + 1)).map enc)), u5, u6, ?_⟩
  refine (then_setL (e := (rfl : mkL anil _ = some []))).trans ?_
  refine (then_nx (for_of (rfl : u1 seqOf (lv 2) _ = some ((begunB b j).map enc)) e)).trans ?_
  rfl
theorem fin (k : Nat) (hk : k ≤ 6) (b : Book) (h : BookOk b) (hlen : ∀ j, j ≤ k → (begunB b j).length ≤ 2097152) :
   thenF (forF (cl rg1 (acons (b2 subD (lp 1) (cst (.int 1))) anil)) (gn 3)
 (thenF (setLF 4 (mkL anil))
 (thenF (forF (u1 seqOf (lv 2)) (gn 5)
 (extF 4 (toL gcomp)))
 (fz 4 (setF 2 (lv 4))))))
 (retF (lv 2)) [.val (encBk b), .val (.int ((k : Int) + 1)), .val (.list ((begunB b 0).map enc)), .un, .un, .un, .un] = some (.rt (.list ((begunB b k).map enc))) := by
  have hf : cl rg1 (acons (b2 subD (lp 1) (cst (.int 1))) anil) [.val (encBk b), .val (.int ((k : Int) + 1)), .val (.list ((begunB b 0).map enc)), .un, .un, .un, .un] = some ((List.range k).map fun i => .int (i : Nat)) := by
    have : ((k : Int) + 1 - 1) = (k : Int) := by omega
    simp only [e_cl, e_acons, e_b2, e_lp, getP_succ, getP_zero, sP_val, Option.bind_some, e_cst, e_anil, o_sub, this]
    exact o_rg1n k (by omega)
  obtain ⟨ρ', e, t3, t4, t5, t6, rfl⟩ := forD_ix (gt := gn 3) (gb := (thenF (setLF 4 (mkL anil))
 (thenF (forF (u1 seqOf (lv 2)) (gn 5)
 (extF 4 (toL gcomp)))
 (fz 4 (setF 2 (lv 4)))))) (fun i : Nat => (.int (i : Nat) : D)) (List.range k) (fun j ρ => ∃ t3 t4 t5 t6, ρ = [.val (encBk b), .val (.int ((k : Int) + 1)), .val (.list ((begunB b j).map enc)), t3, t4, t5, t6])
    (fun j a ρ ha hr => by
      obtain ⟨t3, t4, t5, t6, rfl⟩ := hr
      have hj := (List.getElem?_eq_some_iff.mp ha).1
      rw [List.length_range] at hj
      obtain ⟨u4, u5, u6, e⟩ := turn b h j (hlen (j + 1) (by omega)) (by omega) (.val (.int ((k : Int) + 1))) (.val (.int (a : Nat))) t4 t5 t6
      exact ⟨[(3, .int (a : Nat))], _, rfl, .inl e, _, _, _, _, rfl⟩)
    ⟨_, _, _, _, rfl⟩
  rw [List.length_range] at e
  refine (then_nx (for_of hf e)).trans (ret_of rfl)
theorem begun_ok (b : Book) (h : BookOk b) (k : Nat) (hk : k ≤ 6) : bd__law_begun [encBk b, .int ((k : Int) + 1)] = some (.list ((begunB b k).map enc)) := by
  refine fn_ret rfl ?_
  show bg__law_begun [.val (encBk b), .val (.int ((k : Int) + 1)), .un, .un, .un, .un, .un] = _
  have e1 : lcF [6] (u1 tupOf (b2 ixD (lp 0) (cst (.int 2)))) (gn 6) noIf (mkT (acons (lv 6) anil)) [.val (encBk b), .val (.int ((k : Int) + 1)), .un, .un, .un, .un, .un] = some ((begunB b 0).map enc) := by
    have z := lcF_map (vs := [6]) (f := u1 tupOf (b2 ixD (lp 0) (cst (.int 2)))) (g := gn 6) (fe := mkT (acons (lv 6) anil)) (ρ := [.val (encBk b), .val (.int ((k : Int) + 1)), .un, .un, .un, .un, .un])
      (PyData.int) (fun n => [(6, .int n)]) (fun n => enc [n]) b.begins ?_ ?_ fun n hn => ⟨rfl, rfl⟩
    · rw [z, begunB, List.map_map]; rfl
    · unfold encBk
      simp only [e_u1, e_b2, e_lp, getP_zero, sP_val, Option.bind_some, e_cst, o_ixT, atI_lit2, enc_list, e_tupOf]
      rfl
    · have := begun_len b h 0
      rw [begunB, List.length_map] at this
      have := h.m8
      simp at *; omega
  refine (then_setL e1).trans ?_
  show thenF _ _ [.val (encBk b), .val (.int ((k : Int) + 1)), .val (.list ((begunB b 0).map enc)), .un, .un, .un, .un] = _
  have hlen : ∀ j, j ≤ k → (begunB b j).length ≤ 2097152 := by
    intro j hj
    refine Nat.le_trans (begun_len b h j) ?_
    refine Nat.le_trans (Nat.pow_le_pow_left h.m8 (j + 1)) ?_
    exact Nat.le_trans (Nat.pow_le_pow_right (by decide) (show j + 1 ≤ 7 by omega)) (by decide)
  refine fin k hk b h hlen
/-! ### follows, member_behind -/
theorem cut_neg (ds : List D) (k : Nat) (hk : 1 ≤ k) : cutD ds (some (-(k : Int))) none = ds.drop (ds.length - k) := by
  unfold cutD
  rw [sIx_neg' _ _ _ (by omega)]
  have e : HT.sIx ds.length ds.length none = ds.length := rfl
  rw [e, List.take_of_length_le (by rw [List.length_drop]; omega)]
  congr 1
  omega
def encM : Option (Int × List Int) → D
  | none => .none
  | some p => enc p
theorem follows_ok (b : Book) (h : BookOk b) (S : List Int) (s : Int) (hS : S.length ≤ 1000) : bd_follows [encBk b, enc S, .int s] = some (.bool (extOk b S s)) := by
  refine fn_ret rfl ?_
  show bg_follows [.val (encBk b), .val (.tuple (S.map .int)), .val (.int s), .un, .un, .un, .un] = _
  have e1 : parF 3 4 (acons (b2 ixD (lp 0) (cst (.int 1))) (acons (b2 ixD (lp 0) (cst (.int 4))) anil)) [.val (encBk b), .val (.tuple (S.map .int)), .val (.int s), .un, .un, .un, .un] = some (.nx [.val (encBk b), .val (.tuple (S.map .int)), .val (.int s), .val (.int b.leap), .val (enc b.barred), .un, .un]) := by
    unfold encBk
    simp only [e_parF, e_acons, e_b2, e_lp, getP_zero, sP_val, Option.bind_some, e_cst, o_ixT, atI_lit1, atI_lit4, e_anil]
    rfl
  refine (then_nx e1).trans ?_
  generalize encBk b = bk
  have e2 : tc gtD (cl absD (acons (lp 2) anil)) (lp 3) [.val bk, .val (.tuple (S.map .int)), .val (.int s), .val (.int b.leap), .val (enc b.barred), .un, .un] = some (decide (b.leap < absI s)) := by
    simp only [e_tc, e_cl, e_acons, e_lp, getP_succ, getP_zero, sP_val, Option.bind_some, e_anil, o_abs, gt_int, e_boolOf]
    rfl
  unfold extOk
  cases hq : decide (b.leap < absI s) with
  | true =>
    rw [hq] at e2
    exact then_ift_rt e2 rfl
  | false =>
    rw [hq] at e2
    refine (then_if_f e2 rfl).trans ?_
    have ha : addD (.tuple (S.map PyData.int)) (.tuple [.int s]) = some (.tuple ((S ++ [s]).map PyData.int)) := by
      rw [o_addT _ _ (by simp; omega), List.map_append]; rfl
    have e3 : b2 addD (lp 1) (mkT (acons (lv 2) anil)) [.val bk, .val (.tuple (S.map .int)), .val (.int s), .val (.int b.leap), .val (enc b.barred), .un, .un] = some (.tuple ((S ++ [s]).map PyData.int)) := by
      generalize (S ++ [s]).map PyData.int = ts at ha ⊢
      generalize S.map PyData.int = ss at ha ⊢
      simp only [e_b2, e_lp, e_lv, getP_succ, getP_zero, getV_succ, getV_zero, sP_val, sV_val, Option.bind_some, e_mkT, e_acons, e_anil, o_line1, Option.map_some, ha]
    refine (then_set e3).trans ?_
    show retF _ [.val bk, .val (.tuple (S.map .int)), .val (.int s), .val (.int b.leap), .val (enc b.barred), .val (.tuple ((S ++ [s]).map PyData.int)), .un] = _
    generalize hT : S ++ [s] = T
    have z := lcF_map (vs := [6]) (f := u1 tupOf (lv 4)) (g := gn 6) (fe := b2 eqD (sl3 slD (lp 5) (oi (u1 negD (cl lenD (acons (lp 6) anil)))) ono) (lp 6)) (ρ := [.val bk, .val (.tuple (S.map .int)), .val (.int s), .val (.int b.leap), .val (enc b.barred), .val (.tuple (T.map PyData.int)), .un])
      (enc : List Int → D) (fun r => [(6, enc r)]) (fun r => .bool (sfx r T)) b.barred rfl (by have := h.bl; omega) fun r hr => ⟨rfl, ?_⟩
    · refine ret_of ?_
      rw [e_xn, e_cl, e_acons, e_toL, z]
      have q := o_any (b.barred.map fun r => sfx r T)
      rw [List.map_map, List.any_map] at q
      show ((Option.bind (anyD [.list (b.barred.map (PyData.bool ∘ fun r => sfx r T))]) boolOf).map fun k => PyData.bool (!k)) = _
      rw [q]
      show some (PyData.bool (!(b.barred.any ((fun b => b) ∘ fun r => sfx r T)))) = _
      congr 2
      simp only [Bool.not_false, Bool.true_and]
      rw [List.not_any_eq_all_not]
      rfl
    · have hc := cut_neg (T.map PyData.int) r.length (h.br r hr).1
      rw [List.length_map, ← List.map_drop] at hc
      have he : eqD (.tuple ((T.drop (T.length - r.length)).map .int)) (.tuple (r.map .int)) = some (.bool (sfx r T)) := eqD_enc (α := List Int) (by decide) (T.drop (T.length - r.length)) r
      have hln : (r.map PyData.int).length = r.length := List.length_map _
      show b2 eqD _ _ [.val bk, .val (.tuple (S.map .int)), .val (.int s), .val (.int b.leap), .val (enc b.barred), .val (.tuple (T.map PyData.int)), .val (.tuple (r.map .int))] = _
      generalize (T.drop (T.length - r.length)).map PyData.int = d1 at hc he
      generalize T.map PyData.int = d2 at hc ⊢
      generalize r.map PyData.int = d3 at he hln ⊢
      simp only [e_b2, e_sl3, e_oi, e_ono, e_u1, e_lp, getP_succ, getP_zero, sP_val, Option.bind_some, e_intOf, Option.map_some, e_cl, e_acons, e_anil, o_lenT, hln, o_neg, o_slT, hc, he]
/-- one note more -/
def nextM (b : Book) (μ : Option (Int × List Int)) (n : Int) : Option (Int × List Int) :=
  match μ with
  | none => if n ∈ b.begins then some (n, []) else none
  | some (l, S) => if extOk b S (n - l) = true then some (n, lastN 2 (S ++ [n - l])) else none
theorem member_behind_ok (b : Book) (h : BookOk b) (μ : Option (Int × List Int)) (n : Int) (hS : ∀ l S, μ = some (l, S) → S.length ≤ 2) : bd_member_behind [encBk b, encM μ, .int n] = some (encM (nextM b μ n)) := by
  refine fn_ret rfl ?_
  show bg_member_behind [.val (encBk b), .val (encM μ), .val (.int n), .un, .un] = _
  cases μ with
  | none =>
    refine then_ift_rt rfl (ret_of ?_)
    have i0 : inD false (.int n) (enc b.begins) = some (.bool (false ^^ decide (n ∈ b.begins))) := inT_enc (α := Int) (by decide) false n b.begins
    have e1 : tc (inD false) (lp 2) (b2 ixD (lp 0) (cst (.int 2))) [.val (encBk b), .val (encM none), .val (.int n), .un, .un] = some (decide (n ∈ b.begins)) := by
      have hb2 : b2 ixD (lp 0) (cst (.int 2)) [.val (encBk b), .val (encM none), .val (.int n), .un, .un] = atI [.int b.m, .int b.leap, enc b.begins, enc b.ends, enc b.barred] 2 := rfl
      rw [atI_lit2] at hb2
      rw [e_tc, hb2]
      simp only [e_lp, getP_succ, getP_zero, sP_val, Option.bind_some, i0, Bool.false_xor, e_boolOf]
    rw [e_iteF, e1, Option.bind_some]
    unfold nextM
    by_cases hm : n ∈ b.begins
    · simp only [hm, decide_true, if_true]; rfl
    · simp only [hm, decide_false, if_false]; rfl
  | some p =>
    obtain ⟨l, S⟩ := p
    have hS := hS l S rfl
    refine (then_if_f rfl rfl).trans ?_
    have e1 : asgF (lv 1) (gTupD 2 (gsCons (gn 3) (gsCons (gn 4) gsNil))) [.val (encBk b), .val (encM (some (l, S))), .val (.int n), .un, .un] = some (.nx [.val (encBk b), .val (encM (some (l, S))), .val (.int n), .val (.int l), .val (enc S)]) := rfl
    refine (then_nx e1).trans ?_
    have hf := follows_ok b h S (n - l) (by omega)
    have e2 : tn (tb (cl bd_follows (acons (lv 0) (acons (lv 4) (acons (b2 subD (lp 2) (lp 3)) anil))))) [.val (encBk b), .val (encM (some (l, S))), .val (.int n), .val (.int l), .val (enc S)] = some (!extOk b S (n - l)) := by
      generalize (enc S : D) = x at hf ⊢
      simp only [e_tn, e_tb, e_cl, e_acons, e_lv, e_lp, e_b2, getV_succ, getV_zero, getP_succ, getP_zero, sP_val, sV_val, Option.bind_some, o_sub, e_anil, hf, e_boolOf, Option.map_some]
    unfold nextM
    cases hx : extOk b S (n - l) with
    | false =>
      rw [hx] at e2
      simp only [hx]
      exact then_ift_rt e2 rfl
    | true =>
      rw [hx] at e2
      simp only [hx, if_true]
      refine (then_if_f e2 rfl).trans (ret_of ?_)
      have ha : addD (.tuple (S.map PyData.int)) (.tuple [.int (n - l)]) = some (.tuple ((S ++ [n - l]).map PyData.int)) := by
        rw [o_addT _ _ (by simp; omega), List.map_append]; rfl
      have hc := cut_neg ((S ++ [n - l]).map PyData.int) 2 (by decide)
      rw [List.length_map, ← List.map_drop] at hc
      show mkT (acons (lv 2) (acons (sl3 slD (b2 addD (lp 4) (mkT (acons (b2 subD (lp 2) (lp 3)) anil))) (oi (b2 subD (cst (.int 1)) (cst (.int 3)))) ono) anil)) [.val (encBk b), .val (encM (some (l, S))), .val (.int n), .val (.int l), .val (.tuple (S.map .int))] = some (.tuple [.int n, .tuple ((lastN 2 (S ++ [n - l])).map .int)])
      unfold lastN
      have h13 : ((1 : Int) - 3) = -((2 : Nat) : Int) := by decide
      generalize ((S ++ [n - l]).drop ((S ++ [n - l]).length - 2)).map PyData.int = d1 at hc ⊢
      generalize (S ++ [n - l]).map PyData.int = d2 at ha hc ⊢
      generalize S.map PyData.int = d3 at ha ⊢
      generalize encBk b = d4
      generalize encM (some (l, S)) = d5
      simp only [e_mkT, e_acons, e_lv, getV_succ, getV_zero, sV_val, e_sl3, e_b2, e_lp, getP_succ, getP_zero, sP_val, Option.bind_some, o_sub, e_anil, o_line1, o_line2, Option.map_some, ha, e_oi, e_cst, e_intOf, h13, e_ono, o_slT, hc]
end PD

/-! PVE: the drawn book. -/
namespace PD
open PySem PySem.Spec PyProof.Rows L2
open Enc
def leE {α : Type} [Enc α] (a b : α) : Bool := !lt b a
theorem sort_tup {α : Type} [Enc α] (h : dep α ≤ 39) (l : List (List α)) (hn : ∀ r ∈ l, 1 ≤ r.length) : sortL [.list (l.map enc)] = some ((l.mergeSort leE).map enc) := by
  show (if _ then _ else _) = _
  rw [if_pos]
  · congr 1
    exact (List.map_mergeSort (r := leE) (s := leData) (f := (enc : List α → D)) (fun a _ b _ => rfl)).symm
  · refine ⟨oks_map 40 (by show dep (List α) ≤ 40; exact Nat.succ_le_succ h) l, alikeB_enc l, ?_⟩
    unfold sortableB
    rw [Bool.or_eq_true]
    refine .inl ?_
    rw [List.all_eq_true]
    intro x hx
    obtain ⟨r, hr, rfl⟩ := List.mem_map.mp hx
    have := hn r hr
    cases r with
    | nil => simp at this
    | cons a r => rfl
theorem o_shl (j : Nat) (h : j ≤ 24) : shlD (.int 1) (.int (j : Int)) = some (.int (2 ^ j : Nat)) := by
  show (if powOk 1 (j : Int) then _ else none) = _
  rw [if_pos (by unfold powOk; exact ⟨by omega, by omega, by decide⟩)]
  simp
theorem pow_small (j : Nat) (h : j ≤ 24) : (2 ^ j : Nat) < 1073741824 := Nat.lt_of_le_of_lt (Nat.pow_le_pow_right (by decide) h) (by decide)
/-- a bit of a cell, as the laws ask for it -/
theorem bit_ok (c : Int) (j : Nat) (h : j ≤ 24) : ((shlD (.int 1) (.int (j : Int))).bind fun y => fdivD (.int c) y) = some (.int (c / (2 ^ j : Nat))) := by
  rw [o_shl j h, Option.bind_some]
  have h1 : 0 < (2 ^ j : Nat) := Nat.pow_pos (by decide)
  have h2 := pow_small j h
  exact o_fdiv _ _ (by omega) (by omega)
/-- the notes that a cell names -/
def cellP (c : Int) (n : Int) : Bool := decide (0 < c / (2 ^ n.toNat : Nat) % 3)
theorem notes_ok (rows : List D) (i : Int) (c : Int) (q0 q1 : D) (fi : FE) (m : Nat) (hm : m ≤ 8) (hrow : atI rows i = some (.int c)) (s2 s4 s5 s6 s7 s8 s9 s10 s11 : Slot)
    (hfi : ∀ s10 : Slot, fi [.val q0, .val q1, s2, .val (.int m), s4, s5, s6, s7, s8, s9, s10, s11] = some (.int i)) (hq : q0 = .list rows) :
    lcF [10] (cl rg1 (acons (lp 3) anil)) (gn 10) (tc gtD (b2 modD (b2 fdivD (cl intD (acons (b2 ixD (lp 0) fi) anil)) (b2 shlD (cst (.int 1)) (lp 10))) (cst (.int 3))) (cst (.int 0))) (lv 10)
      [.val q0, .val q1, s2, .val (.int m), s4, s5, s6, s7, s8, s9, s10, s11] = some (((rangeI m).filter (cellP c)).map .int) := by
  refine lcF_eq (PyData.int) (fun n => [(10, .int n)]) (cellP c) (fun n => .int n) (rangeI m) ?_ ?_ fun n hn => ⟨rfl, ?_, fun _ => ?_⟩
  · have := rangeI_rg m (by omega)
    simp only [e_cl, e_acons, e_lp, getP_succ, getP_zero, sP_val, Option.bind_some, e_anil]
    exact this
  · unfold rangeI; simp; omega
  · obtain ⟨k, hk, rfl⟩ := List.mem_map.mp hn
    have hk : k < m := by simpa using hk
    have hb := bit_ok c k (by omega)
    have hfi' := hfi (.val (.int (k : Int)))
    have hmod : modD (.int (c / (2 ^ k : Nat))) (.int 3) = some (.int (c / (2 ^ k : Nat) % 3)) := o_mod _ _ (by decide)
    subst hq
    simp only [e_wipe_cons, e_wipe_nil, e_putAll_cons, e_putAll_nil, List.set_cons_succ, List.set_cons_zero]
    have h0 : cl intD (acons (b2 ixD (lp 0) fi) anil) [.val (.list rows), .val q1, s2, .val (.int m), s4, s5, s6, s7, s8, s9, .val (.int (k : Int)), s11] = some (.int c) := by
      rw [e_cl, e_acons, e_b2, hfi']
      simp only [e_lp, getP_zero, sP_val, Option.bind_some, o_ixL, hrow, e_anil, o_int]
    rw [e_tc, e_b2, e_b2, h0]
    simp only [Option.bind_some, e_b2, e_cst, e_lp, getP_succ, getP_zero, sP_val, hb, hmod, gt_int, e_boolOf]
    rfl
  · simp only [e_wipe_cons, e_wipe_nil, e_putAll_cons, e_putAll_nil, List.set_cons_succ, List.set_cons_zero, e_lv, getV_succ, getV_zero, sV_val]
def cellT (c : Int) : Nat := (1 + c / 512 % 3).toNat
def cellS (c : Int) : List Int := (List.range (cellT c)).map fun j => c / (2 ^ (3 * j) : Nat) % 7 - 3
theorem cellS_len (c : Int) : 1 ≤ (cellS c).length ∧ (cellS c).length ≤ 3 := by
  unfold cellS cellT
  rw [List.length_map, List.length_range]
  omega
noncomputable abbrev stepsG : FE := cl tupD (acons (toL (lcF [11] (cl rg1 (acons (b2 addD (cst (.int 1)) (b2 modD (b2 fdivD (lp 8) (cst (.int 512))) (cst (.int 3)))) anil)) (gn 11) noIf (b2 subD (b2 modD (b2 fdivD (lp 8) (b2 shlD (cst (.int 1)) (b2 mulD (cst (.int 3)) (lp 11)))) (cst (.int 7))) (cst (.int 3))))) anil)
theorem steps_ok (c : Int) (s0 s1 s2 s3 s4 s5 s6 s7 s9 s10 s11 : Slot) : stepsG [s0, s1, s2, s3, s4, s5, s6, s7, .val (.int c), s9, s10, s11] = some (enc (cellS c)) := by
  have ht : 1 + c / 512 % 3 = (cellT c : Int) := by unfold cellT; omega
  have ht3 : cellT c ≤ 3 := by unfold cellT; omega
  have z := lcF_map (vs := [11]) (f := cl rg1 (acons (b2 addD (cst (.int 1)) (b2 modD (b2 fdivD (lp 8) (cst (.int 512))) (cst (.int 3)))) anil)) (g := gn 11) (fe := b2 subD (b2 modD (b2 fdivD (lp 8) (b2 shlD (cst (.int 1)) (b2 mulD (cst (.int 3)) (lp 11)))) (cst (.int 7))) (cst (.int 3))) (ρ := [s0, s1, s2, s3, s4, s5, s6, s7, .val (.int c), s9, s10, s11])
    (fun j : Nat => (.int (j : Nat) : D)) (fun j => [(11, .int (j : Nat))]) (fun j => .int (c / (2 ^ (3 * j) : Nat) % 7 - 3)) (List.range (cellT c)) ?_ (by rw [List.length_range]; omega) fun j hj => ⟨rfl, ?_⟩
  · show cl tupD (acons (toL _) anil) _ = _
    rw [e_cl, e_acons, e_toL, z]
    show some (PyData.tuple _) = _
    rw [enc_list]
    unfold cellS
    rw [List.map_map]
    rfl
  · have h1 : fdivD (.int c) (.int 512) = some (.int (c / 512)) := o_fdiv _ _ (by decide) (by decide)
    have h2 : modD (.int (c / 512)) (.int 3) = some (.int (c / 512 % 3)) := o_mod _ _ (by decide)
    simp only [e_cl, e_acons, e_b2, e_lp, getP_succ, getP_zero, sP_val, Option.bind_some, e_cst, e_anil, h1, h2, o_add, ht]
    exact o_rg1n _ (by omega)
  · have hj : j < cellT c := by simpa using hj
    have h3 : mulD (.int 3) (.int (j : Int)) = some (.int ((3 * j : Nat) : Int)) := by
      rw [o_mul _ _ (.inl ⟨by decide, by decide⟩)]
      rfl
    have hb := bit_ok c (3 * j) (by omega)
    have h4 : modD (.int (c / (2 ^ (3 * j) : Nat))) (.int 7) = some (.int (c / (2 ^ (3 * j) : Nat) % 7)) := o_mod _ _ (by decide)
    simp only [e_wipe_cons, e_wipe_nil, e_putAll_cons, e_putAll_nil, List.set_cons_succ, List.set_cons_zero, e_b2, e_lp, getP_succ, getP_zero, sP_val, Option.bind_some, e_cst, h3, hb, h4, o_sub]
theorem law_book_ok (row : List Int) (a most : Nat) (hr : ∀ x ∈ row, 0 ≤ x ∧ x < 1000003) (hl : a + 8 ≤ row.length) (hm1 : 1 ≤ most) (hm8 : most ≤ 8) (ha : row.length ≤ 1000) :
    ∃ b, BookOk b ∧ b.m ≤ most ∧ bd__law_book [.list (row.map .int), .int (a : Int), .int (most : Int)] = some (encBk b) := by
  have hat : ∀ k : Nat, k < 8 → ∃ c : Int, atI (row.map PyData.int) ((a : Int) + (k : Int)) = some (.int c) ∧ 0 ≤ c ∧ c < 1000003 := by
    intro k hk
    have h2 : a + k < row.length := by omega
    refine ⟨row[a + k], ?_, hr _ (List.getElem_mem h2)⟩
    rw [show ((a : Int) + (k : Int)) = ((a + k : Nat) : Int) by omega]
    exact PD.atI_nat (by rw [List.getElem?_map, List.getElem?_eq_getElem h2]; rfl)
  obtain ⟨c0, hc0, p0, _⟩ := hat 0 (by decide)
  obtain ⟨c1, hc1, p1, _⟩ := hat 1 (by decide)
  obtain ⟨c2, hc2, p2, _⟩ := hat 2 (by decide)
  obtain ⟨c3, hc3, p3, _⟩ := hat 3 (by decide)
  obtain ⟨c4, hc4, p4, _⟩ := hat 4 (by decide)
  have hat' : ∀ k : Nat, k < 3 → ∃ c : Int, atI (row.map PyData.int) ((a : Int) + 5 + (k : Int)) = some (.int c) := by
    intro k hk
    obtain ⟨c, hc, _⟩ := hat (5 + k) (by omega)
    exact ⟨c, by rw [← hc]; congr 1; omega⟩
  rw [show ((a : Int) + ((0 : Nat) : Int)) = (a : Int) by omega] at hc0
  generalize row.map PyData.int = rows at hc0 hc1 hc2 hc3 hc4 hat' ⊢
  clear hat
  generalize (a : Int) = at_ at hc0 hc1 hc2 hc3 hc4 hat' ⊢
  obtain ⟨m, hmm, hme⟩ : ∃ m : Nat, (1 ≤ m ∧ m ≤ most) ∧ 1 + c0 % (most : Int) = (m : Int) := by
    have h1 := Int.emod_nonneg c0 (show (most : Int) ≠ 0 by omega)
    have h2 := Int.emod_lt_of_pos c0 (show (0 : Int) < (most : Int) by omega)
    exact ⟨(1 + c0 % (most : Int)).toNat, by omega, by omega⟩
  have e0 : b2 addD (cst (.int 1)) (b2 modD (cl intD (acons (b2 ixD (lp 0) (lp 1)) anil)) (lp 2)) [.val (.list rows), .val (.int at_), .val (.int most), .un, .un, .un, .un, .un, .un, .un, .un, .un] = some (.int m) := by
    have h2 : modD (.int c0) (.int (most : Int)) = some (.int (c0 % (most : Int))) := o_mod _ _ (by omega)
    simp only [e_cl, e_acons, e_b2, e_lp, getP_succ, getP_zero, sP_val, Option.bind_some, e_cst, e_anil, o_ixL, hc0, o_int, h2, o_add, hme]
  have e4 := notes_ok rows (at_ + 2) c2 (.list rows) (.int at_) (b2 addD (lp 1) (cst (.int 2))) m (by omega) hc2 (.val (.int most)) .un .un .un .un .un .un .un .un (fun s10 => by
    simp only [e_b2, e_lp, getP_succ, getP_zero, sP_val, Option.bind_some, e_cst, o_add]) rfl
  have e5 := notes_ok rows (at_ + 3) c3 (.list rows) (.int at_) (b2 addD (lp 1) (cst (.int 3))) m (by omega) hc3 (.val (.int most)) (.val (enc ((rangeI m).filter (cellP c2)))) .un .un .un .un .un .un .un (fun s10 => by
    simp only [e_b2, e_lp, getP_succ, getP_zero, sP_val, Option.bind_some, e_cst, o_add]) rfl
  have e5' : cl tupD (acons (toL (lcF [10] (cl rg1 (acons (lp 3) anil)) (gn 10) (tc gtD (b2 modD (b2 fdivD (cl intD (acons (b2 ixD (lp 0) (b2 addD (lp 1) (cst (.int 3)))) anil)) (b2 shlD (cst (.int 1)) (lp 10))) (cst (.int 3))) (cst (.int 0))) (lv 10))) anil) [.val (.list rows), .val (.int at_), .val (.int most), .val (.int m), .val (enc ((rangeI m).filter (cellP c2))), .un, .un, .un, .un, .un, .un, .un] = some (enc ((rangeI m).filter (cellP c3))) := by
    rw [e_cl, e_acons, e_toL, e5]; rfl
  have e4' : cl tupD (acons (toL (lcF [10] (cl rg1 (acons (lp 3) anil)) (gn 10) (tc gtD (b2 modD (b2 fdivD (cl intD (acons (b2 ixD (lp 0) (b2 addD (lp 1) (cst (.int 2)))) anil)) (b2 shlD (cst (.int 1)) (lp 10))) (cst (.int 3))) (cst (.int 0))) (lv 10))) anil) [.val (.list rows), .val (.int at_), .val (.int most), .val (.int m), .un, .un, .un, .un, .un, .un, .un, .un] = some (enc ((rangeI m).filter (cellP c2))) := by
    rw [e_cl, e_acons, e_toL, e4]; rfl
  have hA : atI rows (at_ + 4) = some (.int c4) := hc4
  have e6 : cl rg1 (acons (b2 modD (cl intD (acons (b2 ixD (lp 0) (b2 addD (lp 1) (cst (.int 4)))) anil)) (cst (.int 4))) anil) [.val (.list rows), .val (.int at_), .val (.int most), .val (.int m), .val (enc ((rangeI m).filter (cellP c2))), .val (enc ((rangeI m).filter (cellP c3))), .ol [], .un, .un, .un, .un, .un] = some ((List.range (c4 % 4).toNat).map fun i => .int (i : Nat)) := by
    have h2 : modD (.int c4) (.int 4) = some (.int (c4 % 4)) := o_mod _ _ (by decide)
    simp only [e_cl, e_acons, e_b2, e_lp, getP_succ, getP_zero, sP_val, Option.bind_some, e_cst, e_anil, o_ixL, o_add, hA, o_int, h2]
    exact o_rg1 _ ⟨by omega, by omega⟩
  obtain ⟨ρ', e7, ls, s7, s8, s9, hll, hlr, rfl⟩ := forD_ix (gt := gn 7) (gb := (thenF (setF 8 (cl intD (acons (b2 ixD (lp 0) (b2 addD (b2 addD (lp 1) (cst (.int 5))) (lp 7))) anil)))
 (thenF (setF 9 stepsG)
 (ifF (tc (inD true) (lp 9) (lp 6))
 (appF 6 (lv 9))
 skip)))) (fun i : Nat => (.int (i : Nat) : D)) (List.range (c4 % 4).toNat) (fun i ρ => ∃ (ls : List (List Int)) (s7 s8 s9 : Slot), ls.length ≤ i ∧ (∀ r ∈ ls, 1 ≤ r.length ∧ r.length ≤ 3) ∧ ρ = [.val (.list rows), .val (.int at_), .val (.int most), .val (.int m), .val (enc ((rangeI m).filter (cellP c2))), .val (enc ((rangeI m).filter (cellP c3))), .ol (ls.map enc), s7, s8, s9, .un, .un])
    (fun i k ρ hk hR => by
      obtain ⟨ls, s7, s8, s9, h1, h2, rfl⟩ := hR
      have hi := (List.getElem?_eq_some_iff.mp hk).1
      rw [List.length_range] at hi
      have ek : k = i := by
        rw [List.getElem?_range hi] at hk
        exact (Option.some.inj hk).symm
      subst ek
      obtain ⟨c, hc⟩ := hat' k (by omega)
      have f1 : cl intD (acons (b2 ixD (lp 0) (b2 addD (b2 addD (lp 1) (cst (.int 5))) (lp 7))) anil) [.val (.list rows), .val (.int at_), .val (.int most), .val (.int m), .val (enc ((rangeI m).filter (cellP c2))), .val (enc ((rangeI m).filter (cellP c3))), .ol (ls.map enc), .val (.int (k : Int)), s8, s9, .un, .un] = some (.int c) := by
        simp only [e_cl, e_acons, e_b2, e_lp, getP_succ, getP_zero, sP_val, Option.bind_some, e_cst, e_anil, o_ixL, o_add, hc, o_int]
      have f2 := steps_ok c (.val (.list rows)) (.val (.int at_)) (.val (.int most)) (.val (.int m)) (.val (enc ((rangeI m).filter (cellP c2)))) (.val (enc ((rangeI m).filter (cellP c3)))) (.ol (ls.map enc)) (.val (.int (k : Int))) s9 .un .un
      have f3 : inD true (enc (cellS c)) (.list (ls.map enc)) = some (.bool (true ^^ decide (cellS c ∈ ls))) := (inL_enc (by decide) true (cellS c) ls).trans (congrArg (fun x => some (PyData.bool (true ^^ x))) (decide_eq_decide.mpr Iff.rfl))
      have f4 : tc (inD true) (lp 9) (lp 6) [.val (.list rows), .val (.int at_), .val (.int most), .val (.int m), .val (enc ((rangeI m).filter (cellP c2))), .val (enc ((rangeI m).filter (cellP c3))), .ol (ls.map enc), .val (.int (k : Int)), .val (.int c), .val (enc (cellS c)), .un, .un] = some (true ^^ decide (cellS c ∈ ls)) := by
        generalize (enc (cellS c) : D) = x at f3 ⊢
        generalize ls.map (enc : List Int → D) = y at f3 ⊢
        simp only [e_tc, e_lp, getP_succ, getP_zero, sP_val, sP_ol, Option.bind_some, f3, e_boolOf]
      have f5 : ∀ g : FS, thenF (setF 8 (cl intD (acons (b2 ixD (lp 0) (b2 addD (b2 addD (lp 1) (cst (.int 5))) (lp 7))) anil)))
         (thenF (setF 9 stepsG) g) [.val (.list rows), .val (.int at_), .val (.int most), .val (.int m), .val (enc ((rangeI m).filter (cellP c2))), .val (enc ((rangeI m).filter (cellP c3))), .ol (ls.map enc), .val (.int (k : Int)), s8, s9, .un, .un] = g [.val (.list rows), .val (.int at_), .val (.int most), .val (.int m), .val (enc ((rangeI m).filter (cellP c2))), .val (enc ((rangeI m).filter (cellP c3))), .ol (ls.map enc), .val (.int (k : Int)), .val (.int c), .val (enc (cellS c)), .un, .un] := fun g => (then_set f1).trans (then_set f2)
      cases hin : decide (cellS c ∈ ls) with
      | true =>
        rw [hin] at f4
        refine ⟨[(7, .int (k : Int))], [.val (.list rows), .val (.int at_), .val (.int most), .val (.int m), .val (enc ((rangeI m).filter (cellP c2))), .val (enc ((rangeI m).filter (cellP c3))), .ol (ls.map enc), .val (.int (k : Int)), .val (.int c), .val (enc (cellS c)), .un, .un], rfl, .inl ?_, ls, _, _, _, by omega, h2, rfl⟩
        refine (f5 _).trans ?_
        rw [e_ifF, f4]
        rfl
      | false =>
        rw [hin] at f4
        refine ⟨[(7, .int (k : Int))], [.val (.list rows), .val (.int at_), .val (.int most), .val (.int m), .val (enc ((rangeI m).filter (cellP c2))), .val (enc ((rangeI m).filter (cellP c3))), .ol ((ls ++ [cellS c]).map enc), .val (.int (k : Int)), .val (.int c), .val (enc (cellS c)), .un, .un], rfl, .inl ?_, ls ++ [cellS c], _, _, _, by rw [List.length_append, List.length_singleton]; omega, fun r hr => ?_, rfl⟩
        · refine (f5 _).trans ?_
          have hq : (ls.map (enc : List Int → D)).length < 16777216 := by rw [List.length_map]; omega
          rw [e_ifF, f4, Option.bind_some, if_pos (show (true ^^ false) = true from rfl), List.map_append]
          show appF 6 (lv 9) _ = _
          generalize ls.map (enc : List Int → D) = y at hq ⊢
          simp only [e_appF, e_lv, getV_succ, getV_zero, sV_val, Option.bind_some, getL_succ, getL_zero, sL_ol, hq, if_true, List.set_cons_succ, List.set_cons_zero]
          rfl
        · rcases List.mem_append.mp hr with hr | hr
          · exact h2 r hr
          · rw [List.mem_singleton] at hr
            subst hr
            exact cellS_len c)
    ⟨([] : List (List Int)), .un, .un, .un, by simp, (fun r hr => absurd hr (by simp)), rfl⟩
  rw [List.length_range] at hll
  let bk : Book := { m := m, leap := c1 % 8, begins := (rangeI m).filter (cellP c2), ends := (rangeI m).filter (cellP c3), barred := ls.mergeSort leE }
  refine ⟨bk, ⟨hmm.1, by show m ≤ 8; omega, ⟨_, rfl⟩, ⟨_, rfl⟩, ?_, ?_⟩, hmm.2, fn_ret rfl ?_⟩
  · show (ls.mergeSort leE).length ≤ 1000
    rw [List.length_mergeSort]; omega
  · intro r hr
    exact hlr r (List.mem_mergeSort.mp hr)
  · refine (then_set e0).trans ((then_set e4').trans ((then_set e5').trans ((then_setL (d := []) rfl).trans ((then_nx (for_of e6 e7)).trans (ret_of ?_)))))
    have hs := sort_tup (α := Int) (by decide) ls (fun r hr => (hlr r hr).1)
    have hB : atI rows (at_ + 1) = some (.int c1) := hc1
    have h2 : modD (.int c1) (.int 8) = some (.int (c1 % 8)) := o_mod _ _ (by decide)
    show mkT _ _ = some (.tuple [.int m, .int (c1 % 8), enc ((rangeI m).filter (cellP c2)), enc ((rangeI m).filter (cellP c3)), .tuple ((ls.mergeSort leE).map enc)])
    generalize (ls.mergeSort leE).map (enc : List Int → D) = w at hs ⊢
    generalize ls.map (enc : List Int → D) = y at hs ⊢
    generalize (enc ((rangeI m).filter (cellP c2)) : D) = v1
    generalize (enc ((rangeI m).filter (cellP c3)) : D) = v2
    simp only [e_mkT, e_acons, e_lv, e_lp, e_b2, e_cl, e_cst, e_anil, e_toL, getV_succ, getV_zero, sV_val, getP_succ, getP_zero, sP_val, sP_ol, Option.bind_some, o_ixL, o_add, hB, o_int, h2, hs, Option.map_some, o_tupL, o_line5]
/-! ### consonances -/
def range13 : List Int := (List.range 13).map fun (i : Nat) => -6 + (i : Int)
theorem cons_bits (rows : List D) (i c : Int) (hc : atI rows i = some (.int c)) (v : Nat) (f : FA) (fi : FE) (ρ : Env) (hf : f ρ = some (range13.map .int)) (fc : FE)
    (hv : ∀ n : Int, lp v (putAll (wipeE ρ [v]) [(v, .int n)]) = some (.int n)) (hv' : ∀ n : Int, lv v (putAll (wipeE ρ [v]) [(v, .int n)]) = some (.int n))
    (hfc : ∀ n : Int, fc (putAll (wipeE ρ [v]) [(v, .int n)]) = some (.int c)) (fe : FE) (hfe : fe = lv v) :
    ∃ p : Int → Bool, lcF [v] f (gn v) (tc eqD (b2 modD (b2 fdivD fc (b2 shlD (cst (.int 1)) (b2 addD (lp v) (cst (.int 6))))) (cst (.int 2))) (cst (.int 1))) fe ρ = some ((range13.filter p).map .int) := by
  refine ⟨fun n => decide (c / (2 ^ (n + 6).toNat : Nat) % 2 = 1), ?_⟩
  subst hfe
  refine lcF_eq (PyData.int) (fun n => [(v, .int n)]) _ (fun n => .int n) range13 hf (by unfold range13; simp) fun n hn => ⟨rfl, ?_, fun _ => hv' n⟩
  obtain ⟨k, hk, rfl⟩ := List.mem_map.mp hn
  have hk : k < 13 := by simpa using hk
  have hb := bit_ok c k (by omega)
  have e6 : (-6 + (k : Int) + 6) = (k : Int) := by omega
  have hmod : modD (.int (c / (2 ^ k : Nat))) (.int 2) = some (.int (c / (2 ^ k : Nat) % 2)) := o_mod _ _ (by decide)
  rw [e_tc, e_b2, e_b2, hfc, e_b2, e_b2, hv]
  simp only [Option.bind_some, e_cst, o_add, e6, hb, hmod, eq_intD, e_boolOf, Int.toNat_natCast]
theorem rg13 : rg2 [.int (-6), .int 7] = some (range13.map .int) := by
  rw [o_rg2 _ _ ⟨by decide, by decide⟩ ⟨by decide, by decide⟩]
  unfold range13
  rw [List.map_map]
  rfl
theorem consonances_ok (row : List Int) (a : Nat) (ha : a < row.length) : ∃ p : Int → Bool, bd__law_consonances [.list (row.map .int), .int (a : Int)] = some (enc (range13.filter p)) := by
  have hc : atI (row.map PyData.int) (a : Int) = some (.int row[a]) := PD.atI_nat (by rw [List.getElem?_map, List.getElem?_eq_getElem ha]; rfl)
  generalize row.map PyData.int = rows at hc ⊢
  generalize row[a] = c at hc
  obtain ⟨p, hp⟩ := cons_bits rows a c hc 3 (cl rg2 (acons (u1 negD (cst (.int 6))) (acons (cst (.int 7)) anil))) (lp 0) [.val (.list rows), .val (.int a), .un, .un] (by
    simp only [e_cl, e_acons, e_u1, e_cst, Option.bind_some, o_neg, e_anil]
    exact rg13) (cl intD (acons (b2 ixD (lp 0) (lp 1)) anil)) (fun n => rfl) (fun n => rfl) (fun n => by
    simp only [e_wipe_cons, e_wipe_nil, e_putAll_cons, e_putAll_nil, List.set_cons_succ, List.set_cons_zero, e_cl, e_acons, e_b2, e_lp, getP_succ, getP_zero, sP_val, Option.bind_some, o_ixL, hc, e_anil, o_int]) (lv 3) rfl
  refine ⟨p, fn_ret rfl ?_⟩
  refine (then_setL hp).trans ?_
  rfl
end PD

/-! PVF: layers: for each state how many words lead to it, and the least. -/
namespace PD
open PySem PySem.Spec PyProof.Rows L2
open Enc
section
variable {κ : Type} [Key κ] [DecidableEq κ]
abbrev Lay (κ : Type) := List (κ × (Nat × List Int))
def addL (L : Lay κ) (x : κ × (Nat × List Int)) : Lay κ :=
  putT L x.1 (match getT L x.1 with
    | none => (0 + x.2.1, x.2.2)
    | some v => (v.1 + x.2.1, if lt x.2.2 v.2 = true then x.2.2 else v.2))
structure InvC (L Cs : Lay κ) : Prop where
  cnt : ∀ f : κ → Nat, (L.map fun e => e.2.1 * f e.1).sum = (Cs.map fun e => e.2.1 * f e.1).sum
  frm : ∀ e ∈ L, ∃ x ∈ Cs, x.1 = e.1 ∧ x.2.2 = e.2.2
  lst : ∀ x ∈ Cs, ∃ e ∈ L, e.1 = x.1 ∧ lt x.2.2 e.2.2 = false
  nd : (L.map (·.1)).Nodup
theorem getT_split {β : Type} : ∀ (L : List (κ × β)) (k : κ) (v : β), getT L k = some v → (L.map (·.1)).Nodup → ∃ L1 L2, L = L1 ++ (k, v) :: L2 ∧ ∀ b, putT L k b = L1 ++ (k, b) :: L2 := by
  intro L k v h hn
  have hm : (k, v) ∈ L := by
    unfold getT at h
    obtain ⟨e, he, rfl⟩ := Option.map_eq_some_iff.mp h
    have h1 := List.mem_of_find?_eq_some he
    have h2 : e.1 = k := by have h3 := List.find?_some he; simpa using h3
    rw [← h2]; exact h1
  obtain ⟨L1, L2, rfl⟩ := List.append_of_mem hm
  refine ⟨L1, L2, rfl, fun b => ?_⟩
  unfold putT
  rw [h, Option.isSome_some, if_pos rfl]
  rw [List.map_append, List.map_cons, List.nodup_append] at hn
  have h1 : ∀ e ∈ L1, e.1 ≠ k := fun e he z => hn.2.2 e.1 (List.mem_map_of_mem he) k List.mem_cons_self z
  have h2 : ∀ e ∈ L2, e.1 ≠ k := fun e he z => (List.nodup_cons.mp hn.2.1).1 (List.mem_map.mpr ⟨e, he, z⟩)
  rw [List.map_append, List.map_cons, if_pos rfl]
  congr 1
  · refine (List.map_congr_left fun e he => ?_).trans (List.map_id' _)
    exact if_neg (h1 e he)
  · congr 1
    refine (List.map_congr_left fun e he => ?_).trans (List.map_id' _)
    exact if_neg (h2 e he)
theorem getT_mem {β : Type} {L : List (κ × β)} {k : κ} (h : getT L k = none) : k ∉ L.map (·.1) := by
  intro z
  obtain ⟨e, he, rfl⟩ := List.mem_map.mp z
  unfold getT at h
  rw [Option.map_eq_none_iff, List.find?_eq_none] at h
  exact h e he (by simp)
theorem InvC.add {L Cs : Lay κ} (h : InvC L Cs) (x : κ × (Nat × List Int)) : InvC (addL L x) (Cs ++ [x]) := by
  unfold addL
  cases hg : getT L x.1 with
  | none =>
    have hk := getT_mem hg
    show InvC (putT L x.1 (0 + x.2.1, x.2.2)) _
    rw [putT_new _ hk]
    refine ⟨fun f => ?_, fun e he => ?_, fun y hy => ?_, ?_⟩
    · rw [List.map_append, List.map_append, List.sum_append, List.sum_append, h.cnt f]
      simp
    · rcases List.mem_append.mp he with he | he
      · obtain ⟨y, hy, h1⟩ := h.frm e he
        exact ⟨y, List.mem_append_left _ hy, h1⟩
      · rw [List.mem_singleton] at he
        subst he
        exact ⟨x, List.mem_append_right _ (List.mem_singleton.mpr rfl), rfl, rfl⟩
    · rcases List.mem_append.mp hy with hy | hy
      · obtain ⟨e, he, h1⟩ := h.lst y hy
        exact ⟨e, List.mem_append_left _ he, h1⟩
      · rw [List.mem_singleton] at hy
        subst hy
        exact ⟨_, List.mem_append_right _ (List.mem_singleton.mpr rfl), rfl, lt_irr _⟩
    · rw [List.map_append, List.nodup_append]
      refine ⟨h.nd, by simp, fun a ha b hb => ?_⟩
      have : b = x.1 := by simpa using hb
      subst this
      rintro rfl
      exact hk ha
  | some v =>
    obtain ⟨L1, L2, rfl, hp⟩ := getT_split L x.1 v hg h.nd
    show InvC (putT _ x.1 (v.1 + x.2.1, if lt x.2.2 v.2 = true then x.2.2 else v.2)) _
    rw [hp]
    have hnd := h.nd
    rw [List.map_append, List.map_cons] at hnd
    refine ⟨fun f => ?_, fun e he => ?_, fun y hy => ?_, ?_⟩
    · have := h.cnt f
      rw [List.map_append, List.map_cons, List.sum_append, List.sum_cons] at this
      rw [List.map_append, List.map_cons, List.sum_append, List.sum_cons, List.map_append, List.sum_append, ← this]
      simp only [List.map_cons, List.map_nil, List.sum_cons, List.sum_nil, Nat.add_mul]
      omega
    · have hcase : e ∈ L1 ++ (x.1, v) :: L2 ∨ e = (x.1, (v.1 + x.2.1, if lt x.2.2 v.2 = true then x.2.2 else v.2)) := by
        rcases List.mem_append.mp he with he | he
        · exact .inl (List.mem_append_left _ he)
        · rcases List.mem_cons.mp he with he | he
          · exact .inr he
          · exact .inl (List.mem_append_right _ (List.mem_cons_of_mem _ he))
      rcases hcase with he | rfl
      · obtain ⟨y, hy, h1⟩ := h.frm e he
        exact ⟨y, List.mem_append_left _ hy, h1⟩
      · by_cases hl : lt x.2.2 v.2 = true
        · exact ⟨x, List.mem_append_right _ (List.mem_singleton.mpr rfl), rfl, by simp [hl]⟩
        · obtain ⟨y, hy, h1, h2⟩ := h.frm (x.1, v) (List.mem_append_right _ List.mem_cons_self)
          exact ⟨y, List.mem_append_left _ hy, h1, by simp [hl, h2]⟩
    · have hnew : (x.1, (v.1 + x.2.1, if lt x.2.2 v.2 = true then x.2.2 else v.2)) ∈ L1 ++ (x.1, (v.1 + x.2.1, if lt x.2.2 v.2 = true then x.2.2 else v.2)) :: L2 := List.mem_append_right _ List.mem_cons_self
      rcases List.mem_append.mp hy with hy | hy
      · obtain ⟨e, he, h1, h2⟩ := h.lst y hy
        rcases List.mem_append.mp he with he | he
        · exact ⟨e, List.mem_append_left _ he, h1, h2⟩
        · rcases List.mem_cons.mp he with he | he
          · subst he
            refine ⟨_, hnew, h1, ?_⟩
            by_cases hl : lt x.2.2 v.2 = true
            · simp only [hl, if_true]
              exact le_tr (lt_asym hl) h2
            · simp only [hl, if_false]
              exact h2
          · exact ⟨e, List.mem_append_right _ (List.mem_cons_of_mem _ he), h1, h2⟩
      · rw [List.mem_singleton] at hy
        subst hy
        refine ⟨_, hnew, rfl, ?_⟩
        by_cases hl : lt y.2.2 v.2 = true
        · simp only [hl, if_true]; exact lt_irr _
        · simp only [hl, if_false]; simpa using hl
    · rw [List.map_append, List.map_cons]
      exact hnd
theorem InvC.nil : InvC ([] : Lay κ) [] := ⟨fun _ => rfl, (fun e he => absurd he (by simp)), (fun e he => absurd he (by simp)), List.nodup_nil⟩
theorem InvC.all : ∀ (Ys L Cs : Lay κ), InvC L Cs → InvC (Ys.foldl addL L) (Cs ++ Ys)
  | [], L, Cs, h => by rw [List.append_nil]; exact h
  | y :: Ys, L, Cs, h => by
    have := InvC.all Ys _ _ (h.add y)
    rw [List.append_assoc] at this
    exact this
/-- a layer tells of the words W, by the states st -/
structure InvW (st : List Int → κ) (L : Lay κ) (W : List (List Int)) : Prop where
  cnt : ∀ f : κ → Nat, (L.map fun e => e.2.1 * f e.1).sum = (W.map fun w => f (st w)).sum
  frm : ∀ e ∈ L, e.2.2 ∈ W ∧ st e.2.2 = e.1
  lst : ∀ w ∈ W, ∃ e ∈ L, e.1 = st w ∧ lt w e.2.2 = false
  nd : (L.map (·.1)).Nodup
theorem lt_snoc (n : Int) : ∀ a b : List Int, a.length = b.length → lt (a ++ [n]) (b ++ [n]) = lt a b
  | [], [], _ => by rw [lt_irr, lt_irr]
  | [], _ :: _, h => by simp at h
  | _ :: _, [], h => by simp at h
  | a :: as, b :: bs, h => by
    rw [List.cons_append, List.cons_append, lt_cons, lt_cons, lt_snoc n as bs (by simpa using h)]
/-- what goes on from a layer -/
def contr (δ : κ → Int → Option κ) (ns : List Int) (L : Lay κ) : Lay κ := L.flatMap fun e => ns.filterMap fun n => (δ e.1 n).map fun k => (k, (e.2.1, e.2.2 ++ [n]))
def growW (δ : κ → Int → Option κ) (st : List Int → κ) (ns : List Int) (W : List (List Int)) : List (List Int) := W.flatMap fun w => ns.filterMap fun n => (δ (st w) n).map fun _ => w ++ [n]
def nextL (δ : κ → Int → Option κ) (ns : List Int) (L : Lay κ) : Lay κ := (contr δ ns L).foldl addL []
theorem sum_flatMap {α β : Type} (g : α → List β) (f : β → Nat) : ∀ l : List α, ((l.flatMap g).map f).sum = (l.map fun a => ((g a).map f).sum).sum
  | [] => rfl
  | a :: l => by rw [List.flatMap_cons, List.map_append, List.sum_append, sum_flatMap g f l]; rfl
theorem InvW.step {st : List Int → κ} {L : Lay κ} {W : List (List Int)} (h : InvW st L W) (δ : κ → Int → Option κ) (ns : List Int) (len : Nat) (hl : ∀ w ∈ W, w.length = len)
    (hst : ∀ w ∈ W, ∀ n ∈ ns, ∀ k, δ (st w) n = some k → st (w ++ [n]) = k) : InvW st (nextL δ ns L) (growW δ st ns W) := by
  have hc := InvC.all (contr δ ns L) [] [] InvC.nil
  rw [List.nil_append] at hc
  refine ⟨fun f => ?_, fun e he => ?_, fun w' hw' => ?_, hc.nd⟩
  · unfold nextL
    rw [hc.cnt f]
    unfold contr growW
    rw [sum_flatMap, sum_flatMap]
    have e1 : ∀ (c : Nat) (κ0 : κ) (w0 : List Int) (ns : List Int), ((ns.filterMap fun n => (δ κ0 n).map fun k => (k, (c, w0 ++ [n]))).map fun e => e.2.1 * f e.1).sum = c * ((ns.filterMap (δ κ0)).map f).sum := by
      intro c κ0 w0 ns
      induction ns with
      | nil => simp
      | cons n ns ih =>
        rw [List.filterMap_cons, List.filterMap_cons]
        cases hd : δ κ0 n with
        | none => exact ih
        | some k =>
          show (List.map _ (_ :: _)).sum = c * (List.map f (_ :: _)).sum
          rw [List.map_cons, List.sum_cons, List.map_cons, List.sum_cons, ih, Nat.mul_add]
    have e2 : ∀ w ∈ W, ((ns.filterMap fun n => (δ (st w) n).map fun _ => w ++ [n]).map fun v => f (st v)).sum = ((ns.filterMap (δ (st w))).map f).sum := by
      intro w hw
      have hs := hst w hw
      clear hst hc
      induction ns with
      | nil => simp
      | cons n ns ih =>
        rw [List.filterMap_cons, List.filterMap_cons]
        have ih := ih (fun m hm => hs m (List.mem_cons_of_mem _ hm))
        cases hd : δ (st w) n with
        | none => exact ih
        | some k =>
          show (List.map _ (_ :: _)).sum = (List.map f (_ :: _)).sum
          rw [List.map_cons, List.sum_cons, List.map_cons, List.sum_cons, ih, hs n List.mem_cons_self k hd]
    rw [List.map_congr_left (fun e he => e1 e.2.1 e.1 e.2.2 ns), List.map_congr_left e2]
    exact h.cnt fun k => ((ns.filterMap (δ k)).map f).sum
  · obtain ⟨x, hx, h1, h2⟩ := hc.frm e he
    obtain ⟨e0, he0, hx⟩ := List.mem_flatMap.mp hx
    obtain ⟨n, hn, hx⟩ := List.mem_filterMap.mp hx
    obtain ⟨k, hk, rfl⟩ := Option.map_eq_some_iff.mp hx
    obtain ⟨q1, q2⟩ := h.frm e0 he0
    rw [← h2, ← h1]
    rw [← q2] at hk
    exact ⟨List.mem_flatMap.mpr ⟨_, q1, List.mem_filterMap.mpr ⟨n, hn, by rw [hk]; rfl⟩⟩, hst _ q1 n hn k hk⟩
  · obtain ⟨w, hw, hx⟩ := List.mem_flatMap.mp hw'
    obtain ⟨n, hn, hx⟩ := List.mem_filterMap.mp hx
    obtain ⟨k, hk, rfl⟩ := Option.map_eq_some_iff.mp hx
    obtain ⟨e0, he0, q1, q2⟩ := h.lst w hw
    have hs := hst w hw n hn k hk
    rw [← q1] at hk
    obtain ⟨e, he, r1, r2⟩ := hc.lst (k, (e0.2.1, e0.2.2 ++ [n])) (List.mem_flatMap.mpr ⟨e0, he0, List.mem_filterMap.mpr ⟨n, hn, by rw [hk]; rfl⟩⟩)
    refine ⟨e, he, by rw [hs]; exact r1, ?_⟩
    refine le_tr r2 ?_
    rw [lt_snoc n w e0.2.2 (by rw [hl w hw, hl _ (h.frm e0 he0).1])]
    exact q2
/-- the end: how many words of the good states, and the least -/
theorem InvW.count {st : List Int → κ} {L : Lay κ} {W : List (List Int)} (h : InvW st L W) (p : κ → Bool) : ((L.filter fun e => p e.1).map fun e => e.2.1).sum = (W.filter fun w => p (st w)).length := by
  have := h.cnt fun k => if p k = true then 1 else 0
  have e1 : ∀ L : Lay κ, ((L.filter fun e => p e.1).map fun e => e.2.1).sum = (L.map fun e => e.2.1 * if p e.1 = true then 1 else 0).sum := by
    intro L
    induction L with
    | nil => rfl
    | cons e L ih =>
      rw [List.filter_cons, List.map_cons, List.sum_cons, ← ih]
      by_cases hp : p e.1 = true
      · rw [if_pos hp, if_pos hp]; simp
      · rw [if_neg hp, if_neg hp]; simp
  have e2 : ∀ W : List (List Int), (W.filter fun w => p (st w)).length = (W.map fun w => if p (st w) = true then 1 else 0).sum := by
    intro W
    induction W with
    | nil => rfl
    | cons w W ih =>
      rw [List.filter_cons, List.map_cons, List.sum_cons, ← ih]
      by_cases hp : p (st w) = true
      · rw [if_pos hp, if_pos hp, List.length_cons, Nat.add_comm]
      · rw [if_neg hp, if_neg hp, Nat.zero_add]
  rw [e1, e2]
  exact this
theorem InvW.least {st : List Int → κ} {L : Lay κ} {W : List (List Int)} (h : InvW st L W) (p : κ → Bool) : minO ((L.filter fun e => p e.1).map fun e => e.2.2) = minO (W.filter fun w => p (st w)) := by
  cases hm : minO (W.filter fun w => p (st w)) with
  | none =>
    have hz := minO_nil.mp hm
    refine minO_nil.mpr ?_
    cases hq : (L.filter fun e => p e.1).map fun e => e.2.2 with
    | nil => rfl
    | cons a l =>
      have : a ∈ (L.filter fun e => p e.1).map fun e => e.2.2 := by rw [hq]; exact List.mem_cons_self
      obtain ⟨e, he, rfl⟩ := List.mem_map.mp this
      obtain ⟨he, hp⟩ := List.mem_filter.mp he
      obtain ⟨q1, q2⟩ := h.frm e he
      have : e.2.2 ∈ W.filter fun w => p (st w) := List.mem_filter.mpr ⟨q1, by rw [q2]; exact hp⟩
      rw [hz] at this
      cases this
  | some m =>
    obtain ⟨m1, m2⟩ := minO_spec hm
    obtain ⟨m1, m3⟩ := List.mem_filter.mp m1
    have lower : ∀ e ∈ L, p e.1 = true → lt e.2.2 m = false := by
      intro e he hp
      obtain ⟨q1, q2⟩ := h.frm e he
      exact m2 _ (List.mem_filter.mpr ⟨q1, by rw [q2]; exact hp⟩)
    obtain ⟨e, he, r1, r2⟩ := h.lst m m1
    have hp : p e.1 = true := by rw [r1]; exact m3
    have hem : e.2.2 = m := lt_tot (lower e he hp) r2
    refine minO_of ⟨List.mem_map.mpr ⟨e, List.mem_filter.mpr ⟨he, hp⟩, hem⟩, fun x hx => ?_⟩
    obtain ⟨e', he', rfl⟩ := List.mem_map.mp hx
    obtain ⟨he', hp'⟩ := List.mem_filter.mp he'
    exact lower e' he' hp'
end
end PD

/-! PVG: keys that may be None; the layers' dicts. -/
namespace PD
open PySem PySem.Spec PyProof.Rows L2
open Enc Key
/-- keys that are never None -/
class NoN (α : Type) [Key α] : Prop where
  nn : ∀ a : α, key a ≠ NestedKey.none
instance : NoN Int := ⟨fun a h => by cases h⟩
instance {α : Type} [Key α] : NoN (List α) := ⟨fun a h => by cases h⟩
instance {α β : Type} [Key α] [Key β] : NoN (α × β) := ⟨fun a h => by cases h⟩
instance {α : Type} [Key α] [NoN α] : Key (Option α) where
  kenc | none => .none | some a => kenc a
  key | none => .none | some a => key a
  kdep := max 1 (kdep α)
  raw | none => by rw [keyOf] | some a => Key.raw a
  kdp | none => by simp [NestedKey.depth] | some a => Nat.le_trans (Key.kdp a) (Nat.le_max_right _ _)
  top | none => rfl | some a => Key.top a
  inj
    | none, none, _ => rfl
    | none, some b, h => absurd h.symm (NoN.nn b)
    | some a, none, h => absurd h (NoN.nn a)
    | some a, some b, h => congrArg some (Key.inj a b h)
section
variable {κ : Type} [Key κ] [DecidableEq κ]
theorem putT_len {β : Type} (L : List (κ × β)) (k : κ) (b : β) : (putT L k b).length ≤ L.length + 1 := by
  unfold putT
  split
  · rw [List.length_map]; omega
  · rw [List.length_append]; exact Nat.le_refl _
theorem addL_len (L : Lay κ) (x : κ × (Nat × List Int)) : (addL L x).length ≤ L.length + 1 := putT_len _ _ _
theorem foldAdd_len : ∀ (Ys L : Lay κ), (Ys.foldl addL L).length ≤ L.length + Ys.length
  | [], L => by simp
  | y :: Ys, L => by
    have h1 := foldAdd_len Ys (addL L y)
    have h2 := addL_len L y
    rw [List.foldl_cons, List.length_cons]
    omega
theorem contr_len (δ : κ → Int → Option κ) (ns : List Int) : ∀ L : Lay κ, (contr δ ns L).length ≤ L.length * ns.length
  | [] => by simp [contr]
  | e :: L => by
    have h1 := contr_len δ ns L
    unfold contr at h1 ⊢
    rw [List.flatMap_cons, List.length_append, List.length_cons, Nat.add_mul]
    have h2 := List.length_filterMap_le (fun n => (δ e.1 n).map fun k => (k, (e.2.1, e.2.2 ++ [n]))) ns
    omega
theorem nextL_len (δ : κ → Int → Option κ) (ns : List Int) (L : Lay κ) : (nextL δ ns L).length ≤ L.length * ns.length := by
  have h1 := foldAdd_len (contr δ ns L) []
  have h2 := contr_len δ ns L
  unfold nextL
  simp at h1
  omega
def vL : Nat × List Int → D := fun p => .tuple [.int (p.1 : Nat), enc p.2]
end
end PD

namespace K53
open PySem PySem.Spec PyProof.Rows L2 PD
def topS (i : Nat) : Stmt := PySem.Challenge.pw_soundsalike_k53_count_against.main.body.getD i (.Pass ⟨0, 0, 0, 0⟩)
abbrev s_follows : Stmt := topS 2
abbrev s_member_behind : Stmt := topS 3
abbrev s_lines_against : Stmt := topS 5
abbrev s_count_against : Stmt := topS 6
abbrev s_least_against : Stmt := topS 7
abbrev s__law_mixed : Stmt := topS 9
abbrev s__law_row : Stmt := topS 10
abbrev s__law_is_int : Stmt := topS 11
abbrev s__law_like : Stmt := topS 12
abbrev s__law_book : Stmt := topS 13
abbrev s__law_goes : Stmt := topS 14
abbrev s__law_is_line : Stmt := topS 15
abbrev s__law_begun : Stmt := topS 16
abbrev s__law_consonances : Stmt := topS 18
abbrev s_law : Stmt := topS 19
/-- what stands at the top -/
structure Zs (mg : Str → Option Value) : Prop where
  z_abs : mg "abs" = none
  z_len : mg "len" = none
  z_any : mg "any" = none
  z_MOST_STEPS : ∃ t, mg "MOST_STEPS" = some (.int (3) t)
  z_range : mg "range" = none
  z_min : mg "min" = none
  z_sum : mg "sum" = none
  z_int : mg "int" = none
  z_isinstance : mg "isinstance" = none
  z_bool : mg "bool" = none
  z_tuple : mg "tuple" = none
  z_all : mg "all" = none
  z_str : mg "str" = none
  z_sorted : mg "sorted" = none
  z_max : mg "max" = none
/-! ### follows -/
abbrev n_follows : List Str := ["book", "steps", "step", "leap", "barred", "whole", "row"]
theorem sc_follows : FnScope n_follows ["book", "steps", "step"] (defScope s_follows) := ⟨rfl, rfl, rfl, by decide +kernel, rfl, by decide +kernel, by decide +kernel⟩
noncomputable def g_follows : FS :=
 (thenF (parF 3 4 (acons (b2 ixD (lp 0) (cst (.int 1))) (acons (b2 ixD (lp 0) (cst (.int 4))) anil)))
 (thenF (ifF (tc gtD (cl absD (acons (lp 2) anil)) (lp 3))
 (retF (cst (.bool false)))
 skip)
 (thenF (setF 5 (b2 addD (lp 1) (mkT (acons (lv 2) anil))))
 (retF (xn (cl anyD (acons (toL (lcF [6] (u1 tupOf (lv 4)) (gn 6) noIf (b2 eqD (sl3 slD (lp 5) (oi (u1 negD (cl lenD (acons (lp 6) anil)))) ono) (lp 6)))) anil)))))))
noncomputable def gd_follows : List D → Option D := fnD 7 3 g_follows
theorem ok_follows {P : Program} {w : World} {K : PySem.W.Frag} {mg : Str → Option Value} {base : Heap} (Z : Zs mg) (h : Has K mg "follows" s_follows ["book", "steps", "step"])  : OkF P w K mg base 1 "follows" ["book", "steps", "step"] gd_follows := by
  refine OkF.mk' (k := 0) (g := g_follows) 7 3 h sc_follows rfl rfl fun f cdv A outer s H E hr => ?_
  have hu := hu64 hr
  exact ((ss_c (s_par 3 4 rfl sc_follows.nd (a_cons (x_ix (p_v 0) (p_x x_int)) (a_cons (x_ix (p_v 0) (p_x x_int)) a_nil)))
 (ss_c (s_if (t_gt hu (p_x (x_abs Z.z_abs (q_cons (p_v 2) q_nil))) (p_v 3))
 (ss_1 (s_ret x_bl))
 ss_nil)
 (ss_c (s_set 5 sc_follows.nd (x_add (p_v 1) (p_x (x_tup (a_cons (x_v 2) a_nil)))))
 (ss_1 (s_ret (x_not (x_any rfl Z.z_any (q_cons (p_L (l_lc [("row", 6)] rfl sc_follows.nd (ip_i (i_tup (x_v 4))) (fun _ _ _ _ _ => (g_n 6 sc_follows.nd)) (fun _ _ _ _ _ => n_no) (fun _ _ _ _ _ => (x_eq hu (p_x (x_sl (p_v 5) (o_i (p_x (x_neg (p_x (x_len Z.z_len (q_cons (p_v 6) q_nil)))))) o_no)) (p_v 6))))) q_nil)))))))))
/-! ### member_behind -/
abbrev n_member_behind : List Str := ["book", "member", "note", "last", "steps"]
theorem sc_member_behind : FnScope n_member_behind ["book", "member", "note"] (defScope s_member_behind) := ⟨rfl, rfl, rfl, by decide +kernel, rfl, by decide +kernel, by decide +kernel⟩
noncomputable def g_member_behind : FS :=
 (thenF (ifF (tc isD (lp 1) (cst .none))
 (retF (iteF' (tc (inD false) (lp 2) (b2 ixD (lp 0) (cst (.int 2)))) (mkT (acons (lv 2) (acons (mkT anil) anil))) (cst .none)))
 skip)
 (thenF (asgF (lv 1) (gTupD 2 (gsCons (gn 3) (gsCons (gn 4) gsNil))))
 (thenF (ifF (tn (tb (cl gd_follows (acons (lv 0) (acons (lv 4) (acons (b2 subD (lp 2) (lp 3)) anil))))))
 (retF (cst .none))
 skip)
 (retF (mkT (acons (lv 2) (acons (sl3 slD (b2 addD (lp 4) (mkT (acons (b2 subD (lp 2) (lp 3)) anil))) (oi (b2 subD (cst (.int 1)) (cst (.int 3)))) ono) anil)))))))
noncomputable def gd_member_behind : List D → Option D := fnD 5 3 g_member_behind
theorem ok_member_behind {P : Program} {w : World} {K : PySem.W.Frag} {mg : Str → Option Value} {base : Heap} (Z : Zs mg) (h : Has K mg "member_behind" s_member_behind ["book", "member", "note"]) (O_follows : OkF P w K mg base 1 "follows" ["book", "steps", "step"] gd_follows) : OkF P w K mg base 2 "member_behind" ["book", "member", "note"] gd_member_behind := by
  refine OkF.mk' (k := 1) (g := g_member_behind) 5 3 h sc_member_behind rfl rfl fun f cdv A outer s H E hr => ?_
  have hu := hu64 hr
  exact ((ss_c (s_if (t_is (p_v 1) (p_x x_non))
 (ss_1 (s_ret (x_if (t_in hu (p_v 2) (p_x (x_ix (p_v 0) (p_x x_int)))) (x_tup (a_cons (x_v 2) (a_cons (x_tup a_nil) a_nil))) x_non)))
 ss_nil)
 (ss_c (s_asg (x_v 1) (g_t 2 rfl (h_c (g_n 3 sc_member_behind.nd) (h_c (g_n 4 sc_member_behind.nd) h_nil))))
 (ss_c (s_if (t_not (t_b (x_callF O_follows (hr.mono (by first | decide | omega)) (a_cons (x_v 0) (a_cons (x_v 4) (a_cons (x_sub (p_v 2) (p_v 3)) a_nil))))))
 (ss_1 (s_ret x_non))
 ss_nil)
 (ss_1 (s_ret (x_tup (a_cons (x_v 2) (a_cons (x_sl (p_x (x_add (p_v 4) (p_x (x_tup (a_cons (x_sub (p_v 2) (p_v 3)) a_nil))))) (o_i (p_x (x_sub (p_x x_int) (p_x (x_glI Z.z_MOST_STEPS))))) o_no) a_nil)))))))))
/-! ### lines_against -/
abbrev n_lines_against : List Str := ["book", "consonances", "perfect", "melody", "layer", "tone", "grown", "member", "before", "count", "word", "note", "after", "way", "known", "line", "least", "found"]
theorem sc_lines_against : FnScope n_lines_against ["book", "consonances", "perfect", "melody"] (defScope s_lines_against) := ⟨rfl, rfl, rfl, by decide +kernel, rfl, by decide +kernel, by decide +kernel⟩
noncomputable def g_lines_against : FS :=
 (thenF (setF 4 (toDd (d1F (mkT (acons (cst .none) (acons (cst .none) anil))) (mkT (acons (cst (.int 1)) (acons (mkT anil) anil))))))
 (thenF (forF (u1 tupOf (lv 3)) (gn 5)
 (thenF (setDF 6 d0F)
 (thenF (forF (u1 itemsD (lv 4)) (gTupD 2 (gsCons (gTupD 2 (gsCons (gn 7) (gsCons (gn 8) gsNil))) (gsCons (gTupD 2 (gsCons (gn 9) (gsCons (gn 10) gsNil))) gsNil)))
 (forF (cl rg1 (acons (b2 ixD (lp 0) (cst (.int 0))) anil)) (gn 11)
 (thenF (setF 12 (cl gd_member_behind (acons (lv 0) (acons (lv 7) (acons (lv 11) anil)))))
 (thenF (setF 13 (b2 subD (lp 11) (lp 5)))
 (ifF (andF (tc isNotD (lp 12) (cst .none)) false (andF (tc (inD false) (lp 13) (lp 1)) false (tn (andF (tc (inD false) (lp 13) (lp 2)) false (tc eqD (lp 13) (lp 8))))))
 (thenF (setF 14 (b2l dgetF (lp 6) (acons (mkT (acons (lv 12) (acons (lv 13) anil))) (acons (mkT (acons (cst (.int 0)) (acons (cst .none) anil))) anil))))
 (thenF (setF 15 (b2 addD (lp 10) (mkT (acons (lv 11) anil))))
 (thenF (setF 16 (iteF' (tc isD (b2 ixD (lp 14) (cst (.int 1))) (cst .none)) (lv 15) (cl min2L (acons (b2 ixD (lp 14) (cst (.int 1))) (acons (lp 15) anil)))))
 (putDF 6 (mkT (acons (b2 addD (b2 ixD (lp 14) (cst (.int 0))) (lp 9)) (acons (lv 16) anil))) (mkT (acons (lv 12) (acons (lv 13) anil)))))))
 skip)))))
 (fz 6 (setF 4 (lv 6))))))
 (retF (toL (lcF [7, 8, 17] (u1 itemsD (lv 4)) (gTupD 2 (gsCons (gTupD 2 (gsCons (gn 7) (gsCons (gn 8) gsNil))) (gsCons (gn 17) gsNil))) (tc (inD false) (b2 ixD (lp 7) (cst (.int 0))) (b2 ixD (lp 0) (cst (.int 3)))) (lv 17))))))
noncomputable def gd_lines_against : List D → Option D := fnD 18 4 g_lines_against
theorem ok_lines_against {P : Program} {w : World} {K : PySem.W.Frag} {mg : Str → Option Value} {base : Heap} (Z : Zs mg) (h : Has K mg "lines_against" s_lines_against ["book", "consonances", "perfect", "melody"]) (O_member_behind : OkF P w K mg base 2 "member_behind" ["book", "member", "note"] gd_member_behind) : OkF P w K mg base 3 "lines_against" ["book", "consonances", "perfect", "melody"] gd_lines_against := by
  refine OkF.mk' (k := 2) (g := g_lines_against) 18 4 h sc_lines_against rfl rfl fun f cdv A outer s H E hr => ?_
  have hu := hu64 hr
  exact ((ss_c (s_set 4 sc_lines_against.nd (x_D (d_one hu (x_tup (a_cons x_non (a_cons x_non a_nil))) (x_tup (a_cons x_int (a_cons (x_tup a_nil) a_nil))))))
 (ss_c (s_for rfl (i_tup (x_v 3)) (g_n 5 sc_lines_against.nd)
 (ss_c (s_setD 6 sc_lines_against.nd d_nil)
 (ss_c (s_for rfl (i_items (x_v 4)) (g_t 2 rfl (h_c (g_t 2 rfl (h_c (g_n 7 sc_lines_against.nd) (h_c (g_n 8 sc_lines_against.nd) h_nil))) (h_c (g_t 2 rfl (h_c (g_n 9 sc_lines_against.nd) (h_c (g_n 10 sc_lines_against.nd) h_nil))) h_nil)))
 (ss_1 (s_for rfl (i_rg1 Z.z_range (q_cons (p_x (x_ix (p_v 0) (p_x x_int))) q_nil)) (g_n 11 sc_lines_against.nd)
 (ss_c (s_set 12 sc_lines_against.nd (x_callF O_member_behind (hr.mono (by first | decide | omega)) (a_cons (x_v 0) (a_cons (x_v 7) (a_cons (x_v 11) a_nil)))))
 (ss_c (s_set 13 sc_lines_against.nd (x_sub (p_v 11) (p_v 5)))
 (ss_1 (s_if (t_w (w_and (t_isn (p_v 12) (p_x x_non)) (w_and (t_in hu (p_v 13) (p_v 1)) (w_and1 (t_not (t_w (w_and (t_in hu (p_v 13) (p_v 2)) (w_and1 (t_eq hu (p_v 13) (p_v 8))))))))))
 (ss_c (s_set 14 sc_lines_against.nd (x_dget hu (p_v 6) (a_cons (x_tup (a_cons (x_v 12) (a_cons (x_v 13) a_nil))) (a_cons (x_tup (a_cons x_int (a_cons x_non a_nil))) a_nil))))
 (ss_c (s_set 15 sc_lines_against.nd (x_add (p_v 10) (p_x (x_tup (a_cons (x_v 11) a_nil)))))
 (ss_c (s_set 16 sc_lines_against.nd (x_if (t_is (p_x (x_ix (p_v 14) (p_x x_int))) (p_x x_non)) (x_v 15) (x_min2L hu rfl Z.z_min (q_cons (p_x (x_ix (p_v 14) (p_x x_int))) (q_cons (p_v 15) q_nil)))))
 (ss_1 (s_putD 6 hu (x_tup (a_cons (x_add (p_x (x_ix (p_v 14) (p_x x_int))) (p_v 9)) (a_cons (x_v 16) a_nil))) (x_tup (a_cons (x_v 12) (a_cons (x_v 13) a_nil))))))))
 ss_nil)))))))
 (ss_fz 6 (ss_1 (s_set 4 sc_lines_against.nd (x_v 6)))))))
 (ss_1 (s_ret (x_L (l_lc [("member", 7), ("before", 8), ("found", 17)] rfl sc_lines_against.nd (ip_i (i_items (x_v 4))) (fun _ _ _ _ _ => (g_t 2 rfl (h_c (g_t 2 rfl (h_c (g_n 7 sc_lines_against.nd) (h_c (g_n 8 sc_lines_against.nd) h_nil))) (h_c (g_n 17 sc_lines_against.nd) h_nil)))) (fun _ _ _ _ _ => (n_if (t_in hu (p_x (x_ix (p_v 7) (p_x x_int))) (p_x (x_ix (p_v 0) (p_x x_int)))))) (fun _ _ _ _ _ => (x_v 17)))))))))
/-! ### count_against -/
abbrev n_count_against : List Str := ["book", "consonances", "perfect", "melody", "count", "word"]
theorem sc_count_against : FnScope n_count_against ["book", "consonances", "perfect", "melody"] (defScope s_count_against) := ⟨rfl, rfl, rfl, by decide +kernel, rfl, by decide +kernel, by decide +kernel⟩
noncomputable def g_count_against : FS :=
 (retF (cl sumD (acons (toL (lcF [4, 5] (u1 seqOf (cl gd_lines_against (acons (lv 0) (acons (lv 1) (acons (lv 2) (acons (lv 3) anil)))))) (gTupD 2 (gsCons (gn 4) (gsCons (gn 5) gsNil))) noIf (lv 4))) anil)))
noncomputable def gd_count_against : List D → Option D := fnD 6 4 g_count_against
theorem ok_count_against {P : Program} {w : World} {K : PySem.W.Frag} {mg : Str → Option Value} {base : Heap} (Z : Zs mg) (h : Has K mg "count_against" s_count_against ["book", "consonances", "perfect", "melody"]) (O_lines_against : OkF P w K mg base 3 "lines_against" ["book", "consonances", "perfect", "melody"] gd_lines_against) : OkF P w K mg base 4 "count_against" ["book", "consonances", "perfect", "melody"] gd_count_against := by
  refine OkF.mk' (k := 3) (g := g_count_against) 6 4 h sc_count_against rfl rfl fun f cdv A outer s H E hr => ?_
  have hu := hu64 hr
  exact ((ss_1 (s_ret (x_sum rfl Z.z_sum (q_cons (p_L (l_lc [("count", 4), ("word", 5)] rfl sc_count_against.nd (ip_list (p_x (x_callF O_lines_against (hr.mono (by first | decide | omega)) (a_cons (x_v 0) (a_cons (x_v 1) (a_cons (x_v 2) (a_cons (x_v 3) a_nil))))))) (fun _ _ _ _ _ => (g_t 2 rfl (h_c (g_n 4 sc_count_against.nd) (h_c (g_n 5 sc_count_against.nd) h_nil)))) (fun _ _ _ _ _ => n_no) (fun _ _ _ _ _ => (x_v 4)))) q_nil)))))
/-! ### least_against -/
abbrev n_least_against : List Str := ["book", "consonances", "perfect", "melody", "words", "count", "word"]
theorem sc_least_against : FnScope n_least_against ["book", "consonances", "perfect", "melody"] (defScope s_least_against) := ⟨rfl, rfl, rfl, by decide +kernel, rfl, by decide +kernel, by decide +kernel⟩
noncomputable def g_least_against : FS :=
 (thenF (setLF 4 (lcF [5, 6] (u1 seqOf (cl gd_lines_against (acons (lv 0) (acons (lv 1) (acons (lv 2) (acons (lv 3) anil)))))) (gTupD 2 (gsCons (gn 5) (gsCons (gn 6) gsNil))) noIf (lv 6)))
 (fz 4 (retF (iteF' (tt (lp 4)) (cl minL (acons (lp 4) anil)) (cst .none)))))
noncomputable def gd_least_against : List D → Option D := fnD 7 4 g_least_against
theorem ok_least_against {P : Program} {w : World} {K : PySem.W.Frag} {mg : Str → Option Value} {base : Heap} (Z : Zs mg) (h : Has K mg "least_against" s_least_against ["book", "consonances", "perfect", "melody"]) (O_lines_against : OkF P w K mg base 3 "lines_against" ["book", "consonances", "perfect", "melody"] gd_lines_against) : OkF P w K mg base 4 "least_against" ["book", "consonances", "perfect", "melody"] gd_least_against := by
  refine OkF.mk' (k := 3) (g := g_least_against) 7 4 h sc_least_against rfl rfl fun f cdv A outer s H E hr => ?_
  have hu := hu64 hr
  exact ((ss_c (s_setLc 4 [("count", 5), ("word", 6)] rfl sc_least_against.nd (ip_list (p_x (x_callF O_lines_against (hr.mono (by first | decide | omega)) (a_cons (x_v 0) (a_cons (x_v 1) (a_cons (x_v 2) (a_cons (x_v 3) a_nil))))))) (fun _ _ _ _ _ => (g_t 2 rfl (h_c (g_n 5 sc_least_against.nd) (h_c (g_n 6 sc_least_against.nd) h_nil)))) (fun _ _ _ _ _ => n_no) (fun _ _ _ _ _ => (x_v 6)))
 (ss_fz 4 (ss_1 (s_ret (x_if (t_t (p_v 4)) (x_minL hu rfl Z.z_min (q_cons (p_v 4) q_nil)) x_non))))))
/-! ### _law_mixed -/
abbrev n__law_mixed : List Str := ["script", "k", "cell", "first", "second", "third"]
theorem sc__law_mixed : FnScope n__law_mixed ["script", "k"] (defScope s__law_mixed) := ⟨rfl, rfl, rfl, by decide +kernel, rfl, by decide +kernel, by decide +kernel⟩
noncomputable def g__law_mixed : FS :=
 (thenF (setF 2 (cst (.int 0)))
 (thenF (ifF (tc gtD (cl lenD (acons (lp 0) anil)) (cst (.int 0)))
 (setF 2 (b2 ixD (lp 0) (b2 modD (lp 1) (cl lenD (acons (lp 0) anil)))))
 skip)
 (thenF (setF 3 (b2 modD (cl intD (acons (b2 addD (b2 addD (b2 mulD (lp 2) (cst (.int 48271))) (b2 mulD (lp 1) (cst (.int 69621)))) (cst (.int 8191))) anil)) (cst (.int 2147483647))))
 (thenF (setF 4 (b2 modD (cl intD (acons (b2 addD (b2 addD (b2 mulD (lp 3) (lp 3)) (b2 fdivD (lp 3) (cst (.int 7)))) (b2 mulD (lp 1) (cst (.int 16807)))) anil)) (cst (.int 2147483629))))
 (thenF (setF 5 (b2 modD (cl intD (acons (b2 addD (b2 addD (b2 mulD (lp 4) (lp 4)) (b2 fdivD (lp 4) (cst (.int 11)))) (cst (.int 40692))) anil)) (cst (.int 2147483563))))
 (retF (b2 modD (b2 fdivD (lp 5) (cst (.int 5))) (cst (.int 1000003)))))))))
noncomputable def gd__law_mixed : List D → Option D := fnD 6 2 g__law_mixed
theorem ok__law_mixed {P : Program} {w : World} {K : PySem.W.Frag} {mg : Str → Option Value} {base : Heap} (Z : Zs mg) (h : Has K mg "_law_mixed" s__law_mixed ["script", "k"])  : OkF P w K mg base 1 "_law_mixed" ["script", "k"] gd__law_mixed := by
  refine OkF.mk' (k := 0) (g := g__law_mixed) 6 2 h sc__law_mixed rfl rfl fun f cdv A outer s H E hr => ?_
  have hu := hu64 hr
  exact ((ss_c (s_set 2 sc__law_mixed.nd x_int)
 (ss_c (s_if (t_gt hu (p_x (x_len Z.z_len (q_cons (p_v 0) q_nil))) (p_x x_int))
 (ss_1 (s_set 2 sc__law_mixed.nd (x_ix (p_v 0) (p_x (x_mod (p_v 1) (p_x (x_len Z.z_len (q_cons (p_v 0) q_nil))))))))
 ss_nil)
 (ss_c (s_set 3 sc__law_mixed.nd (x_mod (p_x (x_toInt Z.z_int (q_cons (p_x (x_add (p_x (x_add (p_x (x_mul (p_v 2) (p_x x_int))) (p_x (x_mul (p_v 1) (p_x x_int))))) (p_x x_int))) q_nil))) (p_x x_int)))
 (ss_c (s_set 4 sc__law_mixed.nd (x_mod (p_x (x_toInt Z.z_int (q_cons (p_x (x_add (p_x (x_add (p_x (x_mul (p_v 3) (p_v 3))) (p_x (x_fdiv (p_v 3) (p_x x_int))))) (p_x (x_mul (p_v 1) (p_x x_int))))) q_nil))) (p_x x_int)))
 (ss_c (s_set 5 sc__law_mixed.nd (x_mod (p_x (x_toInt Z.z_int (q_cons (p_x (x_add (p_x (x_add (p_x (x_mul (p_v 4) (p_v 4))) (p_x (x_fdiv (p_v 4) (p_x x_int))))) (p_x x_int))) q_nil))) (p_x x_int)))
 (ss_1 (s_ret (x_mod (p_x (x_fdiv (p_v 5) (p_x x_int))) (p_x x_int))))))))))
/-! ### _law_row -/
abbrev n__law_row : List Str := ["script", "many", "big", "row", "k"]
theorem sc__law_row : FnScope n__law_row ["script", "many"] (defScope s__law_row) := ⟨rfl, rfl, rfl, by decide +kernel, rfl, by decide +kernel, by decide +kernel⟩
noncomputable def g__law_row : FS :=
 (thenF (setF 2 (cst (.int 0)))
 (thenF (ifF (andF (tc gtD (cl lenD (acons (lp 0) anil)) (cst (.int 0))) false (tc geD (b2 ixD (lp 0) (cst (.int 0))) (b2 powD (cst (.int 10)) (cst (.int 18)))))
 (setF 2 (b2 ixD (lp 0) (cst (.int 0))))
 skip)
 (thenF (setLF 3 (mkL anil))
 (thenF (forF (cl rg1 (acons (lp 1) anil)) (gn 4)
 (ifF (tc gtD (lp 2) (cst (.int 0)))
 (thenF (appF 3 (b2 modD (cl intD (acons (lp 2) anil)) (cst (.int 1000))))
 (setF 2 (b2 fdivD (lp 2) (cst (.int 1000)))))
 (appF 3 (cl gd__law_mixed (acons (lv 0) (acons (lv 4) anil))))))
 (fz 3 (retF (lv 3)))))))
noncomputable def gd__law_row : List D → Option D := fnD 5 2 g__law_row
theorem ok__law_row {P : Program} {w : World} {K : PySem.W.Frag} {mg : Str → Option Value} {base : Heap} (Z : Zs mg) (h : Has K mg "_law_row" s__law_row ["script", "many"]) (O__law_mixed : OkF P w K mg base 1 "_law_mixed" ["script", "k"] gd__law_mixed) : OkF P w K mg base 2 "_law_row" ["script", "many"] gd__law_row := by
  refine OkF.mk' (k := 1) (g := g__law_row) 5 2 h sc__law_row rfl rfl fun f cdv A outer s H E hr => ?_
  have hu := hu64 hr
  exact ((ss_c (s_set 2 sc__law_row.nd x_int)
 (ss_c (s_if (t_w (w_and (t_gt hu (p_x (x_len Z.z_len (q_cons (p_v 0) q_nil))) (p_x x_int)) (w_and1 (t_ge hu (p_x (x_ix (p_v 0) (p_x x_int))) (p_x (x_pow (p_x x_int) (p_x x_int)))))))
 (ss_1 (s_set 2 sc__law_row.nd (x_ix (p_v 0) (p_x x_int))))
 ss_nil)
 (ss_c (s_setL 3 sc__law_row.nd (l_lst a_nil))
 (ss_c (s_for rfl (i_rg1 Z.z_range (q_cons (p_v 1) q_nil)) (g_n 4 sc__law_row.nd)
 (ss_1 (s_if (t_gt hu (p_v 2) (p_x x_int))
 (ss_c (s_append 3 (x_mod (p_x (x_toInt Z.z_int (q_cons (p_v 2) q_nil))) (p_x x_int)))
 (ss_1 (s_set 2 sc__law_row.nd (x_fdiv (p_v 2) (p_x x_int)))))
 (ss_1 (s_append 3 (x_callF O__law_mixed (hr.mono (by first | decide | omega)) (a_cons (x_v 0) (a_cons (x_v 4) a_nil))))))))
 (ss_fz 3 (ss_1 (s_ret (x_v 3)))))))))
/-! ### _law_is_int -/
abbrev n__law_is_int : List Str := ["value"]
theorem sc__law_is_int : FnScope n__law_is_int ["value"] (defScope s__law_is_int) := ⟨rfl, rfl, rfl, by decide +kernel, rfl, by decide +kernel, by decide +kernel⟩
noncomputable def g__law_is_int : FS :=
 (retF (xand (u1 (isiD "int") (lp 0)) (xn (u1 (isiD "bool") (lp 0)))))
noncomputable def gd__law_is_int : List D → Option D := fnD 1 1 g__law_is_int
theorem ok__law_is_int {P : Program} {w : World} {K : PySem.W.Frag} {mg : Str → Option Value} {base : Heap} (Z : Zs mg) (h : Has K mg "_law_is_int" s__law_is_int ["value"])  : OkF P w K mg base 1 "_law_is_int" ["value"] gd__law_is_int := by
  refine OkF.mk' (k := 0) (g := g__law_is_int) 1 1 h sc__law_is_int rfl rfl fun f cdv A outer s H E hr => ?_
  have hu := hu64 hr
  exact ((ss_1 (s_ret (x_and (x_isi "int" Z.z_isinstance Z.z_int bt_int (p_v 0)) (x_one (x_not (x_isi "bool" Z.z_isinstance Z.z_bool bt_bool (p_v 0))))))))
/-! ### _law_like -/
abbrev n__law_like : List Str := ["value", "due", "k"]
theorem sc__law_like : FnScope n__law_like ["value", "due"] (defScope s__law_like) := ⟨rfl, rfl, rfl, by decide +kernel, rfl, by decide +kernel, by decide +kernel⟩
noncomputable def g__law_like (self : List D → Option D) : FS :=
 (thenF (ifF (tc isD (lp 1) (cst .none))
 (retF (b2 isD (lp 0) (cst .none)))
 skip)
 (thenF (ifF (tb (u1 (isiD "bool") (lp 1)))
 (retF (xand (u1 (isiD "bool") (lp 0)) (b2 eqD (lp 0) (lp 1))))
 skip)
 (thenF (ifF (tb (u1 (isiD "tuple") (lp 1)))
 (thenF (ifF (orF (tn (tb (u1 (isiD "tuple") (lp 0)))) true (tc neD (cl lenD (acons (lp 0) anil)) (cl lenD (acons (lp 1) anil))))
 (retF (cst (.bool false)))
 skip)
 (retF (cl allD (acons (toL (lcF [2] (cl rg1 (acons (cl lenD (acons (lp 1) anil)) anil)) (gn 2) noIf (cl self (acons (b2 ixD (lp 0) (lp 2)) (acons (b2 ixD (lp 1) (lp 2)) anil))))) anil))))
 skip)
 (thenF (ifF (tb (u1 (isiD "str") (lp 1)))
 (retF (xand (u1 (isiD "str") (lp 0)) (b2 eqD (lp 0) (lp 1))))
 skip)
 (retF (xand (cl gd__law_is_int (acons (lv 0) anil)) (b2 eqD (lp 0) (lp 1))))))))
noncomputable def gn__law_like : Nat → List D → Option D
  | 0 => fun _ => none
  | n + 1 => fnD 3 2 (g__law_like (gn__law_like n))
noncomputable def gd__law_like : List D → Option D := gn__law_like 7
theorem ok__law_like_n {P : Program} {w : World} {K : PySem.W.Frag} {mg : Str → Option Value} {base : Heap} (Z : Zs mg) (h : Has K mg "_law_like" s__law_like ["value", "due"]) (O__law_is_int : OkF P w K mg base 1 "_law_is_int" ["value"] gd__law_is_int) : ∀ n : Nat, OkF P w K mg base (1 + n) "_law_like" ["value", "due"] (gn__law_like n)
  | 0 => .vac h
  | n + 1 => by
    have O_self := ok__law_like_n Z h O__law_is_int n
    refine OkF.mk' (k := 1 + n) (g := g__law_like (gn__law_like n)) 3 2 h sc__law_like rfl rfl fun f cdv A outer s H E hr => ?_
    have hu := hu64 hr
    exact ((ss_c (s_if (t_is (p_v 1) (p_x x_non))
 (ss_1 (s_ret (x_is (p_v 0) (p_x x_non))))
 ss_nil)
 (ss_c (s_if (t_b (x_isi "bool" Z.z_isinstance Z.z_bool bt_bool (p_v 1)))
 (ss_1 (s_ret (x_and (x_isi "bool" Z.z_isinstance Z.z_bool bt_bool (p_v 0)) (x_one (x_eq hu (p_v 0) (p_v 1))))))
 ss_nil)
 (ss_c (s_if (t_b (x_isi "tuple" Z.z_isinstance Z.z_tuple bt_tuple (p_v 1)))
 (ss_c (s_if (t_w (w_or (t_not (t_b (x_isi "tuple" Z.z_isinstance Z.z_tuple bt_tuple (p_v 0)))) (w_or1 (t_ne hu (p_x (x_len Z.z_len (q_cons (p_v 0) q_nil))) (p_x (x_len Z.z_len (q_cons (p_v 1) q_nil)))))))
 (ss_1 (s_ret x_bl))
 ss_nil)
 (ss_1 (s_ret (x_all rfl Z.z_all (q_cons (p_L (l_lc [("k", 2)] rfl sc__law_like.nd (ip_i (i_rg1 Z.z_range (q_cons (p_x (x_len Z.z_len (q_cons (p_v 1) q_nil))) q_nil))) (fun _ _ _ _ _ => (g_n 2 sc__law_like.nd)) (fun _ _ _ _ _ => n_no) (fun _ _ _ _ _ => (x_callF O_self (hr.mono (by omega)) (a_cons (x_ix (p_v 0) (p_v 2)) (a_cons (x_ix (p_v 1) (p_v 2)) a_nil)))))) q_nil)))))
 ss_nil)
 (ss_c (s_if (t_b (x_isi "str" Z.z_isinstance Z.z_str bt_str (p_v 1)))
 (ss_1 (s_ret (x_and (x_isi "str" Z.z_isinstance Z.z_str bt_str (p_v 0)) (x_one (x_eq hu (p_v 0) (p_v 1))))))
 ss_nil)
 (ss_1 (s_ret (x_and (x_callF O__law_is_int (hr.mono (by first | decide | omega)) (a_cons (x_v 0) a_nil)) (x_one (x_eq hu (p_v 0) (p_v 1)))))))))))
theorem ok__law_like {P : Program} {w : World} {K : PySem.W.Frag} {mg : Str → Option Value} {base : Heap} (Z : Zs mg) (h : Has K mg "_law_like" s__law_like ["value", "due"]) (O__law_is_int : OkF P w K mg base 1 "_law_is_int" ["value"] gd__law_is_int) : OkF P w K mg base 8 "_law_like" ["value", "due"] gd__law_like := ok__law_like_n Z h O__law_is_int 7
/-! ### _law_book -/
abbrev n__law_book : List Str := ["row", "at", "most", "m", "begins", "ends", "barred", "k", "cell", "steps", "note", "j"]
theorem sc__law_book : FnScope n__law_book ["row", "at", "most"] (defScope s__law_book) := ⟨rfl, rfl, rfl, by decide +kernel, rfl, by decide +kernel, by decide +kernel⟩
noncomputable def g__law_book : FS :=
 (thenF (setF 3 (b2 addD (cst (.int 1)) (b2 modD (cl intD (acons (b2 ixD (lp 0) (lp 1)) anil)) (lp 2))))
 (thenF (setF 4 (cl tupD (acons (toL (lcF [10] (cl rg1 (acons (lp 3) anil)) (gn 10) (tc gtD (b2 modD (b2 fdivD (cl intD (acons (b2 ixD (lp 0) (b2 addD (lp 1) (cst (.int 2)))) anil)) (b2 shlD (cst (.int 1)) (lp 10))) (cst (.int 3))) (cst (.int 0))) (lv 10))) anil)))
 (thenF (setF 5 (cl tupD (acons (toL (lcF [10] (cl rg1 (acons (lp 3) anil)) (gn 10) (tc gtD (b2 modD (b2 fdivD (cl intD (acons (b2 ixD (lp 0) (b2 addD (lp 1) (cst (.int 3)))) anil)) (b2 shlD (cst (.int 1)) (lp 10))) (cst (.int 3))) (cst (.int 0))) (lv 10))) anil)))
 (thenF (setLF 6 (mkL anil))
 (thenF (forF (cl rg1 (acons (b2 modD (cl intD (acons (b2 ixD (lp 0) (b2 addD (lp 1) (cst (.int 4)))) anil)) (cst (.int 4))) anil)) (gn 7)
 (thenF (setF 8 (cl intD (acons (b2 ixD (lp 0) (b2 addD (b2 addD (lp 1) (cst (.int 5))) (lp 7))) anil)))
 (thenF (setF 9 (cl tupD (acons (toL (lcF [11] (cl rg1 (acons (b2 addD (cst (.int 1)) (b2 modD (b2 fdivD (lp 8) (cst (.int 512))) (cst (.int 3)))) anil)) (gn 11) noIf (b2 subD (b2 modD (b2 fdivD (lp 8) (b2 shlD (cst (.int 1)) (b2 mulD (cst (.int 3)) (lp 11)))) (cst (.int 7))) (cst (.int 3))))) anil)))
 (ifF (tc (inD true) (lp 9) (lp 6))
 (appF 6 (lv 9))
 skip))))
 (retF (mkT (acons (lv 3) (acons (b2 modD (cl intD (acons (b2 ixD (lp 0) (b2 addD (lp 1) (cst (.int 1)))) anil)) (cst (.int 8))) (acons (lv 4) (acons (lv 5) (acons (cl tupD (acons (toL (cl sortL (acons (lp 6) anil))) anil)) anil))))))))))))
noncomputable def gd__law_book : List D → Option D := fnD 12 3 g__law_book
theorem ok__law_book {P : Program} {w : World} {K : PySem.W.Frag} {mg : Str → Option Value} {base : Heap} (Z : Zs mg) (h : Has K mg "_law_book" s__law_book ["row", "at", "most"])  : OkF P w K mg base 1 "_law_book" ["row", "at", "most"] gd__law_book := by
  refine OkF.mk' (k := 0) (g := g__law_book) 12 3 h sc__law_book rfl rfl fun f cdv A outer s H E hr => ?_
  have hu := hu64 hr
  exact ((ss_c (s_set 3 sc__law_book.nd (x_add (p_x x_int) (p_x (x_mod (p_x (x_toInt Z.z_int (q_cons (p_x (x_ix (p_v 0) (p_v 1))) q_nil))) (p_v 2)))))
 (ss_c (s_set 4 sc__law_book.nd (x_tuple Z.z_tuple (q_cons (p_L (l_lc [("note", 10)] rfl sc__law_book.nd (ip_i (i_rg1 Z.z_range (q_cons (p_v 3) q_nil))) (fun _ _ _ _ _ => (g_n 10 sc__law_book.nd)) (fun _ _ _ _ _ => (n_if (t_gt hu (p_x (x_mod (p_x (x_fdiv (p_x (x_toInt Z.z_int (q_cons (p_x (x_ix (p_v 0) (p_x (x_add (p_v 1) (p_x x_int))))) q_nil))) (p_x (x_shl (p_x x_int) (p_v 10))))) (p_x x_int))) (p_x x_int)))) (fun _ _ _ _ _ => (x_v 10)))) q_nil)))
 (ss_c (s_set 5 sc__law_book.nd (x_tuple Z.z_tuple (q_cons (p_L (l_lc [("note", 10)] rfl sc__law_book.nd (ip_i (i_rg1 Z.z_range (q_cons (p_v 3) q_nil))) (fun _ _ _ _ _ => (g_n 10 sc__law_book.nd)) (fun _ _ _ _ _ => (n_if (t_gt hu (p_x (x_mod (p_x (x_fdiv (p_x (x_toInt Z.z_int (q_cons (p_x (x_ix (p_v 0) (p_x (x_add (p_v 1) (p_x x_int))))) q_nil))) (p_x (x_shl (p_x x_int) (p_v 10))))) (p_x x_int))) (p_x x_int)))) (fun _ _ _ _ _ => (x_v 10)))) q_nil)))
 (ss_c (s_setL 6 sc__law_book.nd (l_lst a_nil))
 (ss_c (s_for rfl (i_rg1 Z.z_range (q_cons (p_x (x_mod (p_x (x_toInt Z.z_int (q_cons (p_x (x_ix (p_v 0) (p_x (x_add (p_v 1) (p_x x_int))))) q_nil))) (p_x x_int))) q_nil)) (g_n 7 sc__law_book.nd)
 (ss_c (s_set 8 sc__law_book.nd (x_toInt Z.z_int (q_cons (p_x (x_ix (p_v 0) (p_x (x_add (p_x (x_add (p_v 1) (p_x x_int))) (p_v 7))))) q_nil)))
 (ss_c (s_set 9 sc__law_book.nd (x_tuple Z.z_tuple (q_cons (p_L (l_lc [("j", 11)] rfl sc__law_book.nd (ip_i (i_rg1 Z.z_range (q_cons (p_x (x_add (p_x x_int) (p_x (x_mod (p_x (x_fdiv (p_v 8) (p_x x_int))) (p_x x_int))))) q_nil))) (fun _ _ _ _ _ => (g_n 11 sc__law_book.nd)) (fun _ _ _ _ _ => n_no) (fun _ _ _ _ _ => (x_sub (p_x (x_mod (p_x (x_fdiv (p_v 8) (p_x (x_shl (p_x x_int) (p_x (x_mul (p_x x_int) (p_v 11))))))) (p_x x_int))) (p_x x_int))))) q_nil)))
 (ss_1 (s_if (t_nin hu (p_v 9) (p_v 6))
 (ss_1 (s_append 6 (x_v 9)))
 ss_nil)))))
 (ss_1 (s_ret (x_tup (a_cons (x_v 3) (a_cons (x_mod (p_x (x_toInt Z.z_int (q_cons (p_x (x_ix (p_v 0) (p_x (x_add (p_v 1) (p_x x_int))))) q_nil))) (p_x x_int)) (a_cons (x_v 4) (a_cons (x_v 5) (a_cons (x_tuple Z.z_tuple (q_cons (p_L (l_sorted hu Z.z_sorted (q_cons (p_v 6) q_nil))) q_nil)) a_nil))))))))))))))
/-! ### _law_goes -/
abbrev n__law_goes : List Str := ["book", "line", "steps", "row", "k", "step"]
theorem sc__law_goes : FnScope n__law_goes ["book", "line"] (defScope s__law_goes) := ⟨rfl, rfl, rfl, by decide +kernel, rfl, by decide +kernel, by decide +kernel⟩
noncomputable def g__law_goes : FS :=
 (thenF (setF 2 (cl tupD (acons (toL (lcF [4] (cl rg1 (acons (b2 subD (cl lenD (acons (lp 1) anil)) (cst (.int 1))) anil)) (gn 4) noIf (b2 subD (b2 ixD (lp 1) (b2 addD (lp 4) (cst (.int 1)))) (b2 ixD (lp 1) (lp 4))))) anil)))
 (thenF (ifF (tb (cl anyD (acons (toL (lcF [5] (u1 tupOf (lv 2)) (gn 5) noIf (b2 gtD (cl absD (acons (lp 5) anil)) (b2 ixD (lp 0) (cst (.int 1)))))) anil)))
 (retF (cst (.bool false)))
 skip)
 (thenF (forF (u1 tupOf (b2 ixD (lp 0) (cst (.int 4)))) (gn 3)
 (ifF (tb (cl anyD (acons (toL (lcF [4] (cl rg1 (acons (b2 addD (b2 subD (cl lenD (acons (lp 2) anil)) (cl lenD (acons (lp 3) anil))) (cst (.int 1))) anil)) (gn 4) noIf (b2 eqD (sl3 slD (lp 2) (oi (lp 4)) (oi (b2 addD (lp 4) (cl lenD (acons (lp 3) anil))))) (lp 3)))) anil)))
 (retF (cst (.bool false)))
 skip))
 (retF (cst (.bool true))))))
noncomputable def gd__law_goes : List D → Option D := fnD 6 2 g__law_goes
theorem ok__law_goes {P : Program} {w : World} {K : PySem.W.Frag} {mg : Str → Option Value} {base : Heap} (Z : Zs mg) (h : Has K mg "_law_goes" s__law_goes ["book", "line"])  : OkF P w K mg base 1 "_law_goes" ["book", "line"] gd__law_goes := by
  refine OkF.mk' (k := 0) (g := g__law_goes) 6 2 h sc__law_goes rfl rfl fun f cdv A outer s H E hr => ?_
  have hu := hu64 hr
  exact ((ss_c (s_set 2 sc__law_goes.nd (x_tuple Z.z_tuple (q_cons (p_L (l_lc [("k", 4)] rfl sc__law_goes.nd (ip_i (i_rg1 Z.z_range (q_cons (p_x (x_sub (p_x (x_len Z.z_len (q_cons (p_v 1) q_nil))) (p_x x_int))) q_nil))) (fun _ _ _ _ _ => (g_n 4 sc__law_goes.nd)) (fun _ _ _ _ _ => n_no) (fun _ _ _ _ _ => (x_sub (p_x (x_ix (p_v 1) (p_x (x_add (p_v 4) (p_x x_int))))) (p_x (x_ix (p_v 1) (p_v 4))))))) q_nil)))
 (ss_c (s_if (t_b (x_any rfl Z.z_any (q_cons (p_L (l_lc [("step", 5)] rfl sc__law_goes.nd (ip_i (i_tup (x_v 2))) (fun _ _ _ _ _ => (g_n 5 sc__law_goes.nd)) (fun _ _ _ _ _ => n_no) (fun _ _ _ _ _ => (x_gt hu (p_x (x_abs Z.z_abs (q_cons (p_v 5) q_nil))) (p_x (x_ix (p_v 0) (p_x x_int))))))) q_nil)))
 (ss_1 (s_ret x_bl))
 ss_nil)
 (ss_c (s_for rfl (i_tup (x_ix (p_v 0) (p_x x_int))) (g_n 3 sc__law_goes.nd)
 (ss_1 (s_if (t_b (x_any rfl Z.z_any (q_cons (p_L (l_lc [("k", 4)] rfl sc__law_goes.nd (ip_i (i_rg1 Z.z_range (q_cons (p_x (x_add (p_x (x_sub (p_x (x_len Z.z_len (q_cons (p_v 2) q_nil))) (p_x (x_len Z.z_len (q_cons (p_v 3) q_nil))))) (p_x x_int))) q_nil))) (fun _ _ _ _ _ => (g_n 4 sc__law_goes.nd)) (fun _ _ _ _ _ => n_no) (fun _ _ _ _ _ => (x_eq hu (p_x (x_sl (p_v 2) (o_i (p_v 4)) (o_i (p_x (x_add (p_v 4) (p_x (x_len Z.z_len (q_cons (p_v 3) q_nil)))))))) (p_v 3))))) q_nil)))
 (ss_1 (s_ret x_bl))
 ss_nil)))
 (ss_1 (s_ret x_bl))))))
/-! ### _law_is_line -/
abbrev n__law_is_line : List Str := ["book", "line"]
theorem sc__law_is_line : FnScope n__law_is_line ["book", "line"] (defScope s__law_is_line) := ⟨rfl, rfl, rfl, by decide +kernel, rfl, by decide +kernel, by decide +kernel⟩
noncomputable def g__law_is_line : FS :=
 (retF (xand (b2 gtD (cl lenD (acons (lp 1) anil)) (cst (.int 0))) (xand (b2 (inD false) (b2 ixD (lp 1) (cst (.int 0))) (b2 ixD (lp 0) (cst (.int 2)))) (xand (b2 (inD false) (b2 ixD (lp 1) (b2 subD (cl lenD (acons (lp 1) anil)) (cst (.int 1)))) (b2 ixD (lp 0) (cst (.int 3)))) (cl gd__law_goes (acons (lv 0) (acons (lv 1) anil)))))))
noncomputable def gd__law_is_line : List D → Option D := fnD 2 2 g__law_is_line
theorem ok__law_is_line {P : Program} {w : World} {K : PySem.W.Frag} {mg : Str → Option Value} {base : Heap} (Z : Zs mg) (h : Has K mg "_law_is_line" s__law_is_line ["book", "line"]) (O__law_goes : OkF P w K mg base 1 "_law_goes" ["book", "line"] gd__law_goes) : OkF P w K mg base 2 "_law_is_line" ["book", "line"] gd__law_is_line := by
  refine OkF.mk' (k := 1) (g := g__law_is_line) 2 2 h sc__law_is_line rfl rfl fun f cdv A outer s H E hr => ?_
  have hu := hu64 hr
  exact ((ss_1 (s_ret (x_and (x_gt hu (p_x (x_len Z.z_len (q_cons (p_v 1) q_nil))) (p_x x_int)) (x_and (x_in hu (p_x (x_ix (p_v 1) (p_x x_int))) (p_x (x_ix (p_v 0) (p_x x_int)))) (x_and (x_in hu (p_x (x_ix (p_v 1) (p_x (x_sub (p_x (x_len Z.z_len (q_cons (p_v 1) q_nil))) (p_x x_int))))) (p_x (x_ix (p_v 0) (p_x x_int)))) (x_one (x_callF O__law_goes (hr.mono (by first | decide | omega)) (a_cons (x_v 0) (a_cons (x_v 1) a_nil))))))))))
/-! ### _law_begun -/
abbrev n__law_begun : List Str := ["book", "length", "rows", "turn", "grown", "row", "note"]
theorem sc__law_begun : FnScope n__law_begun ["book", "length"] (defScope s__law_begun) := ⟨rfl, rfl, rfl, by decide +kernel, rfl, by decide +kernel, by decide +kernel⟩
noncomputable def g__law_begun : FS :=
 (thenF (setLF 2 (lcF [6] (u1 tupOf (b2 ixD (lp 0) (cst (.int 2)))) (gn 6) noIf (mkT (acons (lv 6) anil))))
 (fz 2 (thenF (forF (cl rg1 (acons (b2 subD (lp 1) (cst (.int 1))) anil)) (gn 3)
 (thenF (setLF 4 (mkL anil))
 (thenF (forF (u1 seqOf (lv 2)) (gn 5)
 (extF 4 (toL (lcF [6] (cl rg1 (acons (b2 ixD (lp 0) (cst (.int 0))) anil)) (gn 6) (tb (cl gd__law_goes (acons (lv 0) (acons (b2 addD (sl3 slD (lp 5) (oi (cl max2D (acons (cst (.int 0)) (acons (b2 subD (cl lenD (acons (lp 5) anil)) (cst (.int 4))) anil)))) ono) (mkT (acons (lv 6) anil))) anil)))) (b2 addD (lp 5) (mkT (acons (lv 6) anil)))))))
 (fz 4 (setF 2 (lv 4))))))
 (retF (lv 2)))))
noncomputable def gd__law_begun : List D → Option D := fnD 7 2 g__law_begun
theorem ok__law_begun {P : Program} {w : World} {K : PySem.W.Frag} {mg : Str → Option Value} {base : Heap} (Z : Zs mg) (h : Has K mg "_law_begun" s__law_begun ["book", "length"]) (O__law_goes : OkF P w K mg base 1 "_law_goes" ["book", "line"] gd__law_goes) : OkF P w K mg base 2 "_law_begun" ["book", "length"] gd__law_begun := by
  refine OkF.mk' (k := 1) (g := g__law_begun) 7 2 h sc__law_begun rfl rfl fun f cdv A outer s H E hr => ?_
  have hu := hu64 hr
  exact ((ss_c (s_setLc 2 [("note", 6)] rfl sc__law_begun.nd (ip_i (i_tup (x_ix (p_v 0) (p_x x_int)))) (fun _ _ _ _ _ => (g_n 6 sc__law_begun.nd)) (fun _ _ _ _ _ => n_no) (fun _ _ _ _ _ => (x_tup (a_cons (x_v 6) a_nil))))
 (ss_fz 2 (ss_c (s_for rfl (i_rg1 Z.z_range (q_cons (p_x (x_sub (p_v 1) (p_x x_int))) q_nil)) (g_n 3 sc__law_begun.nd)
 (ss_c (s_setL 4 sc__law_begun.nd (l_lst a_nil))
 (ss_c (s_for rfl (i_list (x_v 2)) (g_n 5 sc__law_begun.nd)
 (ss_1 (s_extend 4 (p_L (l_lc [("note", 6)] rfl sc__law_begun.nd (ip_i (i_rg1 Z.z_range (q_cons (p_x (x_ix (p_v 0) (p_x x_int))) q_nil))) (fun _ _ _ _ _ => (g_n 6 sc__law_begun.nd)) (fun _ _ _ _ _ => (n_if (t_b (x_callF O__law_goes (hr.mono (by first | decide | omega)) (a_cons (x_v 0) (a_cons (x_add (p_x (x_sl (p_v 5) (o_i (p_x (x_max2 rfl Z.z_max (q_cons (p_x x_int) (q_cons (p_x (x_sub (p_x (x_len Z.z_len (q_cons (p_v 5) q_nil))) (p_x x_int))) q_nil))))) o_no)) (p_x (x_tup (a_cons (x_v 6) a_nil)))) a_nil)))))) (fun _ _ _ _ _ => (x_add (p_v 5) (p_x (x_tup (a_cons (x_v 6) a_nil))))))))))
 (ss_fz 4 (ss_1 (s_set 2 sc__law_begun.nd (x_v 4)))))))
 (ss_1 (s_ret (x_v 2)))))))
/-! ### _law_consonances -/
abbrev n__law_consonances : List Str := ["row", "at", "found", "step"]
theorem sc__law_consonances : FnScope n__law_consonances ["row", "at"] (defScope s__law_consonances) := ⟨rfl, rfl, rfl, by decide +kernel, rfl, by decide +kernel, by decide +kernel⟩
noncomputable def g__law_consonances : FS :=
 (thenF (setLF 2 (lcF [3] (cl rg2 (acons (u1 negD (cst (.int 6))) (acons (cst (.int 7)) anil))) (gn 3) (tc eqD (b2 modD (b2 fdivD (cl intD (acons (b2 ixD (lp 0) (lp 1)) anil)) (b2 shlD (cst (.int 1)) (b2 addD (lp 3) (cst (.int 6))))) (cst (.int 2))) (cst (.int 1))) (lv 3)))
 (fz 2 (retF (cl tupD (acons (lp 2) anil)))))
noncomputable def gd__law_consonances : List D → Option D := fnD 4 2 g__law_consonances
theorem ok__law_consonances {P : Program} {w : World} {K : PySem.W.Frag} {mg : Str → Option Value} {base : Heap} (Z : Zs mg) (h : Has K mg "_law_consonances" s__law_consonances ["row", "at"])  : OkF P w K mg base 1 "_law_consonances" ["row", "at"] gd__law_consonances := by
  refine OkF.mk' (k := 0) (g := g__law_consonances) 4 2 h sc__law_consonances rfl rfl fun f cdv A outer s H E hr => ?_
  have hu := hu64 hr
  exact ((ss_c (s_setLc 2 [("step", 3)] rfl sc__law_consonances.nd (ip_i (i_rg2 Z.z_range (q_cons (p_x (x_neg (p_x x_int))) (q_cons (p_x x_int) q_nil)))) (fun _ _ _ _ _ => (g_n 3 sc__law_consonances.nd)) (fun _ _ _ _ _ => (n_if (t_eq hu (p_x (x_mod (p_x (x_fdiv (p_x (x_toInt Z.z_int (q_cons (p_x (x_ix (p_v 0) (p_v 1))) q_nil))) (p_x (x_shl (p_x x_int) (p_x (x_add (p_v 3) (p_x x_int))))))) (p_x x_int))) (p_x x_int)))) (fun _ _ _ _ _ => (x_v 3)))
 (ss_fz 2 (ss_1 (s_ret (x_tuple Z.z_tuple (q_cons (p_v 2) q_nil)))))))
/-! ### law -/
abbrev n_law : List Str := ["script", "row", "book", "consonances", "perfect", "melody", "good", "line", "ways", "twice", "due", "step", "k", "way"]
theorem sc_law : FnScope n_law ["script"] (defScope s_law) := ⟨rfl, rfl, rfl, by decide +kernel, rfl, by decide +kernel, by decide +kernel⟩
noncomputable def g_law : FS :=
 (thenF (setF 1 (cl gd__law_row (acons (lv 0) (acons (cst (.int 30)) anil))))
 (thenF (setF 2 (cl gd__law_book (acons (lv 1) (acons (cst (.int 0)) (acons (cst (.int 5)) anil)))))
 (thenF (setF 3 (cl gd__law_consonances (acons (lv 1) (acons (cst (.int 12)) anil))))
 (thenF (setF 4 (cl tupD (acons (toL (lcF [11] (u1 tupOf (lv 3)) (gn 11) (tc eqD (b2 modD (b2 fdivD (cl intD (acons (b2 ixD (lp 1) (cst (.int 13))) anil)) (b2 shlD (cst (.int 1)) (b2 addD (lp 11) (cst (.int 6))))) (cst (.int 2))) (cst (.int 1))) (lv 11))) anil)))
 (thenF (setF 5 (cl tupD (acons (toL (lcF [12] (cl rg1 (acons (b2 addD (cst (.int 1)) (b2 modD (cl intD (acons (b2 ixD (lp 1) (cst (.int 14))) anil)) (cst (.int 5)))) anil)) (gn 12) noIf (b2 subD (b2 modD (cl intD (acons (b2 ixD (lp 1) (b2 addD (cst (.int 16)) (lp 12))) anil)) (cst (.int 7))) (cst (.int 2))))) anil)))
 (thenF (setLF 6 (mkL anil))
 (thenF (forF (u1 seqOf (cl gd__law_begun (acons (lv 2) (acons (cl lenD (acons (lp 5) anil)) anil)))) (gn 7)
 (thenF (setF 8 (toL (lcF [12] (cl rg1 (acons (cl lenD (acons (lp 5) anil)) anil)) (gn 12) noIf (b2 subD (b2 ixD (lp 7) (lp 12)) (b2 ixD (lp 5) (lp 12))))))
 (thenF (setF 9 (cl anyD (acons (toL (lcF [12] (cl rg1 (acons (b2 subD (cl lenD (acons (lp 8) anil)) (cst (.int 1))) anil)) (gn 12) noIf (xand (b2 eqD (b2 ixD (lp 8) (lp 12)) (b2 ixD (lp 8) (b2 addD (lp 12) (cst (.int 1))))) (b2 (inD false) (b2 ixD (lp 8) (lp 12)) (lp 4))))) anil)))
 (ifF (andF (tb (cl gd__law_is_line (acons (lv 2) (acons (lv 7) anil)))) false (andF (tb (cl allD (acons (toL (lcF [13] (u1 seqOf (lp 8)) (gn 13) noIf (b2 (inD false) (lp 13) (lp 3)))) anil))) false (tn (tb (lv 9)))))
 (appF 6 (lv 7))
 skip))))
 (thenF (setF 10 (cst .none))
 (thenF (ifF (tc gtD (cl lenD (acons (lp 6) anil)) (cst (.int 0)))
 (setF 10 (cl minL (acons (lp 6) anil)))
 skip)
 (thenF (ifF (tn (tb (cl gd__law_like (acons (cl gd_count_against (acons (lv 2) (acons (lv 3) (acons (lv 4) (acons (lv 5) anil))))) (acons (cl lenD (acons (lp 6) anil)) anil)))))
 (retF (cst (.bool false)))
 skip)
 (retF (cl gd__law_like (acons (cl gd_least_against (acons (lv 2) (acons (lv 3) (acons (lv 4) (acons (lv 5) anil))))) (acons (lv 10) anil))))))))))))))
noncomputable def gd_law : List D → Option D := fnD 14 1 g_law
theorem ok_law {P : Program} {w : World} {K : PySem.W.Frag} {mg : Str → Option Value} {base : Heap} (Z : Zs mg) (h : Has K mg "law" s_law ["script"]) (O__law_row : OkF P w K mg base 2 "_law_row" ["script", "many"] gd__law_row) (O__law_book : OkF P w K mg base 1 "_law_book" ["row", "at", "most"] gd__law_book) (O__law_consonances : OkF P w K mg base 1 "_law_consonances" ["row", "at"] gd__law_consonances) (O__law_begun : OkF P w K mg base 2 "_law_begun" ["book", "length"] gd__law_begun) (O__law_like : OkF P w K mg base 8 "_law_like" ["value", "due"] gd__law_like) (O_least_against : OkF P w K mg base 4 "least_against" ["book", "consonances", "perfect", "melody"] gd_least_against) (O__law_is_line : OkF P w K mg base 2 "_law_is_line" ["book", "line"] gd__law_is_line) (O_count_against : OkF P w K mg base 4 "count_against" ["book", "consonances", "perfect", "melody"] gd_count_against) : OkF P w K mg base 9 "law" ["script"] gd_law := by
  refine OkF.mk' (k := 8) (g := g_law) 14 1 h sc_law rfl rfl fun f cdv A outer s H E hr => ?_
  have hu := hu64 hr
  exact ((ss_c (s_set 1 sc_law.nd (x_callF O__law_row (hr.mono (by first | decide | omega)) (a_cons (x_v 0) (a_cons x_int a_nil))))
 (ss_c (s_set 2 sc_law.nd (x_callF O__law_book (hr.mono (by first | decide | omega)) (a_cons (x_v 1) (a_cons x_int (a_cons x_int a_nil)))))
 (ss_c (s_set 3 sc_law.nd (x_callF O__law_consonances (hr.mono (by first | decide | omega)) (a_cons (x_v 1) (a_cons x_int a_nil))))
 (ss_c (s_set 4 sc_law.nd (x_tuple Z.z_tuple (q_cons (p_L (l_lc [("step", 11)] rfl sc_law.nd (ip_i (i_tup (x_v 3))) (fun _ _ _ _ _ => (g_n 11 sc_law.nd)) (fun _ _ _ _ _ => (n_if (t_eq hu (p_x (x_mod (p_x (x_fdiv (p_x (x_toInt Z.z_int (q_cons (p_x (x_ix (p_v 1) (p_x x_int))) q_nil))) (p_x (x_shl (p_x x_int) (p_x (x_add (p_v 11) (p_x x_int))))))) (p_x x_int))) (p_x x_int)))) (fun _ _ _ _ _ => (x_v 11)))) q_nil)))
 (ss_c (s_set 5 sc_law.nd (x_tuple Z.z_tuple (q_cons (p_L (l_lc [("k", 12)] rfl sc_law.nd (ip_i (i_rg1 Z.z_range (q_cons (p_x (x_add (p_x x_int) (p_x (x_mod (p_x (x_toInt Z.z_int (q_cons (p_x (x_ix (p_v 1) (p_x x_int))) q_nil))) (p_x x_int))))) q_nil))) (fun _ _ _ _ _ => (g_n 12 sc_law.nd)) (fun _ _ _ _ _ => n_no) (fun _ _ _ _ _ => (x_sub (p_x (x_mod (p_x (x_toInt Z.z_int (q_cons (p_x (x_ix (p_v 1) (p_x (x_add (p_x x_int) (p_v 12))))) q_nil))) (p_x x_int))) (p_x x_int))))) q_nil)))
 (ss_c (s_setL 6 sc_law.nd (l_lst a_nil))
 (ss_c (s_for rfl (i_list (x_callF O__law_begun (hr.mono (by first | decide | omega)) (a_cons (x_v 2) (a_cons (x_len Z.z_len (q_cons (p_v 5) q_nil)) a_nil)))) (g_n 7 sc_law.nd)
 (ss_c (s_set 8 sc_law.nd (x_L (l_lc [("k", 12)] rfl sc_law.nd (ip_i (i_rg1 Z.z_range (q_cons (p_x (x_len Z.z_len (q_cons (p_v 5) q_nil))) q_nil))) (fun _ _ _ _ _ => (g_n 12 sc_law.nd)) (fun _ _ _ _ _ => n_no) (fun _ _ _ _ _ => (x_sub (p_x (x_ix (p_v 7) (p_v 12))) (p_x (x_ix (p_v 5) (p_v 12))))))))
 (ss_c (s_set 9 sc_law.nd (x_any rfl Z.z_any (q_cons (p_L (l_lc [("k", 12)] rfl sc_law.nd (ip_i (i_rg1 Z.z_range (q_cons (p_x (x_sub (p_x (x_len Z.z_len (q_cons (p_v 8) q_nil))) (p_x x_int))) q_nil))) (fun _ _ _ _ _ => (g_n 12 sc_law.nd)) (fun _ _ _ _ _ => n_no) (fun _ _ _ _ _ => (x_and (x_eq hu (p_x (x_ix (p_v 8) (p_v 12))) (p_x (x_ix (p_v 8) (p_x (x_add (p_v 12) (p_x x_int)))))) (x_one (x_in hu (p_x (x_ix (p_v 8) (p_v 12))) (p_v 4))))))) q_nil)))
 (ss_1 (s_if (t_w (w_and (t_b (x_callF O__law_is_line (hr.mono (by first | decide | omega)) (a_cons (x_v 2) (a_cons (x_v 7) a_nil)))) (w_and (t_b (x_all rfl Z.z_all (q_cons (p_L (l_lc [("way", 13)] rfl sc_law.nd (ip_list (p_v 8)) (fun _ _ _ _ _ => (g_n 13 sc_law.nd)) (fun _ _ _ _ _ => n_no) (fun _ _ _ _ _ => (x_in hu (p_v 13) (p_v 3))))) q_nil))) (w_and1 (t_not (t_b (x_v 9)))))))
 (ss_1 (s_append 6 (x_v 7)))
 ss_nil)))))
 (ss_c (s_set 10 sc_law.nd x_non)
 (ss_c (s_if (t_gt hu (p_x (x_len Z.z_len (q_cons (p_v 6) q_nil))) (p_x x_int))
 (ss_1 (s_set 10 sc_law.nd (x_minL hu rfl Z.z_min (q_cons (p_v 6) q_nil))))
 ss_nil)
 (ss_c (s_if (t_not (t_b (x_callF O__law_like (hr.mono (by first | decide | omega)) (a_cons (x_callF O_count_against (hr.mono (by first | decide | omega)) (a_cons (x_v 2) (a_cons (x_v 3) (a_cons (x_v 4) (a_cons (x_v 5) a_nil))))) (a_cons (x_len Z.z_len (q_cons (p_v 6) q_nil)) a_nil)))))
 (ss_1 (s_ret x_bl))
 ss_nil)
 (ss_1 (s_ret (x_callF O__law_like (hr.mono (by first | decide | omega)) (a_cons (x_callF O_least_against (hr.mono (by first | decide | omega)) (a_cons (x_v 2) (a_cons (x_v 3) (a_cons (x_v 4) (a_cons (x_v 5) a_nil))))) (a_cons (x_v 10) a_nil))))))))))))))))
end K53

namespace K53
open PySem PySem.Spec PyProof.Rows L2 PD
open PD.Enc PD.Key
theorem q_mb : gd_member_behind = PD.bd_member_behind := rfl
theorem q_book : gd__law_book = PD.bd__law_book := rfl
theorem q_goes : gd__law_goes = PD.bd__law_goes := rfl
theorem q_isl : gd__law_is_line = PD.bd__law_is_line := rfl
theorem q_bgn : gd__law_begun = PD.bd__law_begun := rfl
theorem q_cons : gd__law_consonances = PD.bd__law_consonances := rfl
theorem row_eq : gd__law_row = rowD := rfl
theorem like_is : gd__law_like = likeN 7 := like_eq (f := gn__law_like) rfl (fun _ => rfl) 7
abbrev Mem := Option (Int × List Int)
abbrev St := Mem × Option Int
/-- one note more against a tone -/
def okWay (cs ps : List Int) (w : Int) (before : Option Int) : Bool := decide (w ∈ cs) && !(decide (w ∈ ps) && decide (some w = before))
def dl (b : Book) (cs ps : List Int) (tone : Int) (κ : St) (n : Int) : Option St :=
  match nextM b κ.1 n with
  | none => none
  | some μ => if okWay cs ps (n - tone) κ.2 = true then some (some μ, some (n - tone)) else none
noncomputable abbrev noteG : FS := (thenF (setF 12 (cl gd_member_behind (acons (lv 0) (acons (lv 7) (acons (lv 11) anil)))))
 (thenF (setF 13 (b2 subD (lp 11) (lp 5)))
 (ifF (andF (tc isNotD (lp 12) (cst .none)) false (andF (tc (inD false) (lp 13) (lp 1)) false (tn (andF (tc (inD false) (lp 13) (lp 2)) false (tc eqD (lp 13) (lp 8))))))
 (thenF (setF 14 (b2l dgetF (lp 6) (acons (mkT (acons (lv 12) (acons (lv 13) anil))) (acons (mkT (acons (cst (.int 0)) (acons (cst .none) anil))) anil))))
 (thenF (setF 15 (b2 addD (lp 10) (mkT (acons (lv 11) anil))))
 (thenF (setF 16 (iteF' (tc isD (b2 ixD (lp 14) (cst (.int 1))) (cst .none)) (lv 15) (cl min2L (acons (b2 ixD (lp 14) (cst (.int 1))) (acons (lp 15) anil)))))
 (putDF 6 (mkT (acons (b2 addD (b2 ixD (lp 14) (cst (.int 0))) (lp 9)) (acons (lv 16) anil))) (mkT (acons (lv 12) (acons (lv 13) anil)))))))
 skip)))
def oI : Option Int → D
  | none => .none
  | some i => .int i
theorem eq_oI (w : Int) (o : Option Int) : eqD (.int w) (oI o) = some (.bool (decide (some w = o))) := by
  cases o with
  | none => rfl
  | some i =>
    rw [oI, eq_intD]
    congr 2
    exact decide_eq_decide.mpr ⟨fun h => by rw [h], fun h => by injection h⟩
theorem note_ok (b : Book) (hb : BookOk b) (cs ps : List Int) (tone : Int) (κ : St) (hκ : ∀ l S, κ.1 = some (l, S) → S.length ≤ 2) (c : Nat) (w : List Int) (hw : w.length ≤ 1000) (n : Int) (G : Lay St) (hG : G.length < 16777216)
    (s3 s4 t12 t13 t14 t15 t16 t17 : Slot) :
    ∃ u12 u13 u14 u15 u16, noteG [.val (encBk b), .val (enc cs), .val (enc ps), s3, s4, .val (.int tone), .od (encK vL G), .val (encM κ.1), .val (oI κ.2), .val (.int c), .val (enc w), .val (.int n), t12, t13, t14, t15, t16, t17]
      = some (.nx [.val (encBk b), .val (enc cs), .val (enc ps), s3, s4, .val (.int tone), .od (encK vL (match dl b cs ps tone κ n with | none => G | some k => addL G (k, (c, w ++ [n])))), .val (encM κ.1), .val (oI κ.2), .val (.int c), .val (enc w), .val (.int n), u12, u13, u14, u15, u16, t17]) := by
  have hm := member_behind_ok b hb κ.1 n hκ
  have e1 : cl gd_member_behind (acons (lv 0) (acons (lv 7) (acons (lv 11) anil))) [.val (encBk b), .val (enc cs), .val (enc ps), s3, s4, .val (.int tone), .od (encK vL G), .val (encM κ.1), .val (oI κ.2), .val (.int c), .val (enc w), .val (.int n), t12, t13, t14, t15, t16, t17] = some (encM (nextM b κ.1 n)) := by
    rw [q_mb]
    simp only [e_cl, e_acons, e_lv, getV_succ, getV_zero, sV_val, Option.bind_some, e_anil, hm]
  have e2 : b2 subD (lp 11) (lp 5) [.val (encBk b), .val (enc cs), .val (enc ps), s3, s4, .val (.int tone), .od (encK vL G), .val (encM κ.1), .val (oI κ.2), .val (.int c), .val (enc w), .val (.int n), .val (encM (nextM b κ.1 n)), t13, t14, t15, t16, t17] = some (.int (n - tone)) := by
    simp only [e_b2, e_lp, getP_succ, getP_zero, sP_val, Option.bind_some, o_sub]
  have e12 : ∀ g : FS, (thenF (setF 12 (cl gd_member_behind (acons (lv 0) (acons (lv 7) (acons (lv 11) anil))))) (thenF (setF 13 (b2 subD (lp 11) (lp 5))) g)) [.val (encBk b), .val (enc cs), .val (enc ps), s3, s4, .val (.int tone), .od (encK vL G), .val (encM κ.1), .val (oI κ.2), .val (.int c), .val (enc w), .val (.int n), t12, t13, t14, t15, t16, t17]
      = g [.val (encBk b), .val (enc cs), .val (enc ps), s3, s4, .val (.int tone), .od (encK vL G), .val (encM κ.1), .val (oI κ.2), .val (.int c), .val (enc w), .val (.int n), .val (encM (nextM b κ.1 n)), .val (.int (n - tone)), t14, t15, t16, t17] := fun g => (then_set e1).trans (then_set e2)
  have i1 : inD false (.int (n - tone)) (enc cs) = some (.bool (false ^^ decide (n - tone ∈ cs))) := inT_enc (α := Int) (by decide) false (n - tone) cs
  have i2 : inD false (.int (n - tone)) (enc ps) = some (.bool (false ^^ decide (n - tone ∈ ps))) := inT_enc (α := Int) (by decide) false (n - tone) ps
  have i3 := eq_oI (n - tone) κ.2
  have e3 : andF (tc isNotD (lp 12) (cst .none)) false (andF (tc (inD false) (lp 13) (lp 1)) false (tn (andF (tc (inD false) (lp 13) (lp 2)) false (tc eqD (lp 13) (lp 8))))) [.val (encBk b), .val (enc cs), .val (enc ps), s3, s4, .val (.int tone), .od (encK vL G), .val (encM κ.1), .val (oI κ.2), .val (.int c), .val (enc w), .val (.int n), .val (encM (nextM b κ.1 n)), .val (.int (n - tone)), t14, t15, t16, t17]
      = some (dl b cs ps tone κ n).isSome := by
    unfold dl okWay
    generalize encBk b = z0
    generalize (enc cs : D) = z1 at i1 ⊢
    generalize (enc ps : D) = z2 at i2 ⊢
    generalize oI κ.2 = z3 at i3 ⊢
    generalize encK vL G = z4
    cases nextM b κ.1 n with
    | none => rfl
    | some μ =>
      have hn : isNotD (encM (some μ)) .none = some (.bool true) := rfl
      simp only [e_andF, e_tc, e_lp, e_cst, e_tn, getP_succ, getP_zero, sP_val, Option.bind_some, hn, e_boolOf, if_true, i1, Bool.false_xor]
      cases decide (n - tone ∈ cs) with
      | false => rfl
      | true =>
        simp only [if_true, i2, Option.bind_some, Bool.false_xor, e_boolOf]
        cases decide (n - tone ∈ ps) with
        | false => rfl
        | true =>
          simp only [if_true, i3, Option.bind_some, e_boolOf]
          cases decide (some (n - tone) = κ.2) <;> rfl
  cases hd : dl b cs ps tone κ n with
  | none =>
    rw [hd] at e3
    refine ⟨.val (encM (nextM b κ.1 n)), .val (.int (n - tone)), t14, t15, t16, (e12 _).trans ?_⟩
    rw [e_ifF, e3]
    rfl
  | some k =>
    rw [hd] at e3
    have hk : (encM (nextM b κ.1 n) : D) = kenc k.1 ∧ (.int (n - tone) : D) = kenc k.2 := by
      unfold dl at hd
      cases hn : nextM b κ.1 n with
      | none => rw [hn] at hd; cases hd
      | some μ =>
        rw [hn] at hd
        by_cases ho : okWay cs ps (n - tone) κ.2 = true
        · simp only [ho, if_true] at hd
          cases hd
          exact ⟨rfl, rfl⟩
        · simp only [ho] at hd
          cases hd
    have hT : lineD [encM (nextM b κ.1 n), (.int (n - tone) : D)] = some [encM (nextM b κ.1 n), .int (n - tone)] := rfl
    have hkk : (.tuple [encM (nextM b κ.1 n), .int (n - tone)] : D) = kenc k := by rw [hk.1, hk.2]; rfl
    have hkD : kD (.tuple [encM (nextM b κ.1 n), .int (n - tone)]) = some (key k) := by rw [hkk]; exact kD_key (by decide) k
    have hget : dgetF (.dict (encK vL G)) [.tuple [encM (nextM b κ.1 n), .int (n - tone)], .tuple [.int 0, .none]] = some (((getT G k).map vL).getD (.tuple [.int 0, .none])) := by rw [hkk]; exact o_dgetT (by decide) vL G k _
    have hput : ∀ x : Nat × List Int, putKD (encK vL G) (.tuple [encM (nextM b κ.1 n), .int (n - tone)]) (key k) (vL x) = encK vL (putT G k x) := fun x => by rw [hkk]; exact putKD_enc (by decide) vL G k x
    have hln : (encK vL G).length < 16777216 := by rw [encK_len]; exact hG
    have hadd : addD (enc w) (.tuple [.int n]) = some (enc (w ++ [n])) := by
      rw [enc_list, enc_list, List.map_append]
      exact o_addT _ _ (by simp; omega)
    have key2 : ∀ (c0 : Nat) (l0 : D) (wd : List Int), ((getT G k).map vL).getD (.tuple [.int 0, .none]) = .tuple [.int (c0 : Nat), l0] →
        iteF' (tc isD (b2 ixD (lp 14) (cst (.int 1))) (cst .none)) (lv 15) (cl min2L (acons (b2 ixD (lp 14) (cst (.int 1))) (acons (lp 15) anil)))
          [.val (encBk b), .val (enc cs), .val (enc ps), s3, s4, .val (.int tone), .od (encK vL G), .val (encM κ.1), .val (oI κ.2), .val (.int c), .val (enc w), .val (.int n), .val (encM (nextM b κ.1 n)), .val (.int (n - tone)), .val (.tuple [.int (c0 : Nat), l0]), .val (enc (w ++ [n])), t16, t17] = some (enc wd) →
        ∃ u12 u13 u14 u15 u16, noteG [.val (encBk b), .val (enc cs), .val (enc ps), s3, s4, .val (.int tone), .od (encK vL G), .val (encM κ.1), .val (oI κ.2), .val (.int c), .val (enc w), .val (.int n), t12, t13, t14, t15, t16, t17]
      = some (.nx [.val (encBk b), .val (enc cs), .val (enc ps), s3, s4, .val (.int tone), .od (encK vL (putT G k (c0 + c, wd))), .val (encM κ.1), .val (oI κ.2), .val (.int c), .val (enc w), .val (.int n), u12, u13, u14, u15, u16, t17]) := by
      intro c0 l0 wd hg h16
      rw [hg] at hget
      have hput := hput (c0 + c, wd)
      have hv : vL (c0 + c, wd) = .tuple [.int ((c0 : Int) + (c : Int)), enc wd] := by
        unfold vL
        rw [Int.natCast_add]
      rw [hv] at hput
      refine ⟨.val (encM (nextM b κ.1 n)), .val (.int (n - tone)), .val (.tuple [.int (c0 : Nat), l0]), .val (enc (w ++ [n])), .val (enc wd), (e12 _).trans ?_⟩
      rw [e_ifF, e3, Option.bind_some, if_pos (show (some k).isSome = true from rfl)]
      generalize encBk b = z0 at h16 ⊢
      generalize (enc cs : D) = z1 at h16 ⊢
      generalize (enc ps : D) = z2 at h16 ⊢
      generalize oI κ.2 = z3 at h16 ⊢
      generalize encM κ.1 = z5 at h16 ⊢
      generalize encM (nextM b κ.1 n) = z6 at h16 hget hkD hT hput ⊢
      generalize encK vL G = z4 at h16 hget hput hln ⊢
      generalize (enc w : D) = z7 at h16 hadd ⊢
      generalize (enc (w ++ [n]) : D) = z8 at h16 hadd ⊢
      generalize (enc wd : D) = z9 at h16 hput ⊢
      refine (then_set (d := .tuple [.int (c0 : Nat), l0]) ?_).trans ?_
      · simp only [e_b2l, e_lp, e_lv, getP_succ, getP_zero, getV_succ, getV_zero, sP_od, sV_val, Option.bind_some, e_acons, e_mkT, e_anil, o_line2, Option.map_some, e_cst, hget]
      refine (then_set (d := z8) ?_).trans ?_
      · simp only [List.set_cons_succ, List.set_cons_zero, e_b2, e_lp, e_lv, getP_succ, getP_zero, getV_succ, getV_zero, sP_val, sV_val, Option.bind_some, e_mkT, e_acons, e_anil, o_line1, Option.map_some, hadd]
      refine (then_set (d := z9) h16).trans ?_
      simp only [List.set_cons_succ, List.set_cons_zero, e_putDF, e_mkT, e_acons, e_anil, e_b2, e_lp, e_lv, e_cst, getP_succ, getP_zero, getV_succ, getV_zero, sP_val, sV_val, Option.bind_some, o_ixT, atI_lit0, o_add, o_line2, Option.map_some, hkD, getD_succ, getD_zero, sD_od, hln, if_true, hput]
    cases hg : getT G k with
    | none =>
      have ea : addL G (k, (c, w ++ [n])) = putT G k (0 + c, w ++ [n]) := by unfold addL; simp only [hg]
      have := key2 0 .none (w ++ [n]) (by rw [hg]; rfl) rfl
      rw [← ea] at this
      exact this
    | some v =>
      have ea : addL G (k, (c, w ++ [n])) = putT G k (v.1 + c, if lt (w ++ [n]) v.2 = true then w ++ [n] else v.2) := by unfold addL; simp only [hg]
      have := key2 v.1 (enc v.2) (if lt (w ++ [n]) v.2 = true then w ++ [n] else v.2) (by rw [hg]; rfl) (by
        have hmin := min2L_enc (α := List Int) (by decide) v.2 (w ++ [n])
        have hisn : isD (enc v.2) .none = some (.bool false) := rfl
        generalize (enc v.2 : D) = y1 at hmin hisn ⊢
        generalize (enc (w ++ [n]) : D) = y2 at hmin ⊢
        simp only [e_iteF, e_tc, e_b2, e_lp, e_cst, getP_succ, getP_zero, sP_val, Option.bind_some, o_ixT, atI_lit1, hisn, e_boolOf, Bool.false_eq_true, if_false, e_cl, e_acons, e_anil, hmin])
      rw [← ea] at this
      exact this
theorem kM (m : Mem) : (kenc m : D) = encM m := by cases m <;> rfl
theorem kI (o : Option Int) : (kenc o : D) = oI o := by cases o <;> rfl
/-- one entry goes on -/
def cE (b : Book) (cs ps : List Int) (tone : Int) (e : St × (Nat × List Int)) (ns : List Int) : Lay St := ns.filterMap fun n => (dl b cs ps tone e.1 n).map fun k => (k, (e.2.1, e.2.2 ++ [n]))
theorem entry_ok (b : Book) (hb : BookOk b) (cs ps : List Int) (tone : Int) (e : St × (Nat × List Int)) (hκ : ∀ l S, e.1.1 = some (l, S) → S.length ≤ 2) (hw : e.2.2.length ≤ 1000) (G : Lay St) (hG : G.length < 16000000)
    (s3 s4 t11 t12 t13 t14 t15 t16 t17 : Slot) :
    ∃ u11 u12 u13 u14 u15 u16, forF (cl rg1 (acons (b2 ixD (lp 0) (cst (.int 0))) anil)) (gn 11) noteG [.val (encBk b), .val (enc cs), .val (enc ps), s3, s4, .val (.int tone), .od (encK vL G), .val (encM e.1.1), .val (oI e.1.2), .val (.int e.2.1), .val (enc e.2.2), t11, t12, t13, t14, t15, t16, t17]
      = some (.nx [.val (encBk b), .val (enc cs), .val (enc ps), s3, s4, .val (.int tone), .od (encK vL ((cE b cs ps tone e (rangeI b.m)).foldl addL G)), .val (encM e.1.1), .val (oI e.1.2), .val (.int e.2.1), .val (enc e.2.2), u11, u12, u13, u14, u15, u16, t17]) := by
  have hf : cl rg1 (acons (b2 ixD (lp 0) (cst (.int 0))) anil) [.val (encBk b), .val (enc cs), .val (enc ps), s3, s4, .val (.int tone), .od (encK vL G), .val (encM e.1.1), .val (oI e.1.2), .val (.int e.2.1), .val (enc e.2.2), t11, t12, t13, t14, t15, t16, t17] = some ((rangeI b.m).map .int) := by
    have hr := rangeI_rg b.m (by have := hb.m8; omega)
    have h0 : b2 ixD (lp 0) (cst (.int 0)) [.val (encBk b), .val (enc cs), .val (enc ps), s3, s4, .val (.int tone), .od (encK vL G), .val (encM e.1.1), .val (oI e.1.2), .val (.int e.2.1), .val (enc e.2.2), t11, t12, t13, t14, t15, t16, t17] = some (.int b.m) := by
      show atI [.int b.m, .int b.leap, enc b.begins, enc b.ends, enc b.barred] 0 = _
      rw [atI_lit0]
    rw [e_cl, e_acons, h0]
    exact hr
  have hm : (rangeI b.m).length ≤ 8 := by have := hb.m8; unfold rangeI; simp; omega
  obtain ⟨ρ', e1, t11', t12', t13', t14', t15', t16', _, rfl⟩ := forD_ix (gt := gn 11) (gb := noteG) (PyData.int) (rangeI b.m) (fun i ρ => ∃ u11 u12 u13 u14 u15 u16, ((cE b cs ps tone e ((rangeI b.m).take i)).foldl addL G).length ≤ G.length + i ∧ ρ = [.val (encBk b), .val (enc cs), .val (enc ps), s3, s4, .val (.int tone), .od (encK vL ((cE b cs ps tone e ((rangeI b.m).take i)).foldl addL G)), .val (encM e.1.1), .val (oI e.1.2), .val (.int e.2.1), .val (enc e.2.2), u11, u12, u13, u14, u15, u16, t17])
    (fun i n ρ hn hr => by
      obtain ⟨u11, u12, u13, u14, u15, u16, hl, rfl⟩ := hr
      have hi := (List.getElem?_eq_some_iff.mp hn).1
      obtain ⟨v12, v13, v14, v15, v16, hv⟩ := note_ok b hb cs ps tone e.1 hκ e.2.1 e.2.2 hw n ((cE b cs ps tone e ((rangeI b.m).take i)).foldl addL G) (by omega) s3 s4 u12 u13 u14 u15 u16 t17
      have hstep : (match dl b cs ps tone e.1 n with | none => ((cE b cs ps tone e ((rangeI b.m).take i)).foldl addL G) | some k => addL ((cE b cs ps tone e ((rangeI b.m).take i)).foldl addL G) (k, (e.2.1, e.2.2 ++ [n]))) = (cE b cs ps tone e ((rangeI b.m).take (i + 1))).foldl addL G := by
        unfold cE
        rw [List.take_add_one, hn, List.filterMap_append, List.foldl_append]
        cases hd : dl b cs ps tone e.1 n with
        | none => simp [hd]
        | some k => simp [hd]
      rw [hstep] at hv
      refine ⟨[(11, .int n)], _, rfl, .inl hv, .val (.int n), v12, v13, v14, v15, v16, ?_, rfl⟩
      rw [← hstep]
      cases dl b cs ps tone e.1 n with
      | none => exact Nat.le_succ_of_le hl
      | some k =>
        have := addL_len ((cE b cs ps tone e ((rangeI b.m).take i)).foldl addL G) (k, (e.2.1, e.2.2 ++ [n]))
        show (addL _ _).length ≤ _
        omega)
    ⟨t11, t12, t13, t14, t15, t16, by simp [cE], rfl⟩
  rw [List.take_length] at e1
  exact ⟨t11', t12', t13', t14', t15', t16', for_of hf e1⟩
/-- one tone -/
noncomputable abbrev entG : FS := (forF (cl rg1 (acons (b2 ixD (lp 0) (cst (.int 0))) anil)) (gn 11) noteG)
noncomputable abbrev itG : D → Option Puts := (gTupD 2 (gsCons (gTupD 2 (gsCons (gn 7) (gsCons (gn 8) gsNil))) (gsCons (gTupD 2 (gsCons (gn 9) (gsCons (gn 10) gsNil))) gsNil)))
noncomputable abbrev toneG : FS := (thenF (setDF 6 d0F) (thenF (forF (u1 itemsD (lv 4)) itG entG) (fz 6 (setF 4 (lv 6)))))
def encE (e : St × (Nat × List Int)) : D := .tuple [.tuple [encM e.1.1, oI e.1.2], .tuple [.int e.2.1, enc e.2.2]]
theorem items_enc (L : Lay St) : (encK vL L).map (fun p => PyData.tuple [p.1, p.2]) = L.map encE := by
  unfold encK
  rw [List.map_map]
  refine List.map_congr_left fun e _ => ?_
  show PyData.tuple [.tuple [kenc e.1.1, kenc e.1.2], vL e.2] = _
  rw [kM, kI]
  rfl
theorem tone_ok (b : Book) (hb : BookOk b) (cs ps : List Int) (tone : Int) (L : Lay St) (hL : ∀ e ∈ L, (∀ l S, e.1.1 = some (l, S) → S.length ≤ 2) ∧ e.2.2.length ≤ 1000) (hn : L.length ≤ 1000000)
    (s3 t6 t7 t8 t9 t10 t11 t12 t13 t14 t15 t16 t17 : Slot) :
    ∃ u6 u7 u8 u9 u10 u11 u12 u13 u14 u15 u16, toneG [.val (encBk b), .val (enc cs), .val (enc ps), s3, .val (.dict (encK vL L)), .val (.int tone), t6, t7, t8, t9, t10, t11, t12, t13, t14, t15, t16, t17]
      = some (.nx [.val (encBk b), .val (enc cs), .val (enc ps), s3, .val (.dict (encK vL (nextL (dl b cs ps tone) (rangeI b.m) L))), .val (.int tone), u6, u7, u8, u9, u10, u11, u12, u13, u14, u15, u16, t17]) := by
  have hm : (rangeI b.m).length ≤ 8 := by have := hb.m8; unfold rangeI; simp; omega
  obtain ⟨ρ', e1, u7, u8, u9, u10, u11, u12, u13, u14, u15, u16, rfl⟩ := forD_ix (gt := itG) (gb := entG) encE L (fun i ρ => ∃ u7 u8 u9 u10 u11 u12 u13 u14 u15 u16, ρ = [.val (encBk b), .val (enc cs), .val (enc ps), s3, .val (.dict (encK vL L)), .val (.int tone), .od (encK vL ((contr (dl b cs ps tone) (rangeI b.m) (L.take i)).foldl addL [])), u7, u8, u9, u10, u11, u12, u13, u14, u15, u16, t17])
    (fun i e ρ he hr => by
      obtain ⟨u7, u8, u9, u10, u11, u12, u13, u14, u15, u16, rfl⟩ := hr
      obtain ⟨q1, q2⟩ := hL e (List.mem_of_getElem? he)
      have h1 := nextL_len (dl b cs ps tone) (rangeI b.m) (L.take i)
      unfold nextL at h1
      have h2 : (L.take i).length ≤ L.length := by rw [List.length_take]; omega
      have h3 : (L.take i).length * (rangeI b.m).length ≤ 1000000 * 8 := Nat.mul_le_mul (by omega) hm
      obtain ⟨v11, v12, v13, v14, v15, v16, hv⟩ := entry_ok b hb cs ps tone e q1 q2 ((contr (dl b cs ps tone) (rangeI b.m) (L.take i)).foldl addL []) (by omega) s3 (.val (.dict (encK vL L))) u11 u12 u13 u14 u15 u16 t17
      have hstep : (cE b cs ps tone e (rangeI b.m)).foldl addL ((contr (dl b cs ps tone) (rangeI b.m) (L.take i)).foldl addL []) = (contr (dl b cs ps tone) (rangeI b.m) (L.take (i + 1))).foldl addL [] := by
        rw [List.take_add_one, he]
        unfold contr
        rw [List.flatMap_append, List.foldl_append]
        simp [cE]
      rw [hstep] at hv
      exact ⟨[(7, encM e.1.1), (8, oI e.1.2), (9, .int e.2.1), (10, enc e.2.2)], _, rfl, .inl hv, _, _, _, _, _, _, _, _, _, _, rfl⟩)
    ⟨t7, t8, t9, t10, t11, t12, t13, t14, t15, t16, rfl⟩
  rw [List.take_length] at e1
  refine ⟨.val (.dict (encK vL (nextL (dl b cs ps tone) (rangeI b.m) L))), u7, u8, u9, u10, u11, u12, u13, u14, u15, u16, ?_⟩
  have hf : u1 itemsD (lv 4) [.val (encBk b), .val (enc cs), .val (enc ps), s3, .val (.dict (encK vL L)), .val (.int tone), .od [], t7, t8, t9, t10, t11, t12, t13, t14, t15, t16, t17] = some (L.map encE) := by
    show itemsD (.dict (encK vL L)) = _
    rw [e_itemsD, items_enc]
  refine (then_setD (d := []) rfl).trans ?_
  exact (then_nx (for_of hf e1)).trans rfl
/-! ### all tones -/
def L0 : Lay St := [((none, none), (1, []))]
def layA (b : Book) (cs ps mel : List Int) : Lay St := mel.foldl (fun L t => nextL (dl b cs ps t) (rangeI b.m) L) L0
/-- a member stands, and its note may end -/
def endP (b : Book) (κ : St) : Bool := match κ.1 with | none => false | some p => decide (p.1 ∈ b.ends)
theorem lines_against_ok (b : Book) (hb : BookOk b) (cs ps mel : List Int)
    (hB : ∀ i, i ≤ mel.length → (∀ e ∈ layA b cs ps (mel.take i), (∀ l S, e.1.1 = some (l, S) → S.length ≤ 2) ∧ e.2.2.length ≤ 1000) ∧ (layA b cs ps (mel.take i)).length ≤ 1000000)
    (hE : ∀ e ∈ layA b cs ps mel, ∃ p, e.1.1 = some p) :
    gd_lines_against [encBk b, enc cs, enc ps, enc mel] = some (.list (((layA b cs ps mel).filter fun e => endP b e.1).map fun e => vL e.2)) := by
  refine fn_ret rfl ?_
  show g_lines_against [.val (encBk b), .val (enc cs), .val (enc ps), .val (enc mel), .un, .un, .un, .un, .un, .un, .un, .un, .un, .un, .un, .un, .un, .un] = _
  have e0 : toDd (d1F (mkT (acons (cst .none) (acons (cst .none) anil))) (mkT (acons (cst (.int 1)) (acons (mkT anil) anil)))) [.val (encBk b), .val (enc cs), .val (enc ps), .val (enc mel), .un, .un, .un, .un, .un, .un, .un, .un, .un, .un, .un, .un, .un, .un] = some (.dict (encK vL L0)) := by
    have hk : kD (.tuple [.none, .none]) = some (key ((none, none) : St)) := kD_key (α := St) (by decide) (none, none)
    simp only [e_toDd, e_d1F, e_mkT, e_acons, e_anil, e_cst, Option.bind_some, o_line0, o_line2, Option.map_some, hk]
    rfl
  refine (then_set e0).trans ?_
  obtain ⟨ρ', e1, u5, u6, u7, u8, u9, u10, u11, u12, u13, u14, u15, u16, rfl⟩ := forD_ix (gt := gn 5) (gb := toneG) (enc : Int → D) mel (fun i ρ => ∃ u5 u6 u7 u8 u9 u10 u11 u12 u13 u14 u15 u16, ρ = [.val (encBk b), .val (enc cs), .val (enc ps), .val (enc mel), .val (.dict (encK vL (layA b cs ps (mel.take i)))), u5, u6, u7, u8, u9, u10, u11, u12, u13, u14, u15, u16, .un])
    (fun i t ρ ht hr => by
      obtain ⟨u5, u6, u7, u8, u9, u10, u11, u12, u13, u14, u15, u16, rfl⟩ := hr
      have hi := (List.getElem?_eq_some_iff.mp ht).1
      obtain ⟨q1, q2⟩ := hB i (by omega)
      obtain ⟨v6, v7, v8, v9, v10, v11, v12, v13, v14, v15, v16, hv⟩ := tone_ok b hb cs ps t (layA b cs ps (mel.take i)) q1 q2 (.val (enc mel)) u6 u7 u8 u9 u10 u11 u12 u13 u14 u15 u16 .un
      have hstep : nextL (dl b cs ps t) (rangeI b.m) (layA b cs ps (mel.take i)) = layA b cs ps (mel.take (i + 1)) := by
        unfold layA
        rw [List.take_add_one, ht, List.foldl_append]
        rfl
      rw [hstep] at hv
      exact ⟨[(5, .int t)], _, rfl, .inl hv, _, _, _, _, _, _, _, _, _, _, _, _, rfl⟩)
    ⟨.un, .un, .un, .un, .un, .un, .un, .un, .un, .un, .un, .un, rfl⟩
  rw [List.take_length] at e1
  have hf : u1 tupOf (lv 3) [.val (encBk b), .val (enc cs), .val (enc ps), .val (enc mel), .val (.dict (encK vL L0)), .un, .un, .un, .un, .un, .un, .un, .un, .un, .un, .un, .un, .un] = some (mel.map enc) := rfl
  refine (then_nx (for_of hf e1)).trans (ret_of ?_)
  generalize hLL : layA b cs ps mel = L at hE ⊢
  have hlen : L.length ≤ 1000000 := by
    have := (hB mel.length (Nat.le_refl _)).2
    rw [List.take_length, hLL] at this
    exact this
  rw [e_toL]
  rw [lcF_eq encE (fun e => [(7, encM e.1.1), (8, oI e.1.2), (17, vL e.2)]) (fun e => endP b e.1) (fun e => vL e.2) L]
  · rfl
  · show itemsD (.dict (encK vL L)) = _
    rw [e_itemsD, items_enc]
  · omega
  · intro e he
    refine ⟨rfl, ?_, fun _ => rfl⟩
    obtain ⟨p, hp⟩ := hE e he
    have hm : encM e.1.1 = .tuple [.int p.1, enc p.2] := by rw [hp]; rfl
    have hend : endP b e.1 = decide (p.1 ∈ b.ends) := by unfold endP; rw [hp]
    have i0 : inD false (.int p.1) (enc b.ends) = some (.bool (false ^^ decide (p.1 ∈ b.ends))) := inT_enc (α := Int) (by decide) false p.1 b.ends
    have h3 : ∀ ρ : PD.Env, b2 ixD (lp 0) (cst (.int 3)) (Slot.val (encBk b) :: ρ) = some (enc b.ends) := fun ρ => by
      show atI [.int b.m, .int b.leap, enc b.begins, enc b.ends, enc b.barred] 3 = _
      rw [atI_lit3]
    rw [hend, hm]
    simp only [e_wipe_cons, e_wipe_nil, e_putAll_cons, e_putAll_nil, List.set_cons_succ, List.set_cons_zero]
    rw [e_tc, h3]
    simp only [e_b2, e_lp, getP_succ, getP_zero, sP_val, Option.bind_some, e_cst, o_ixT, atI_lit0, i0, Bool.false_xor, e_boolOf]
end K53

namespace K53
open PySem PySem.Spec PyProof.Rows L2 PD
open PD.Enc PD.Key
/-! ### words and their ways -/
def memO (w : List Int) : Mem := w.getLast?.map fun x => (x, lastN 2 (stepsOf w))
def stw (FM w : List Int) : St := (memO w, w.getLast?.map fun x => x - FM.getD (w.length - 1) 0)
def twB (ps : List Int) : List Int → Bool
  | a :: c :: l => (decide (a = c) && decide (a ∈ ps)) || twB ps (c :: l)
  | _ => false
def goodV (cs ps v : List Int) : Bool := (v.all fun x => decide (x ∈ cs)) && !twB ps v
theorem tw_snoc (ps : List Int) : ∀ (v : List Int) (x y : Int), twB ps (v ++ [x] ++ [y]) = (twB ps (v ++ [x]) || (decide (x = y) && decide (x ∈ ps)))
  | [], x, y => by simp [twB]
  | [a], x, y => by simp [twB]
  | a :: c :: v, x, y => by
    show ((decide (a = c) && decide (a ∈ ps)) || twB ps ((c :: v) ++ [x] ++ [y])) = _
    rw [tw_snoc ps (c :: v) x y, ← Bool.or_assoc]
    rfl
theorem good_snoc (cs ps v : List Int) (x y : Int) : goodV cs ps (v ++ [x] ++ [y]) = (goodV cs ps (v ++ [x]) && okWay cs ps y (some x)) := by
  unfold goodV okWay
  rw [tw_snoc, List.all_append]
  simp only [List.all_cons, List.all_nil, Bool.and_true]
  by_cases h : x = y
  · subst h
    cases (v ++ [x]).all fun x => decide (x ∈ cs) <;> cases twB ps (v ++ [x]) <;> simp
  · have h2 : ¬ (some y = some x) := fun e => h (by injection e with e; exact e.symm)
    simp only [h, h2, decide_false, Bool.false_and, Bool.or_false, Bool.and_false, Bool.not_false, Bool.and_true]
    cases (v ++ [x]).all fun x => decide (x ∈ cs) <;> cases twB ps (v ++ [x]) <;> cases decide (y ∈ cs) <;> rfl
theorem good_one (cs ps : List Int) (y : Int) : goodV cs ps [y] = okWay cs ps y none := by
  unfold goodV okWay
  simp [twB]
theorem last_last (S : List Int) (d : Int) : lastN 2 (lastN 2 S ++ [d]) = lastN 2 (S ++ [d]) := by
  rw [lastN_snoc, lastN_snoc]
  congr 1
  unfold lastN
  rw [List.drop_drop, List.length_drop]
  congr 1
  omega
/-- the ways of a word against the tones -/
def waysV (FM w : List Int) : List Int := (List.range w.length).map fun k => w.getD k 0 - FM.getD k 0
theorem ways_snoc (FM w : List Int) (n : Int) : waysV FM (w ++ [n]) = waysV FM w ++ [n - FM.getD w.length 0] := by
  unfold waysV
  rw [List.length_append, List.length_singleton, List.range_succ, List.map_append]
  congr 1
  · refine List.map_congr_left fun k hk => ?_
    have hk : k < w.length := by simpa using hk
    rw [List.getD_eq_getElem?_getD, List.getElem?_append_left hk, ← List.getD_eq_getElem?_getD]
  · simp
theorem dl_st (b : Book) (hb : BookOk b) (cs ps FM : List Int) (w : List Int) (n : Int) (hw : goesB b w = true) (hbg : w = [] → n ∈ b.begins) :
    (∀ k, dl b cs ps (FM.getD w.length 0) (stw FM w) n = some k → stw FM (w ++ [n]) = k) ∧
    (goodV cs ps (waysV FM w) = true → (dl b cs ps (FM.getD w.length 0) (stw FM w) n).isSome = (goesB b (w ++ [n]) && goodV cs ps (waysV FM (w ++ [n])))) := by
  rcases List.eq_nil_or_concat w with rfl | ⟨i, x, rfl⟩
  · have hn := hbg rfl
    have hx : nextM b none n = some (n, []) := by unfold nextM; simp only [hn, if_true]
    have hst : stw FM [] = (none, none) := rfl
    have hd : dl b cs ps (FM.getD ([] : List Int).length 0) (stw FM []) n = if okWay cs ps (n - FM.getD 0 0) none = true then some (some (n, []), some (n - FM.getD 0 0)) else none := by
      unfold dl
      rw [hst]
      simp only [hx]
      rfl
    have hways : waysV FM ([] ++ [n]) = [n - FM.getD 0 0] := rfl
    constructor
    · intro k hk
      rw [hd] at hk
      by_cases ho : okWay cs ps (n - FM.getD 0 0) none = true
      · rw [if_pos ho] at hk
        cases hk
        rfl
      · rw [if_neg ho] at hk
        cases hk
    · intro _
      rw [hd, hways, good_one]
      show _ = (goesB b [n] && _)
      rw [goes_one b hb]
      cases okWay cs ps (n - FM.getD 0 0) none <;> rfl
  · rw [List.concat_eq_append] at hw ⊢
    have hst : stw FM (i ++ [x]) = (some (x, lastN 2 (stepsOf (i ++ [x]))), some (x - FM.getD i.length 0)) := by
      unfold stw memO
      simp
    have hln : (i ++ [x]).length = i.length + 1 := by simp
    have hd : dl b cs ps (FM.getD (i ++ [x]).length 0) (stw FM (i ++ [x])) n = if extOk b (stepsOf (i ++ [x])) (n - x) = true then (if okWay cs ps (n - FM.getD (i ++ [x]).length 0) (some (x - FM.getD i.length 0)) = true then some (some (n, lastN 2 (stepsOf (i ++ [x] ++ [n]))), some (n - FM.getD (i ++ [x]).length 0)) else none) else none := by
      unfold dl nextM
      rw [hst]
      simp only [ext_last b hb]
      by_cases he : extOk b (stepsOf (i ++ [x])) (n - x) = true
      · simp only [he, if_true, last_last]
        rw [steps_snoc]
      · simp only [he, if_false]
        rfl
    constructor
    · intro k hk
      rw [hd] at hk
      by_cases he : extOk b (stepsOf (i ++ [x])) (n - x) = true
      · rw [if_pos he] at hk
        by_cases ho : okWay cs ps (n - FM.getD (i ++ [x]).length 0) (some (x - FM.getD i.length 0)) = true
        · rw [if_pos ho] at hk
          cases hk
          unfold stw memO
          simp
        · rw [if_neg ho] at hk; cases hk
      · rw [if_neg he] at hk; cases hk
    · intro hg
      rw [hd, goes_snoc b hb, hw, Bool.true_and, ways_snoc, ways_snoc, good_snoc, ← ways_snoc, hg, Bool.true_and]
      cases extOk b (stepsOf (i ++ [x])) (n - x) <;> cases okWay cs ps (n - FM.getD (i ++ [x]).length 0) (some (x - FM.getD i.length 0)) <;> rfl
/-- the words that the layers tell of -/
def wds (b : Book) (cs ps FM : List Int) : Nat → List (List Int)
  | 0 => [[]]
  | j + 1 => (begunB b j).filter fun w => goodV cs ps (waysV FM w)
theorem wds_len (b : Book) (hb : BookOk b) (cs ps FM : List Int) (j : Nat) : ∀ w ∈ wds b cs ps FM j, w.length = j ∧ goesB b w = true ∧ goodV cs ps (waysV FM w) = true := by
  cases j with
  | zero =>
    intro w hw
    have : w = [] := by simpa [wds] using hw
    subst this
    refine ⟨rfl, ?_, rfl⟩
    have := goes_drop b [0] 1 (goes_one b hb 0)
    exact this
  | succ j =>
    intro w hw
    obtain ⟨h1, h2⟩ := List.mem_filter.mp hw
    obtain ⟨q1, q2, _⟩ := begun_mem b hb j w h1
    exact ⟨q1, q2, h2⟩
theorem fm_filter {α β : Type} (o : Int → Option α) (g : Int → β) : ∀ ns : List Int, (ns.filterMap fun n => (o n).map fun _ => g n) = (ns.filter fun n => (o n).isSome).map g
  | [] => rfl
  | n :: ns => by
    rw [List.filterMap_cons, List.filter_cons, fm_filter o g ns]
    cases o n <;> rfl
theorem flat_filter {α β : Type} (p : α → Bool) (q : β → Bool) (g h : α → List β) : ∀ l : List α, (∀ a ∈ l, p a = true → (g a).filter q = h a) → (∀ a ∈ l, p a = false → (g a).filter q = []) → (l.flatMap g).filter q = (l.filter p).flatMap h
  | [], _, _ => rfl
  | a :: l, h1, h2 => by
    have ih := flat_filter p q g h l (fun a ha => h1 a (List.mem_cons_of_mem _ ha)) (fun a ha => h2 a (List.mem_cons_of_mem _ ha))
    rw [List.flatMap_cons, List.filter_append, ih, List.filter_cons]
    cases hp : p a with
    | true => rw [h1 a List.mem_cons_self hp, if_pos rfl, List.flatMap_cons]
    | false => rw [h2 a List.mem_cons_self hp, List.nil_append, if_neg (by simp)]
theorem ways_pre (cs ps FM w : List Int) (n : Int) (h : goodV cs ps (waysV FM (w ++ [n])) = true) : goodV cs ps (waysV FM w) = true := by
  rcases List.eq_nil_or_concat w with rfl | ⟨i, x, rfl⟩
  · rfl
  · rw [List.concat_eq_append] at h ⊢
    rw [ways_snoc, ways_snoc, good_snoc, ← ways_snoc, Bool.and_eq_true] at h
    exact h.1
theorem wds_grow (b : Book) (hb : BookOk b) (cs ps FM : List Int) : ∀ j, growW (dl b cs ps (FM.getD j 0)) (stw FM) (rangeI b.m) (wds b cs ps FM j) = wds b cs ps FM (j + 1)
  | 0 => by
    show growW _ _ _ [[]] = (b.begins.map fun n => [n]).filter fun w => goodV cs ps (waysV FM w)
    unfold growW
    rw [List.flatMap_cons, List.flatMap_nil, List.append_nil, fm_filter]
    obtain ⟨p, hp⟩ := hb.bg
    rw [hp, List.filter_map, List.filter_filter]
    show ((rangeI b.m).filter _).map (fun n => [n]) = _
    congr 1
    refine List.filter_congr fun n hn => ?_
    by_cases hm : n ∈ b.begins
    · have h2 := (dl_st b hb cs ps FM [] n (goes_drop b [0] 1 (goes_one b hb 0)) (fun _ => hm)).2 rfl
      have hpn : p n = true := by
        rw [hp] at hm
        exact (List.mem_filter.mp hm).2
      rw [show ([] : List Int).length = 0 from rfl] at h2
      rw [h2, hpn]
      show (goesB b [n] && goodV cs ps (waysV FM [n])) = (goodV cs ps (waysV FM [n]) && true)
      rw [goes_one b hb, Bool.true_and, Bool.and_true]
    · have hpn : p n = false := by
        cases hq : p n with
        | false => rfl
        | true =>
          exact absurd (by rw [hp]; exact List.mem_filter.mpr ⟨hn, hq⟩) hm
      have hx : nextM b none n = none := by unfold nextM; simp only [hm, if_false]
      have hst : stw FM [] = (none, none) := rfl
      unfold dl
      rw [hst]
      simp only [hx, hpn, Bool.and_false]
      rfl
  | j + 1 => by
    show growW _ _ _ ((begunB b j).filter fun w => goodV cs ps (waysV FM w)) = (growB b (begunB b j)).filter _
    unfold growW growB
    symm
    refine flat_filter (fun w => goodV cs ps (waysV FM w)) _ _ _ _ (fun w hw hg => ?_) (fun w hw hg => ?_)
    · obtain ⟨q1, q2, _⟩ := begun_mem b hb j w hw
      rw [fm_filter, List.filter_map, List.filter_filter]
      congr 1
      refine List.filter_congr fun n hn => ?_
      have h2 := (dl_st b hb cs ps FM w n q2 (fun e => by rw [e] at q1; simp at q1)).2 hg
      rw [q1] at h2
      rw [h2, Bool.and_comm]
      rfl
    · rw [List.filter_eq_nil_iff]
      intro v hv
      obtain ⟨n, _, rfl⟩ := List.mem_map.mp hv
      intro z
      rw [ways_pre cs ps FM w n z] at hg
      cases hg
theorem lay_inv (b : Book) (hb : BookOk b) (cs ps FM : List Int) : ∀ j, j ≤ FM.length → InvW (stw FM) (layA b cs ps (FM.take j)) (wds b cs ps FM j) := by
  intro j
  induction j with
  | zero =>
    intro _
    refine ⟨fun f => ?_, fun e he => ?_, fun w hw => ?_, ?_⟩
    · simp [layA, L0, wds]
      rfl
    · have : e = ((none, none), (1, [])) := by simpa [layA, L0] using he
      subst this
      exact ⟨by simp [wds], rfl⟩
    · have : w = [] := by simpa [wds] using hw
      subst this
      exact ⟨((none, none), (1, [])), by simp [layA, L0], rfl, lt_irr _⟩
    · simp [layA, L0]
  | succ j ih =>
    intro hj
    have h := ih (by omega)
    have := h.step (dl b cs ps (FM.getD j 0)) (rangeI b.m) j (fun w hw => (wds_len b hb cs ps FM j w hw).1) (fun w hw n hn k hk => by
      obtain ⟨q1, q2, q3⟩ := wds_len b hb cs ps FM j w hw
      refine (dl_st b hb cs ps FM w n q2 (fun e => ?_)).1 k (by rw [q1]; exact hk)
      subst e
      unfold dl at hk
      by_cases hm : n ∈ b.begins
      · exact hm
      · have hx : nextM b (stw FM []).1 n = none := by show nextM b none n = none; unfold nextM; simp only [hm, if_false]
        rw [hx] at hk
        cases hk)
    rw [wds_grow b hb] at this
    have e : layA b cs ps (FM.take (j + 1)) = nextL (dl b cs ps (FM.getD j 0)) (rangeI b.m) (layA b cs ps (FM.take j)) := by
      unfold layA
      rw [List.take_add_one, List.getElem?_eq_getElem (by omega), List.foldl_append]
      simp [List.getD_eq_getElem?_getD, List.getElem?_eq_getElem (show j < FM.length by omega)]
    rw [e]
    exact this
/-! ### what the two answer -/
theorem lay_len (b : Book) (hb : BookOk b) (cs ps FM : List Int) : ∀ j, j ≤ FM.length → (layA b cs ps (FM.take j)).length ≤ 8 ^ j
  | 0, _ => by simp [layA, L0]
  | j + 1, hj => by
    have ih := lay_len b hb cs ps FM j (by omega)
    have e : layA b cs ps (FM.take (j + 1)) = nextL (dl b cs ps (FM.getD j 0)) (rangeI b.m) (layA b cs ps (FM.take j)) := by
      unfold layA
      rw [List.take_add_one, List.getElem?_eq_getElem (by omega), List.foldl_append]
      simp [List.getD_eq_getElem?_getD, List.getElem?_eq_getElem (show j < FM.length by omega)]
    rw [e, Nat.pow_succ]
    refine Nat.le_trans (nextL_len _ _ _) (Nat.mul_le_mul ih ?_)
    have := hb.m8
    unfold rangeI; simp; omega
theorem last2_len (S : List Int) : (lastN 2 S).length ≤ 2 := by
  unfold lastN
  rw [List.length_drop]
  omega
theorem against_ok (b : Book) (hb : BookOk b) (cs ps mel : List Int) (h1 : 1 ≤ mel.length) (h6 : mel.length ≤ 6) :
    gd_lines_against [encBk b, enc cs, enc ps, enc mel] = some (.list (((layA b cs ps mel).filter fun e => endP b e.1).map fun e => vL e.2)) := by
  refine lines_against_ok b hb cs ps mel (fun i hi => ?_) (fun e he => ?_)
  · have hv := lay_inv b hb cs ps mel i hi
    refine ⟨fun e he => ?_, Nat.le_trans (lay_len b hb cs ps mel i hi) (Nat.le_trans (Nat.pow_le_pow_right (by decide) (show i ≤ 6 by omega)) (by decide))⟩
    obtain ⟨q1, q2⟩ := hv.frm e he
    have q3 := (wds_len b hb cs ps mel i _ q1).1
    refine ⟨fun l S hS => ?_, by omega⟩
    rw [← q2] at hS
    unfold stw memO at hS
    obtain ⟨x, _, hx⟩ := Option.map_eq_some_iff.mp hS
    cases hx
    exact last2_len _
  · have hv := lay_inv b hb cs ps mel mel.length (Nat.le_refl _)
    rw [List.take_length] at hv
    obtain ⟨q1, q2⟩ := hv.frm e he
    have q3 := (wds_len b hb cs ps mel _ _ q1).1
    rw [← q2]
    cases hq : e.2.2.getLast? with
    | none =>
      rw [List.getLast?_eq_none_iff] at hq
      rw [hq] at q3
      simp at q3
      omega
    | some x => exact ⟨_, by unfold stw memO; rw [hq]; rfl⟩
def goodL (b : Book) (cs ps mel : List Int) : List (List Int) := (wds b cs ps mel mel.length).filter fun w => endP b (stw mel w)
theorem count_ok (b : Book) (hb : BookOk b) (cs ps mel : List Int) (h1 : 1 ≤ mel.length) (h6 : mel.length ≤ 6) :
    gd_count_against [encBk b, enc cs, enc ps, enc mel] = some (.int (goodL b cs ps mel).length) := by
  have ha := against_ok b hb cs ps mel h1 h6
  have hv := lay_inv b hb cs ps mel mel.length (Nat.le_refl _)
  rw [List.take_length] at hv
  have hc := hv.count (endP b)
  have hll := lay_len b hb cs ps mel mel.length (Nat.le_refl _)
  rw [List.take_length] at hll
  have hlen : ((layA b cs ps mel).filter fun e => endP b e.1).length ≤ 262144 := Nat.le_trans (List.length_filter_le _ _) (Nat.le_trans hll (Nat.le_trans (Nat.pow_le_pow_right (by decide) h6) (by decide)))
  generalize (layA b cs ps mel).filter (fun e => endP b e.1) = L at ha hc hlen
  refine fn_ret rfl (ret_of ?_)
  show cl sumD (acons (toL (lcF [4, 5] (u1 seqOf (cl gd_lines_against (acons (lv 0) (acons (lv 1) (acons (lv 2) (acons (lv 3) anil)))))) (gTupD 2 (gsCons (gn 4) (gsCons (gn 5) gsNil))) noIf (lv 4))) anil) [.val (encBk b), .val (enc cs), .val (enc ps), .val (enc mel), .un, .un] = _
  have z := lcF_map (vs := [4, 5]) (f := u1 seqOf (cl gd_lines_against (acons (lv 0) (acons (lv 1) (acons (lv 2) (acons (lv 3) anil)))))) (g := gTupD 2 (gsCons (gn 4) (gsCons (gn 5) gsNil))) (fe := lv 4) (ρ := [.val (encBk b), .val (enc cs), .val (enc ps), .val (enc mel), .un, .un])
    (fun e : St × (Nat × List Int) => vL e.2) (fun e => [(4, .int (e.2.1 : Nat)), (5, enc e.2.2)]) (fun e => .int (e.2.1 : Nat)) L ?_ (by omega) (fun e he => ⟨rfl, rfl⟩)
  · rw [e_cl, e_acons, e_toL, z]
    have q := o_sum (L.map fun e => ((e.2.1 : Nat) : Int))
    rw [List.map_map] at q
    show sumD [.list (L.map (PyData.int ∘ fun e => ((e.2.1 : Nat) : Int)))] = _
    rw [q]
    congr 2
    unfold goodL
    rw [← hc]
    clear q z ha hc hlen
    induction L with
    | nil => rfl
    | cons e L ih => rw [List.map_cons, List.sum_cons, List.map_cons, List.sum_cons, ih, Int.natCast_add]
  · generalize encBk b = z0 at ha ⊢
    generalize (enc cs : D) = z1 at ha ⊢
    generalize (enc ps : D) = z2 at ha ⊢
    generalize (enc mel : D) = z3 at ha ⊢
    simp only [e_u1, e_cl, e_acons, e_lv, getV_succ, getV_zero, sV_val, Option.bind_some, e_anil, ha, e_seqOf]
theorem least_ok (b : Book) (hb : BookOk b) (cs ps mel : List Int) (h1 : 1 ≤ mel.length) (h6 : mel.length ≤ 6) :
    gd_least_against [encBk b, enc cs, enc ps, enc mel] = some (((minO (goodL b cs ps mel)).map fun w => (enc w : D)).getD .none) := by
  have ha := against_ok b hb cs ps mel h1 h6
  have hv := lay_inv b hb cs ps mel mel.length (Nat.le_refl _)
  rw [List.take_length] at hv
  have hc := hv.least (endP b)
  have hll := lay_len b hb cs ps mel mel.length (Nat.le_refl _)
  rw [List.take_length] at hll
  have hlen : ((layA b cs ps mel).filter fun e => endP b e.1).length ≤ 262144 := Nat.le_trans (List.length_filter_le _ _) (Nat.le_trans hll (Nat.le_trans (Nat.pow_le_pow_right (by decide) h6) (by decide)))
  generalize (layA b cs ps mel).filter (fun e => endP b e.1) = L at ha hc hlen
  refine fn_ret rfl ?_
  show g_least_against [.val (encBk b), .val (enc cs), .val (enc ps), .val (enc mel), .un, .un, .un] = _
  have z := lcF_map (vs := [5, 6]) (f := u1 seqOf (cl gd_lines_against (acons (lv 0) (acons (lv 1) (acons (lv 2) (acons (lv 3) anil)))))) (g := gTupD 2 (gsCons (gn 5) (gsCons (gn 6) gsNil))) (fe := lv 6) (ρ := [.val (encBk b), .val (enc cs), .val (enc ps), .val (enc mel), .un, .un, .un])
    (fun e : St × (Nat × List Int) => vL e.2) (fun e => [(5, .int (e.2.1 : Nat)), (6, enc e.2.2)]) (fun e => enc e.2.2) L ?_ (by omega) (fun e he => ⟨rfl, rfl⟩)
  · refine (then_setL z).trans ?_
    rw [← show minO (L.map fun e => e.2.2) = minO (goodL b cs ps mel) from hc]
    have hmm : L.map (fun e => (enc e.2.2 : D)) = (L.map fun e => e.2.2).map enc := by rw [List.map_map]; rfl
    rw [hmm]
    generalize L.map (fun e => e.2.2) = ws
    cases ws with
    | nil => rfl
    | cons w ws =>
      have hm := minL_some (α := List Int) (by decide) (l := w :: ws) (m := minF w ws) rfl
      have hne : ((w :: ws).map (enc : List Int → D)).isEmpty = false := rfl
      show retF _ [.val (encBk b), .val (enc cs), .val (enc ps), .val (enc mel), .val (.list ((w :: ws).map enc)), .un, .un] = some (.rt (enc (minF w ws)))
      generalize (w :: ws).map (enc : List Int → D) = y at hm hne ⊢
      simp only [e_retF, e_iteF, e_tt, e_lp, getP_succ, getP_zero, sP_val, Option.bind_some, truD, hne, Bool.not_false, if_true, e_cl, e_acons, e_anil, hm, Option.map_some]
  · generalize encBk b = z0 at ha ⊢
    generalize (enc cs : D) = z1 at ha ⊢
    generalize (enc ps : D) = z2 at ha ⊢
    generalize (enc mel : D) = z3 at ha ⊢
    simp only [e_u1, e_cl, e_acons, e_lv, getV_succ, getV_zero, sV_val, Option.bind_some, e_anil, ha, e_seqOf]
end K53

namespace K53
open PySem PySem.Spec PyProof.Rows L2 PD
open PD.Enc PD.Key
theorem tw_ix (ps : List Int) : ∀ v : List Int, ((List.range (v.length - 1)).any fun k => decide (v.getD k 0 = v.getD (k + 1) 0) && decide (v.getD k 0 ∈ ps)) = twB ps v
  | [] => rfl
  | [_] => rfl
  | a :: c :: v => by
    have ih := tw_ix ps (c :: v)
    show ((List.range (v.length + 1)).any _) = _
    rw [List.range_succ_eq_map, List.any_cons, List.any_map]
    show ((decide (a = c) && decide (a ∈ ps)) || _) = ((decide (a = c) && decide (a ∈ ps)) || twB ps (c :: v))
    rw [← ih]
    rfl
theorem ways_len (FM w : List Int) : (waysV FM w).length = w.length := by
  unfold waysV
  rw [List.length_map, List.length_range]
theorem goodL_eq (b : Book) (hb : BookOk b) (cs ps mel : List Int) (k : Nat) (hk : mel.length = k + 1) :
    goodL b cs ps mel = (begunB b k).filter fun w => lineB b w && goodV cs ps (waysV mel w) := by
  unfold goodL
  rw [hk]
  show List.filter _ (List.filter _ _) = _
  rw [List.filter_filter]
  refine List.filter_congr fun w hw => ?_
  obtain ⟨q1, q2, q3, _⟩ := begun_mem b hb k w hw
  have e : endP b (stw mel w) = lineB b w := by
    unfold lineB
    rw [q2, Bool.and_true]
    simp only [q3, decide_true, Bool.true_and]
    obtain ⟨i, x, rfl⟩ : ∃ i x, w = i ++ [x] := ⟨w.dropLast, w.getLast (by rintro rfl; simp at q1), (List.dropLast_concat_getLast _).symm⟩
    unfold endP stw memO
    simp
  rw [e]
noncomputable abbrev wayG : FA := lcF [12] (cl rg1 (acons (cl lenD (acons (lp 5) anil)) anil)) (gn 12) noIf (b2 subD (b2 ixD (lp 7) (lp 12)) (b2 ixD (lp 5) (lp 12)))
theorem way_ok (b : Book) (mel w : List Int) (hl : w.length = mel.length) (h6 : mel.length ≤ 100) (s0 s1 s2 s3 s4 s6 s8 s9 s10 s11 s12 s13 : Slot) :
    toL wayG [s0, s1, s2, s3, s4, .val (.tuple (mel.map .int)), s6, .val (.tuple (w.map .int)), s8, s9, s10, s11, s12, s13] = some (.list ((waysV mel w).map .int)) := by
  have z := lcF_map (vs := [12]) (f := cl rg1 (acons (cl lenD (acons (lp 5) anil)) anil)) (g := gn 12) (fe := b2 subD (b2 ixD (lp 7) (lp 12)) (b2 ixD (lp 5) (lp 12))) (ρ := [s0, s1, s2, s3, s4, .val (.tuple (mel.map .int)), s6, .val (.tuple (w.map .int)), s8, s9, s10, s11, s12, s13])
    (fun k : Nat => (.int (k : Nat) : D)) (fun k => [(12, .int (k : Nat))]) (fun k => .int (w.getD k 0 - mel.getD k 0)) (List.range w.length) ?_ (by rw [List.length_range]; omega) fun k hk => ⟨rfl, ?_⟩
  · rw [e_toL]
    show Option.map PyData.list (lcF _ _ _ _ _ _) = _
    rw [z]
    unfold waysV
    rw [List.map_map]
    rfl
  · simp only [e_cl, e_acons, e_lp, getP_succ, getP_zero, sP_val, Option.bind_some, e_anil, o_lenT, List.length_map, hl]
    exact o_rg1n _ (by omega)
  · have hk : k < w.length := by simpa using hk
    have q1 := PD.at_int w k hk (k : Int) rfl
    have q2 := PD.at_int mel k (by omega) (k : Int) rfl
    generalize w.map PyData.int = w' at q1 ⊢
    generalize mel.map PyData.int = m' at q2 ⊢
    simp only [e_wipe_cons, e_wipe_nil, e_putAll_cons, e_putAll_nil, List.set_cons_succ, List.set_cons_zero, e_b2, e_lp, getP_succ, getP_zero, sP_val, Option.bind_some, o_ixT, q1, q2, o_sub]
noncomputable abbrev twG : FE := cl anyD (acons (toL (lcF [12] (cl rg1 (acons (b2 subD (cl lenD (acons (lp 8) anil)) (cst (.int 1))) anil)) (gn 12) noIf (xand (b2 eqD (b2 ixD (lp 8) (lp 12)) (b2 ixD (lp 8) (b2 addD (lp 12) (cst (.int 1))))) (b2 (inD false) (b2 ixD (lp 8) (lp 12)) (lp 4))))) anil)
theorem at_intL (l : List Int) (i : Nat) (h : i < l.length) (j : Int) (hj : j = i) : ixD (.list (l.map PyData.int)) (.int j) = some (.int (l.getD i 0)) := PD.at_int l i h j hj
theorem twice_ok (ps v : List Int) (h1 : 1 ≤ v.length) (h6 : v.length ≤ 100) (s0 s1 s2 s3 s5 s6 s7 s9 s10 s11 s12 s13 : Slot) :
    twG [s0, s1, s2, s3, .val (enc ps), s5, s6, s7, .val (.list (v.map .int)), s9, s10, s11, s12, s13] = some (.bool (twB ps v)) := by
  have z := lcF_map (vs := [12]) (f := cl rg1 (acons (b2 subD (cl lenD (acons (lp 8) anil)) (cst (.int 1))) anil)) (g := gn 12) (fe := xand (b2 eqD (b2 ixD (lp 8) (lp 12)) (b2 ixD (lp 8) (b2 addD (lp 12) (cst (.int 1))))) (b2 (inD false) (b2 ixD (lp 8) (lp 12)) (lp 4))) (ρ := [s0, s1, s2, s3, .val (enc ps), s5, s6, s7, .val (.list (v.map .int)), s9, s10, s11, s12, s13])
    (fun k : Nat => (.int (k : Nat) : D)) (fun k => [(12, .int (k : Nat))]) (fun k => .bool (decide (v.getD k 0 = v.getD (k + 1) 0) && decide (v.getD k 0 ∈ ps))) (List.range (v.length - 1)) ?_ (by rw [List.length_range]; omega) fun k hk => ⟨rfl, ?_⟩
  · show cl anyD (acons (toL (lcF _ _ _ _ _)) anil) _ = _
    rw [e_cl, e_acons, e_toL, z]
    have q := o_any ((List.range (v.length - 1)).map fun k => decide (v.getD k 0 = v.getD (k + 1) 0) && decide (v.getD k 0 ∈ ps))
    rw [List.map_map, List.any_map] at q
    rw [← tw_ix ps v]
    exact q
  · have h0 : rg1 [.int ((v.length : Int) - 1)] = some ((List.range (v.length - 1)).map fun i => .int (i : Nat)) := by
      rw [o_rg1 _ ⟨by omega, by omega⟩]
      congr 3
      omega
    simp only [e_cl, e_acons, e_b2, e_lp, getP_succ, getP_zero, sP_val, e_anil, Option.bind_some, o_lenL, List.length_map, e_cst, o_sub]
    exact h0
  · have hk : k < v.length - 1 := by simpa using hk
    have q1 := at_intL v k (by omega) (k : Int) rfl
    have q2 := at_intL v (k + 1) (by omega) ((k : Int) + 1) (by omega)
    have i2 : inD false (.int (v.getD k 0)) (enc ps) = some (.bool (false ^^ decide (v.getD k 0 ∈ ps))) := inT_enc (α := Int) (by decide) false _ ps
    generalize (enc ps : D) = p' at i2 ⊢
    generalize v.map PyData.int = v' at q1 q2 ⊢
    simp only [e_wipe_cons, e_wipe_nil, e_putAll_cons, e_putAll_nil, List.set_cons_succ, List.set_cons_zero, e_xand, e_b2, e_lp, getP_succ, getP_zero, sP_val, Option.bind_some, e_cst, o_add, q1, q2, eq_intD, e_boolOf, i2, Bool.false_xor]
    cases decide (v.getD k 0 = v.getD (k + 1) 0) <;> rfl
noncomputable abbrev condG : FB := andF (tb (cl gd__law_is_line (acons (lv 2) (acons (lv 7) anil)))) false (andF (tb (cl allD (acons (toL (lcF [13] (u1 seqOf (lp 8)) (gn 13) noIf (b2 (inD false) (lp 13) (lp 3)))) anil))) false (tn (tb (lv 9))))
theorem cond_ok (b : Book) (hb : BookOk b) (cs ps v w : List Int) (hw1 : 1 ≤ w.length) (hw : w.length ≤ 100) (hv : v.length ≤ 100) (s0 s1 s4 s5 s6 s10 s11 s12 s13 : Slot) :
    condG [s0, s1, .val (encBk b), .val (enc cs), s4, s5, s6, .val (enc w), .val (.list (v.map .int)), .val (.bool (twB ps v)), s10, s11, s12, s13] = some (lineB b w && goodV cs ps v) := by
  have hl := is_line_ok b hb w hw1 (by omega)
  have e1 : tb (cl gd__law_is_line (acons (lv 2) (acons (lv 7) anil))) [s0, s1, .val (encBk b), .val (enc cs), s4, s5, s6, .val (enc w), .val (.list (v.map .int)), .val (.bool (twB ps v)), s10, s11, s12, s13] = some (lineB b w) := by
    rw [q_isl]
    generalize encBk b = z0 at hl ⊢
    generalize (enc w : D) = z1 at hl ⊢
    simp only [e_tb, e_cl, e_acons, e_lv, getV_succ, getV_zero, sV_val, Option.bind_some, e_anil, hl, e_boolOf]
  have e2 : tb (cl allD (acons (toL (lcF [13] (u1 seqOf (lp 8)) (gn 13) noIf (b2 (inD false) (lp 13) (lp 3)))) anil)) [s0, s1, .val (encBk b), .val (enc cs), s4, s5, s6, .val (enc w), .val (.list (v.map .int)), .val (.bool (twB ps v)), s10, s11, s12, s13] = some (v.all fun x => decide (x ∈ cs)) := by
    have z := lcF_map (vs := [13]) (f := u1 seqOf (lp 8)) (g := gn 13) (fe := b2 (inD false) (lp 13) (lp 3)) (ρ := [s0, s1, .val (encBk b), .val (enc cs), s4, s5, s6, .val (enc w), .val (.list (v.map .int)), .val (.bool (twB ps v)), s10, s11, s12, s13])
      (PyData.int) (fun x => [(13, .int x)]) (fun x => .bool (decide (x ∈ cs))) v rfl (by omega) fun x hx => ⟨rfl, ?_⟩
    · rw [e_tb, e_cl, e_acons, e_toL, z]
      have q := o_all (v.map fun x => decide (x ∈ cs))
      rw [List.map_map, List.all_map] at q
      exact congrArg (fun o => Option.bind o boolOf) q
    · have i2 : inD false (.int x) (enc cs) = some (.bool (false ^^ decide (x ∈ cs))) := inT_enc (α := Int) (by decide) false x cs
      generalize (enc cs : D) = p' at i2 ⊢
      simp only [e_wipe_cons, e_wipe_nil, e_putAll_cons, e_putAll_nil, List.set_cons_succ, List.set_cons_zero, e_b2, e_lp, getP_succ, getP_zero, sP_val, Option.bind_some, i2, Bool.false_xor]
  show andF _ _ (andF _ _ _) _ = _
  rw [e_andF, e1, Option.bind_some]
  unfold goodV
  cases lineB b w with
  | false => rfl
  | true =>
    rw [if_pos rfl, e_andF, e2, Option.bind_some]
    cases v.all fun x => decide (x ∈ cs) with
    | false => rfl
    | true =>
      rw [if_pos rfl]
      cases twB ps v <;> rfl
noncomputable abbrev bodyG : FS := (thenF (setF 8 (toL wayG)) (thenF (setF 9 twG) (ifF condG (appF 6 (lv 7)) skip)))
theorem gather (b : Book) (hb : BookOk b) (cs ps mel : List Int) (k : Nat) (hk : mel.length = k + 1) (h6 : k ≤ 5) (s0 s1 : Slot) :
    ∃ u7 u8 u9, forD (gn 7) bodyG ((begunB b k).map enc) [s0, s1, .val (encBk b), .val (enc cs), .val (enc ps), .val (enc mel), .ol [], .un, .un, .un, .un, .un, .un, .un]
      = some (.nx [s0, s1, .val (encBk b), .val (enc cs), .val (enc ps), .val (enc mel), .ol ((goodL b cs ps mel).map enc), u7, u8, u9, .un, .un, .un, .un]) := by
  have hbl : (begunB b k).length ≤ 1000000 := Nat.le_trans (begun_len b hb k) (Nat.le_trans (Nat.pow_le_pow_left hb.m8 (k + 1)) (Nat.le_trans (Nat.pow_le_pow_right (by decide) (show k + 1 ≤ 6 by omega)) (by decide)))
  obtain ⟨ρ', e, u7, u8, u9, rfl⟩ := forD_ix (gt := gn 7) (gb := bodyG) (enc : List Int → D) (begunB b k) (fun i ρ => ∃ u7 u8 u9, ρ = [s0, s1, .val (encBk b), .val (enc cs), .val (enc ps), .val (enc mel), .ol ((((begunB b k).take i).filter fun w => lineB b w && goodV cs ps (waysV mel w)).map enc), u7, u8, u9, .un, .un, .un, .un])
    (fun i w ρ hw hr => by
      obtain ⟨u7, u8, u9, rfl⟩ := hr
      obtain ⟨q1, _, _, _⟩ := begun_mem b hb k w (List.mem_of_getElem? hw)
      have hwl := ways_len mel w
      have e1 := way_ok b mel w (by omega) (by omega) s0 s1 (.val (encBk b)) (.val (enc cs)) (.val (enc ps)) (.ol ((((begunB b k).take i).filter fun w => lineB b w && goodV cs ps (waysV mel w)).map enc)) u8 u9 .un .un .un .un
      have e2 := twice_ok ps (waysV mel w) (by omega) (by omega) s0 s1 (.val (encBk b)) (.val (enc cs)) (.val (enc mel)) (.ol ((((begunB b k).take i).filter fun w => lineB b w && goodV cs ps (waysV mel w)).map enc)) (.val (enc w)) u9 .un .un .un .un
      have e3 := cond_ok b hb cs ps (waysV mel w) w (by omega) (by omega) (by omega) s0 s1 (.val (enc ps)) (.val (enc mel)) (.ol ((((begunB b k).take i).filter fun w => lineB b w && goodV cs ps (waysV mel w)).map enc)) .un .un .un .un
      refine ⟨[(7, enc w)], [s0, s1, .val (encBk b), .val (enc cs), .val (enc ps), .val (enc mel), .ol ((((begunB b k).take (i + 1)).filter fun w => lineB b w && goodV cs ps (waysV mel w)).map enc), .val (enc w), .val (.list ((waysV mel w).map .int)), .val (.bool (twB ps (waysV mel w))), .un, .un, .un, .un], rfl, .inl ?_, _, _, _, rfl⟩
      refine (then_set e1).trans ((then_set e2).trans ?_)
      refine (show ifF condG (appF 6 (lv 7)) skip [s0, s1, .val (encBk b), .val (enc cs), .val (enc ps), .val (enc mel), .ol ((((begunB b k).take i).filter fun w => lineB b w && goodV cs ps (waysV mel w)).map enc), .val (enc w), .val (.list ((waysV mel w).map .int)), .val (.bool (twB ps (waysV mel w))), .un, .un, .un, .un] = _ from ?_)
      rw [e_ifF, e3, Option.bind_some, List.take_add_one, hw, List.filter_append, List.map_append]
      have hlen : ((((begunB b k).take i).filter fun w => lineB b w && goodV cs ps (waysV mel w)).map (enc : List Int → D)).length < 16777216 := by
        have h1 := List.length_filter_le (fun w => lineB b w && goodV cs ps (waysV mel w)) ((begunB b k).take i)
        rw [List.length_take] at h1
        rw [List.length_map]
        omega
      show (if (lineB b w && goodV cs ps (waysV mel w)) = true then _ else _) = some (Out.nx [_, _, _, _, _, _, .ol (_ ++ ([w].filter _).map enc), _, _, _, _, _, _, _])
      generalize (((begunB b k).take i).filter fun w => lineB b w && goodV cs ps (waysV mel w)).map (enc : List Int → D) = y at hlen ⊢
      rw [List.filter_cons, List.filter_nil]
      cases hc : lineB b w && goodV cs ps (waysV mel w) with
      | false => simp
      | true =>
        rw [if_pos rfl, if_pos rfl, e_appF]
        generalize (encBk b) = z0
        generalize hq : (enc w : D) = z1
        simp only [e_lv, getV_succ, getV_zero, sV_val, Option.bind_some, getL_succ, getL_zero, sL_ol, hlen, if_true, List.set_cons_succ, List.set_cons_zero, List.map_cons, List.map_nil, hq])
    ⟨.un, .un, .un, rfl⟩
  rw [List.take_length, ← goodL_eq b hb cs ps mel k hk] at e
  exact ⟨u7, u8, u9, e⟩
theorem likeok_ints (w : List Int) (h : w.length ≤ 1000) : likeOk 7 (enc w : D) = true := by
  rw [enc_list, likeOk, Bool.and_eq_true, decide_eq_true_eq, List.all_eq_true]
  refine ⟨by rw [List.length_map]; omega, fun d hd => ?_⟩
  obtain ⟨x, _, rfl⟩ := List.mem_map.mp hd
  rfl
theorem perf_ok (cs : List Int) (hcs : ∀ n ∈ cs, n ∈ range13) (hl : cs.length ≤ 13) (rows : D) (c : Int) (hc : ixD rows (.int 13) = some (.int c)) (s0 s2 : Slot) :
    ∃ ps : List Int, lcF [11] (u1 tupOf (lv 3)) (gn 11) (tc eqD (b2 modD (b2 fdivD (cl intD (acons (b2 ixD (lp 1) (cst (.int 13))) anil)) (b2 shlD (cst (.int 1)) (b2 addD (lp 11) (cst (.int 6))))) (cst (.int 2))) (cst (.int 1))) (lv 11)
      [s0, .val rows, s2, .val (enc cs), .un, .un, .un, .un, .un, .un, .un, .un, .un, .un] = some (ps.map .int) := by
  refine ⟨cs.filter fun n => decide (c / (2 ^ (n + 6).toNat : Nat) % 2 = 1), ?_⟩
  refine lcF_eq (PyData.int) (fun n => [(11, .int n)]) _ (fun n => .int n) cs rfl (by omega) fun n hn => ⟨rfl, ?_, fun _ => rfl⟩
  obtain ⟨k, hk, rfl⟩ := List.mem_map.mp (hcs n hn)
  have hk : k < 13 := by simpa using hk
  have hb := bit_ok c k (by omega)
  have e6 : (-6 + (k : Int) + 6) = (k : Int) := by omega
  have hmod : modD (.int (c / (2 ^ k : Nat))) (.int 2) = some (.int (c / (2 ^ k : Nat) % 2)) := o_mod _ _ (by decide)
  simp only [e_wipe_cons, e_wipe_nil, e_putAll_cons, e_putAll_nil, List.set_cons_succ, List.set_cons_zero, e_tc, e_b2, e_cl, e_acons, e_anil, e_lp, e_cst, getP_succ, getP_zero, sP_val, Option.bind_some, hc, o_int, o_add, e6, hb, hmod, eq_intD, e_boolOf, Int.toNat_natCast]
theorem mel_ok (row : List Int) (hl : row.length = 30) (s0 s2 s3 s4 : Slot) :
    ∃ mel : List Int, (1 ≤ mel.length ∧ mel.length ≤ 5) ∧ lcF [12] (cl rg1 (acons (b2 addD (cst (.int 1)) (b2 modD (cl intD (acons (b2 ixD (lp 1) (cst (.int 14))) anil)) (cst (.int 5)))) anil)) (gn 12) noIf (b2 subD (b2 modD (cl intD (acons (b2 ixD (lp 1) (b2 addD (cst (.int 16)) (lp 12))) anil)) (cst (.int 7))) (cst (.int 2)))
      [s0, .val (.list (row.map .int)), s2, s3, s4, .un, .un, .un, .un, .un, .un, .un, .un, .un] = some (mel.map .int) := by
  have hm : ∀ x : Int, 0 ≤ x % 5 ∧ x % 5 < 5 := fun x => ⟨by omega, by omega⟩
  obtain ⟨m, hm1, hme⟩ : ∃ m : Nat, (1 ≤ m ∧ m ≤ 5) ∧ 1 + row.getD 14 0 % 5 = (m : Int) := ⟨(1 + row.getD 14 0 % 5).toNat, by omega, by omega⟩
  refine ⟨(List.range m).map fun k => row.getD (16 + k) 0 % 7 - 2, by rw [List.length_map, List.length_range]; exact hm1, ?_⟩
  have z := lcF_map (vs := [12]) (f := cl rg1 (acons (b2 addD (cst (.int 1)) (b2 modD (cl intD (acons (b2 ixD (lp 1) (cst (.int 14))) anil)) (cst (.int 5)))) anil)) (g := gn 12) (fe := b2 subD (b2 modD (cl intD (acons (b2 ixD (lp 1) (b2 addD (cst (.int 16)) (lp 12))) anil)) (cst (.int 7))) (cst (.int 2))) (ρ := [s0, .val (.list (row.map .int)), s2, s3, s4, .un, .un, .un, .un, .un, .un, .un, .un, .un])
    (fun k : Nat => (.int (k : Nat) : D)) (fun k => [(12, .int (k : Nat))]) (fun k => .int (row.getD (16 + k) 0 % 7 - 2)) (List.range m) ?_ (by rw [List.length_range]; omega) fun k hk => ⟨rfl, ?_⟩
  · rw [z, List.map_map]; rfl
  · have h0 := at_intL row 14 (by omega) 14 rfl
    have h1 : modD (.int (row.getD 14 0)) (.int 5) = some (.int (row.getD 14 0 % 5)) := o_mod _ _ (by decide)
    generalize row.map PyData.int = w' at h0 ⊢
    simp only [e_cl, e_acons, e_b2, e_lp, getP_succ, getP_zero, sP_val, e_anil, Option.bind_some, e_cst, h0, o_int, h1, o_add, hme]
    exact o_rg1n _ (by omega)
  · have hk : k < m := by simpa using hk
    have h0 := at_intL row (16 + k) (by omega) (16 + (k : Int)) (by omega)
    have h1 : modD (.int (row.getD (16 + k) 0)) (.int 7) = some (.int (row.getD (16 + k) 0 % 7)) := o_mod _ _ (by decide)
    generalize row.map PyData.int = w' at h0 ⊢
    simp only [e_wipe_cons, e_wipe_nil, e_putAll_cons, e_putAll_nil, List.set_cons_succ, List.set_cons_zero, e_cl, e_acons, e_b2, e_lp, getP_succ, getP_zero, sP_val, e_anil, Option.bind_some, e_cst, o_add, h0, o_int, h1, o_sub]
theorem law_true (ns : List Int) (h : ns.length ≤ 63) : gd_law [.list (ns.map .int)] = some (.bool true) := by
  obtain ⟨row, hl, hb, hrow⟩ := row_ok ns 30 (by decide)
  refine fn_ret rfl ?_
  show g_law [.val (.list (ns.map .int)), .un, .un, .un, .un, .un, .un, .un, .un, .un, .un, .un, .un, .un] = _
  have at_ : ∀ (i : Nat), i < 30 → ∀ j : Int, j = i → ixD (.list (row.map PyData.int)) (.int j) = some (.int (row.getD i 0)) := fun i hi j hj => at_intL row i (by omega) j hj
  generalize hsc : (PyData.list (ns.map .int)) = sc at hrow ⊢
  have e1 : cl gd__law_row (acons (lv 0) (acons (cst (.int 30)) anil)) [.val sc, .un, .un, .un, .un, .un, .un, .un, .un, .un, .un, .un, .un, .un] = some (.list (row.map .int)) := by
    rw [row_eq]
    exact hrow
  refine (then_set e1).trans ?_
  obtain ⟨b, hbk, hm5, e2'⟩ := law_book_ok row 0 5 hb (by omega) (by decide) (by decide) (by omega)
  have e2 : cl gd__law_book (acons (lv 1) (acons (cst (.int 0)) (acons (cst (.int 5)) anil))) [.val sc, .val (.list (row.map .int)), .un, .un, .un, .un, .un, .un, .un, .un, .un, .un, .un, .un] = some (encBk b) := by
    rw [q_book]
    exact e2'
  refine (then_set e2).trans ?_
  obtain ⟨p1, e3'⟩ := consonances_ok row 12 (by omega)
  generalize hcs : range13.filter p1 = cs at e3'
  have e3 : cl gd__law_consonances (acons (lv 1) (acons (cst (.int 12)) anil)) [.val sc, .val (.list (row.map .int)), .val (encBk b), .un, .un, .un, .un, .un, .un, .un, .un, .un, .un, .un] = some (enc cs) := by
    rw [q_cons]
    exact e3'
  refine (then_set e3).trans ?_
  obtain ⟨ps, e4'⟩ := perf_ok cs (fun n hn => by rw [← hcs] at hn; exact (List.mem_filter.mp hn).1) (by rw [← hcs]; exact Nat.le_trans (List.length_filter_le _ _) (by simp [range13])) (.list (row.map .int)) _ (at_ 13 (by decide) 13 rfl) (.val sc) (.val (encBk b))
  refine (then_set (d := enc ps) (by rw [e_cl, e_acons, e_toL]; exact congrArg (fun o => Option.bind (Option.bind (Option.map PyData.list o) _) tupD) e4')).trans ?_
  obtain ⟨mel, hmel, e5'⟩ := mel_ok row hl (.val sc) (.val (encBk b)) (.val (enc cs)) (.val (enc ps))
  refine (then_set (d := enc mel) (by rw [e_cl, e_acons, e_toL]; exact congrArg (fun o => Option.bind (Option.bind (Option.map PyData.list o) _) tupD) e5')).trans ?_
  refine (then_setL (d := []) rfl).trans ?_
  obtain ⟨k, hk⟩ : ∃ k, mel.length = k + 1 := ⟨mel.length - 1, by omega⟩
  obtain ⟨u7, u8, u9, e6⟩ := gather b hbk cs ps mel k hk (by omega) (.val sc) (.val (.list (row.map .int)))
  have hbg := begun_ok b hbk k (by omega)
  have ef : u1 seqOf (cl gd__law_begun (acons (lv 2) (acons (cl lenD (acons (lp 5) anil)) anil))) [.val sc, .val (.list (row.map .int)), .val (encBk b), .val (enc cs), .val (enc ps), .val (enc mel), .ol [], .un, .un, .un, .un, .un, .un, .un] = some ((begunB b k).map enc) := by
    rw [q_bgn]
    have hln : lenD [(enc mel : D)] = some (.int ((k : Int) + 1)) := by
      rw [enc_list, o_lenT, List.length_map, hk, Int.natCast_add]; rfl
    generalize (enc mel : D) = z0 at hln ⊢
    generalize encBk b = z1 at hbg ⊢
    simp only [e_u1, e_cl, e_acons, e_lv, e_lp, getV_succ, getV_zero, getP_succ, getP_zero, sV_val, sP_val, Option.bind_some, e_anil, hln, hbg, e_seqOf]
  refine (then_nx (for_of ef e6)).trans ?_
  refine (then_set (d := .none) rfl).trans ?_
  have hco := count_ok b hbk cs ps mel (by omega) (by omega)
  have hle := least_ok b hbk cs ps mel (by omega) (by omega)
  have hGl : ∀ w ∈ goodL b cs ps mel, w.length ≤ 1000 := fun w hw => by
    rw [goodL_eq b hbk cs ps mel k hk] at hw
    have := (begun_mem b hbk k w (List.mem_filter.mp hw).1).1
    omega
  have hlk : ∀ d, likeOk 7 d = true → gd__law_like [d, d] = some (.bool true) := fun d hd => by
    rw [like_is]; exact like_self 7 d hd
  generalize goodL b cs ps mel = GL at hco hle hGl ⊢
  have k1 := hlk (.int GL.length) rfl
  have k2 := hlk (((minO GL).map fun w => (enc w : D)).getD .none) (by
    cases hm : minO GL with
    | none => rfl
    | some m => exact likeok_ints m (hGl m (minO_spec hm).1))
  have hfin : ∀ due : D, due = (((minO GL).map fun w => (enc w : D)).getD .none) → (thenF (ifF (tn (tb (cl gd__law_like (acons (cl gd_count_against (acons (lv 2) (acons (lv 3) (acons (lv 4) (acons (lv 5) anil))))) (acons (cl lenD (acons (lp 6) anil)) anil)))))
     (retF (cst (.bool false)))
     skip)
     (retF (cl gd__law_like (acons (cl gd_least_against (acons (lv 2) (acons (lv 3) (acons (lv 4) (acons (lv 5) anil))))) (acons (lv 10) anil))))) [.val sc, .val (.list (row.map .int)), .val (encBk b), .val (enc cs), .val (enc ps), .val (enc mel), .ol (GL.map enc), u7, u8, u9, .val due, .un, .un, .un] = some (.rt (.bool true)) := by
    intro due hdue
    rw [← hdue] at hle k2
    have hln : lenD [.list (GL.map (enc : List Int → D))] = some (.int GL.length) := by rw [o_lenL, List.length_map]
    generalize GL.map (enc : List Int → D) = y at hln ⊢
    generalize encBk b = z0 at hco hle ⊢
    generalize (enc cs : D) = z1 at hco hle ⊢
    generalize (enc ps : D) = z2 at hco hle ⊢
    generalize (enc mel : D) = z3 at hco hle ⊢
    refine (then_if_f (ρ' := [.val sc, .val (.list (row.map .int)), .val z0, .val z1, .val z2, .val z3, .ol y, u7, u8, u9, .val due, .un, .un, .un]) ?_ rfl).trans (ret_of ?_)
    · simp only [e_tn, e_tb, e_cl, e_acons, e_lv, e_lp, getV_succ, getV_zero, getP_succ, getP_zero, sV_val, sP_ol, Option.bind_some, e_anil, hco, hln, k1, e_boolOf, Option.map_some, Bool.not_true]
    · simp only [e_cl, e_acons, e_lv, getV_succ, getV_zero, sV_val, Option.bind_some, e_anil, hle, k2]
  cases GL with
  | nil => exact (then_if_f rfl rfl).trans (hfin .none rfl)
  | cons w ws =>
    have hm := minL_some (α := List Int) (by decide) (l := w :: ws) (m := minF w ws) rfl
    have hgt : decide ((0 : Int) < ((w :: ws).length : Nat)) = true := by simp
    refine (then_if_t (ρ' := [.val sc, .val (.list (row.map .int)), .val (encBk b), .val (enc cs), .val (enc ps), .val (enc mel), .ol ((w :: ws).map enc), u7, u8, u9, .val (enc (minF w ws)), .un, .un, .un]) ?_ ?_).trans (hfin _ rfl)
    · have hln : lenD [.list ((w :: ws).map (enc : List Int → D))] = some (.int (w :: ws).length) := by rw [o_lenL, List.length_map]
      generalize (w :: ws).map (enc : List Int → D) = y at hln ⊢
      rw [e_tc, e_cl, e_acons]
      simp only [List.set_cons_succ, List.set_cons_zero, e_lp, getP_succ, getP_zero, sP_ol, Option.bind_some, e_anil, hln, e_cst, PD.gt_int, hgt, e_boolOf]
    · show setF 10 (cl minL (acons (lp 6) anil)) [.val sc, .val (.list (row.map .int)), .val (encBk b), .val (enc cs), .val (enc ps), .val (enc mel), .ol ((w :: ws).map enc), u7, u8, u9, .val .none, .un, .un, .un] = _
      generalize (w :: ws).map (enc : List Int → D) = y at hm ⊢
      simp only [e_setF, e_cl, e_acons, e_lp, getP_succ, getP_zero, sP_ol, Option.bind_some, e_anil, hm, Option.map_some, List.set_cons_succ, List.set_cons_zero]
end K53

namespace K53
open PySem PySem.Spec PyProof.Rows L2 PD
theorem all_mk {P : Program} {w : World} {K : PySem.W.Frag} {h : Heap} {mg : Str → Option Value} (X : K.In h) (G : h.Ns mainGlobals mg) {a_follows a_member_behind a_lines_against a_count_against a_least_against a__law_mixed a__law_row a__law_is_int a__law_like a__law_book a__law_goes a__law_is_line a__law_begun a__law_consonances a_law : Addr}
  {od_follows an_follows : Option Addr} {sl_follows : Array (Option Value)} {oc_follows kV_follows dc_follows pm_follows cd_follows ct_follows : Value}
  {od_member_behind an_member_behind : Option Addr} {sl_member_behind : Array (Option Value)} {oc_member_behind kV_member_behind dc_member_behind pm_member_behind cd_member_behind ct_member_behind : Value}
  {od_lines_against an_lines_against : Option Addr} {sl_lines_against : Array (Option Value)} {oc_lines_against kV_lines_against dc_lines_against pm_lines_against cd_lines_against ct_lines_against : Value}
  {od_count_against an_count_against : Option Addr} {sl_count_against : Array (Option Value)} {oc_count_against kV_count_against dc_count_against pm_count_against cd_count_against ct_count_against : Value}
  {od_least_against an_least_against : Option Addr} {sl_least_against : Array (Option Value)} {oc_least_against kV_least_against dc_least_against pm_least_against cd_least_against ct_least_against : Value}
  {od__law_mixed an__law_mixed : Option Addr} {sl__law_mixed : Array (Option Value)} {oc__law_mixed kV__law_mixed dc__law_mixed pm__law_mixed cd__law_mixed ct__law_mixed : Value}
  {od__law_row an__law_row : Option Addr} {sl__law_row : Array (Option Value)} {oc__law_row kV__law_row dc__law_row pm__law_row cd__law_row ct__law_row : Value}
  {od__law_is_int an__law_is_int : Option Addr} {sl__law_is_int : Array (Option Value)} {oc__law_is_int kV__law_is_int dc__law_is_int pm__law_is_int cd__law_is_int ct__law_is_int : Value}
  {od__law_like an__law_like : Option Addr} {sl__law_like : Array (Option Value)} {oc__law_like kV__law_like dc__law_like pm__law_like cd__law_like ct__law_like : Value}
  {od__law_book an__law_book : Option Addr} {sl__law_book : Array (Option Value)} {oc__law_book kV__law_book dc__law_book pm__law_book cd__law_book ct__law_book : Value}
  {od__law_goes an__law_goes : Option Addr} {sl__law_goes : Array (Option Value)} {oc__law_goes kV__law_goes dc__law_goes pm__law_goes cd__law_goes ct__law_goes : Value}
  {od__law_is_line an__law_is_line : Option Addr} {sl__law_is_line : Array (Option Value)} {oc__law_is_line kV__law_is_line dc__law_is_line pm__law_is_line cd__law_is_line ct__law_is_line : Value}
  {od__law_begun an__law_begun : Option Addr} {sl__law_begun : Array (Option Value)} {oc__law_begun kV__law_begun dc__law_begun pm__law_begun cd__law_begun ct__law_begun : Value}
  {od__law_consonances an__law_consonances : Option Addr} {sl__law_consonances : Array (Option Value)} {oc__law_consonances kV__law_consonances dc__law_consonances pm__law_consonances cd__law_consonances ct__law_consonances : Value}
  {od_law an_law : Option Addr} {sl_law : Array (Option Value)} {oc_law kV_law dc_law pm_law cd_law ct_law : Value}
  (e_follows : PySem.W.nsIn K mainGlobals "follows" = some (some (.ref a_follows))) (l_follows : K.lookup a_follows = some ⟨oc_follows, od_follows, .func (PySem.W.fnOf "follows" "follows" (defArgs s_follows) (defBody s_follows) (defScope s_follows) .none kV_follows dc_follows pm_follows an_follows cd_follows ct_follows), sl_follows⟩) (c_follows : PySem.W.codeIn K cd_follows "follows" = true) (k_follows : PySem.W.keepIn K (.ref a_follows) = true)
  (e_member_behind : PySem.W.nsIn K mainGlobals "member_behind" = some (some (.ref a_member_behind))) (l_member_behind : K.lookup a_member_behind = some ⟨oc_member_behind, od_member_behind, .func (PySem.W.fnOf "member_behind" "member_behind" (defArgs s_member_behind) (defBody s_member_behind) (defScope s_member_behind) .none kV_member_behind dc_member_behind pm_member_behind an_member_behind cd_member_behind ct_member_behind), sl_member_behind⟩) (c_member_behind : PySem.W.codeIn K cd_member_behind "member_behind" = true) (k_member_behind : PySem.W.keepIn K (.ref a_member_behind) = true)
  (e_lines_against : PySem.W.nsIn K mainGlobals "lines_against" = some (some (.ref a_lines_against))) (l_lines_against : K.lookup a_lines_against = some ⟨oc_lines_against, od_lines_against, .func (PySem.W.fnOf "lines_against" "lines_against" (defArgs s_lines_against) (defBody s_lines_against) (defScope s_lines_against) .none kV_lines_against dc_lines_against pm_lines_against an_lines_against cd_lines_against ct_lines_against), sl_lines_against⟩) (c_lines_against : PySem.W.codeIn K cd_lines_against "lines_against" = true) (k_lines_against : PySem.W.keepIn K (.ref a_lines_against) = true)
  (e_count_against : PySem.W.nsIn K mainGlobals "count_against" = some (some (.ref a_count_against))) (l_count_against : K.lookup a_count_against = some ⟨oc_count_against, od_count_against, .func (PySem.W.fnOf "count_against" "count_against" (defArgs s_count_against) (defBody s_count_against) (defScope s_count_against) .none kV_count_against dc_count_against pm_count_against an_count_against cd_count_against ct_count_against), sl_count_against⟩) (c_count_against : PySem.W.codeIn K cd_count_against "count_against" = true) (k_count_against : PySem.W.keepIn K (.ref a_count_against) = true)
  (e_least_against : PySem.W.nsIn K mainGlobals "least_against" = some (some (.ref a_least_against))) (l_least_against : K.lookup a_least_against = some ⟨oc_least_against, od_least_against, .func (PySem.W.fnOf "least_against" "least_against" (defArgs s_least_against) (defBody s_least_against) (defScope s_least_against) .none kV_least_against dc_least_against pm_least_against an_least_against cd_least_against ct_least_against), sl_least_against⟩) (c_least_against : PySem.W.codeIn K cd_least_against "least_against" = true) (k_least_against : PySem.W.keepIn K (.ref a_least_against) = true)
  (e__law_mixed : PySem.W.nsIn K mainGlobals "_law_mixed" = some (some (.ref a__law_mixed))) (l__law_mixed : K.lookup a__law_mixed = some ⟨oc__law_mixed, od__law_mixed, .func (PySem.W.fnOf "_law_mixed" "_law_mixed" (defArgs s__law_mixed) (defBody s__law_mixed) (defScope s__law_mixed) .none kV__law_mixed dc__law_mixed pm__law_mixed an__law_mixed cd__law_mixed ct__law_mixed), sl__law_mixed⟩) (c__law_mixed : PySem.W.codeIn K cd__law_mixed "_law_mixed" = true) (k__law_mixed : PySem.W.keepIn K (.ref a__law_mixed) = true)
  (e__law_row : PySem.W.nsIn K mainGlobals "_law_row" = some (some (.ref a__law_row))) (l__law_row : K.lookup a__law_row = some ⟨oc__law_row, od__law_row, .func (PySem.W.fnOf "_law_row" "_law_row" (defArgs s__law_row) (defBody s__law_row) (defScope s__law_row) .none kV__law_row dc__law_row pm__law_row an__law_row cd__law_row ct__law_row), sl__law_row⟩) (c__law_row : PySem.W.codeIn K cd__law_row "_law_row" = true) (k__law_row : PySem.W.keepIn K (.ref a__law_row) = true)
  (e__law_is_int : PySem.W.nsIn K mainGlobals "_law_is_int" = some (some (.ref a__law_is_int))) (l__law_is_int : K.lookup a__law_is_int = some ⟨oc__law_is_int, od__law_is_int, .func (PySem.W.fnOf "_law_is_int" "_law_is_int" (defArgs s__law_is_int) (defBody s__law_is_int) (defScope s__law_is_int) .none kV__law_is_int dc__law_is_int pm__law_is_int an__law_is_int cd__law_is_int ct__law_is_int), sl__law_is_int⟩) (c__law_is_int : PySem.W.codeIn K cd__law_is_int "_law_is_int" = true) (k__law_is_int : PySem.W.keepIn K (.ref a__law_is_int) = true)
  (e__law_like : PySem.W.nsIn K mainGlobals "_law_like" = some (some (.ref a__law_like))) (l__law_like : K.lookup a__law_like = some ⟨oc__law_like, od__law_like, .func (PySem.W.fnOf "_law_like" "_law_like" (defArgs s__law_like) (defBody s__law_like) (defScope s__law_like) .none kV__law_like dc__law_like pm__law_like an__law_like cd__law_like ct__law_like), sl__law_like⟩) (c__law_like : PySem.W.codeIn K cd__law_like "_law_like" = true) (k__law_like : PySem.W.keepIn K (.ref a__law_like) = true)
  (e__law_book : PySem.W.nsIn K mainGlobals "_law_book" = some (some (.ref a__law_book))) (l__law_book : K.lookup a__law_book = some ⟨oc__law_book, od__law_book, .func (PySem.W.fnOf "_law_book" "_law_book" (defArgs s__law_book) (defBody s__law_book) (defScope s__law_book) .none kV__law_book dc__law_book pm__law_book an__law_book cd__law_book ct__law_book), sl__law_book⟩) (c__law_book : PySem.W.codeIn K cd__law_book "_law_book" = true) (k__law_book : PySem.W.keepIn K (.ref a__law_book) = true)
  (e__law_goes : PySem.W.nsIn K mainGlobals "_law_goes" = some (some (.ref a__law_goes))) (l__law_goes : K.lookup a__law_goes = some ⟨oc__law_goes, od__law_goes, .func (PySem.W.fnOf "_law_goes" "_law_goes" (defArgs s__law_goes) (defBody s__law_goes) (defScope s__law_goes) .none kV__law_goes dc__law_goes pm__law_goes an__law_goes cd__law_goes ct__law_goes), sl__law_goes⟩) (c__law_goes : PySem.W.codeIn K cd__law_goes "_law_goes" = true) (k__law_goes : PySem.W.keepIn K (.ref a__law_goes) = true)
  (e__law_is_line : PySem.W.nsIn K mainGlobals "_law_is_line" = some (some (.ref a__law_is_line))) (l__law_is_line : K.lookup a__law_is_line = some ⟨oc__law_is_line, od__law_is_line, .func (PySem.W.fnOf "_law_is_line" "_law_is_line" (defArgs s__law_is_line) (defBody s__law_is_line) (defScope s__law_is_line) .none kV__law_is_line dc__law_is_line pm__law_is_line an__law_is_line cd__law_is_line ct__law_is_line), sl__law_is_line⟩) (c__law_is_line : PySem.W.codeIn K cd__law_is_line "_law_is_line" = true) (k__law_is_line : PySem.W.keepIn K (.ref a__law_is_line) = true)
  (e__law_begun : PySem.W.nsIn K mainGlobals "_law_begun" = some (some (.ref a__law_begun))) (l__law_begun : K.lookup a__law_begun = some ⟨oc__law_begun, od__law_begun, .func (PySem.W.fnOf "_law_begun" "_law_begun" (defArgs s__law_begun) (defBody s__law_begun) (defScope s__law_begun) .none kV__law_begun dc__law_begun pm__law_begun an__law_begun cd__law_begun ct__law_begun), sl__law_begun⟩) (c__law_begun : PySem.W.codeIn K cd__law_begun "_law_begun" = true) (k__law_begun : PySem.W.keepIn K (.ref a__law_begun) = true)
  (e__law_consonances : PySem.W.nsIn K mainGlobals "_law_consonances" = some (some (.ref a__law_consonances))) (l__law_consonances : K.lookup a__law_consonances = some ⟨oc__law_consonances, od__law_consonances, .func (PySem.W.fnOf "_law_consonances" "_law_consonances" (defArgs s__law_consonances) (defBody s__law_consonances) (defScope s__law_consonances) .none kV__law_consonances dc__law_consonances pm__law_consonances an__law_consonances cd__law_consonances ct__law_consonances), sl__law_consonances⟩) (c__law_consonances : PySem.W.codeIn K cd__law_consonances "_law_consonances" = true) (k__law_consonances : PySem.W.keepIn K (.ref a__law_consonances) = true)
  (e_law : PySem.W.nsIn K mainGlobals "law" = some (some (.ref a_law))) (l_law : K.lookup a_law = some ⟨oc_law, od_law, .func (PySem.W.fnOf "law" "law" (defArgs s_law) (defBody s_law) (defScope s_law) .none kV_law dc_law pm_law an_law cd_law ct_law), sl_law⟩) (c_law : PySem.W.codeIn K cd_law "law" = true) (k_law : PySem.W.keepIn K (.ref a_law) = true)
  (z_abs : PySem.W.nsIn K mainGlobals "abs" = some none)
  (z_len : PySem.W.nsIn K mainGlobals "len" = some none)
  (z_any : PySem.W.nsIn K mainGlobals "any" = some none)
  {t_MOST_STEPS : Tok} (z_MOST_STEPS : PySem.W.nsIn K mainGlobals "MOST_STEPS" = some (some (.int (3) t_MOST_STEPS)))
  (z_range : PySem.W.nsIn K mainGlobals "range" = some none)
  (z_min : PySem.W.nsIn K mainGlobals "min" = some none)
  (z_sum : PySem.W.nsIn K mainGlobals "sum" = some none)
  (z_int : PySem.W.nsIn K mainGlobals "int" = some none)
  (z_isinstance : PySem.W.nsIn K mainGlobals "isinstance" = some none)
  (z_bool : PySem.W.nsIn K mainGlobals "bool" = some none)
  (z_tuple : PySem.W.nsIn K mainGlobals "tuple" = some none)
  (z_all : PySem.W.nsIn K mainGlobals "all" = some none)
  (z_str : PySem.W.nsIn K mainGlobals "str" = some none)
  (z_sorted : PySem.W.nsIn K mainGlobals "sorted" = some none)
  (z_max : PySem.W.nsIn K mainGlobals "max" = some none)
  : Has K mg "law" s_law ["script"] ∧ ∀ base : Heap, K.In base → base.Ns mainGlobals mg → OkF P w K mg base 9 "law" ["script"] gd_law := by
  have Z : Zs mg := ⟨PySem.W.mg_none_of X G z_abs, PySem.W.mg_none_of X G z_len, PySem.W.mg_none_of X G z_any, ⟨_, PySem.W.mg_of X G z_MOST_STEPS⟩, PySem.W.mg_none_of X G z_range, PySem.W.mg_none_of X G z_min, PySem.W.mg_none_of X G z_sum, PySem.W.mg_none_of X G z_int, PySem.W.mg_none_of X G z_isinstance, PySem.W.mg_none_of X G z_bool, PySem.W.mg_none_of X G z_tuple, PySem.W.mg_none_of X G z_all, PySem.W.mg_none_of X G z_str, PySem.W.mg_none_of X G z_sorted, PySem.W.mg_none_of X G z_max⟩
  have H_follows : Has K mg "follows" s_follows ["book", "steps", "step"] := Has.of X G e_follows l_follows c_follows k_follows fun us hl => match us, hl with | [_, _, _], _ => rfl
  have H_member_behind : Has K mg "member_behind" s_member_behind ["book", "member", "note"] := Has.of X G e_member_behind l_member_behind c_member_behind k_member_behind fun us hl => match us, hl with | [_, _, _], _ => rfl
  have H_lines_against : Has K mg "lines_against" s_lines_against ["book", "consonances", "perfect", "melody"] := Has.of X G e_lines_against l_lines_against c_lines_against k_lines_against fun us hl => match us, hl with | [_, _, _, _], _ => rfl
  have H_count_against : Has K mg "count_against" s_count_against ["book", "consonances", "perfect", "melody"] := Has.of X G e_count_against l_count_against c_count_against k_count_against fun us hl => match us, hl with | [_, _, _, _], _ => rfl
  have H_least_against : Has K mg "least_against" s_least_against ["book", "consonances", "perfect", "melody"] := Has.of X G e_least_against l_least_against c_least_against k_least_against fun us hl => match us, hl with | [_, _, _, _], _ => rfl
  have H__law_mixed : Has K mg "_law_mixed" s__law_mixed ["script", "k"] := Has.of X G e__law_mixed l__law_mixed c__law_mixed k__law_mixed fun us hl => match us, hl with | [_, _], _ => rfl
  have H__law_row : Has K mg "_law_row" s__law_row ["script", "many"] := Has.of X G e__law_row l__law_row c__law_row k__law_row fun us hl => match us, hl with | [_, _], _ => rfl
  have H__law_is_int : Has K mg "_law_is_int" s__law_is_int ["value"] := Has.of X G e__law_is_int l__law_is_int c__law_is_int k__law_is_int fun us hl => match us, hl with | [_], _ => rfl
  have H__law_like : Has K mg "_law_like" s__law_like ["value", "due"] := Has.of X G e__law_like l__law_like c__law_like k__law_like fun us hl => match us, hl with | [_, _], _ => rfl
  have H__law_book : Has K mg "_law_book" s__law_book ["row", "at", "most"] := Has.of X G e__law_book l__law_book c__law_book k__law_book fun us hl => match us, hl with | [_, _, _], _ => rfl
  have H__law_goes : Has K mg "_law_goes" s__law_goes ["book", "line"] := Has.of X G e__law_goes l__law_goes c__law_goes k__law_goes fun us hl => match us, hl with | [_, _], _ => rfl
  have H__law_is_line : Has K mg "_law_is_line" s__law_is_line ["book", "line"] := Has.of X G e__law_is_line l__law_is_line c__law_is_line k__law_is_line fun us hl => match us, hl with | [_, _], _ => rfl
  have H__law_begun : Has K mg "_law_begun" s__law_begun ["book", "length"] := Has.of X G e__law_begun l__law_begun c__law_begun k__law_begun fun us hl => match us, hl with | [_, _], _ => rfl
  have H__law_consonances : Has K mg "_law_consonances" s__law_consonances ["row", "at"] := Has.of X G e__law_consonances l__law_consonances c__law_consonances k__law_consonances fun us hl => match us, hl with | [_, _], _ => rfl
  have H_law : Has K mg "law" s_law ["script"] := Has.of X G e_law l_law c_law k_law fun us hl => match us, hl with | [_], _ => rfl
  refine ⟨H_law, fun base hB hN => ?_⟩
  have O_follows := ok_follows (P := P) (w := w) (base := base) Z H_follows 
  have O_member_behind := ok_member_behind (P := P) (w := w) (base := base) Z H_member_behind O_follows
  have O_lines_against := ok_lines_against (P := P) (w := w) (base := base) Z H_lines_against O_member_behind
  have O_count_against := ok_count_against (P := P) (w := w) (base := base) Z H_count_against O_lines_against
  have O_least_against := ok_least_against (P := P) (w := w) (base := base) Z H_least_against O_lines_against
  have O__law_mixed := ok__law_mixed (P := P) (w := w) (base := base) Z H__law_mixed 
  have O__law_row := ok__law_row (P := P) (w := w) (base := base) Z H__law_row O__law_mixed
  have O__law_is_int := ok__law_is_int (P := P) (w := w) (base := base) Z H__law_is_int 
  have O__law_like := ok__law_like (P := P) (w := w) (base := base) Z H__law_like O__law_is_int
  have O__law_book := ok__law_book (P := P) (w := w) (base := base) Z H__law_book 
  have O__law_goes := ok__law_goes (P := P) (w := w) (base := base) Z H__law_goes 
  have O__law_is_line := ok__law_is_line (P := P) (w := w) (base := base) Z H__law_is_line O__law_goes
  have O__law_begun := ok__law_begun (P := P) (w := w) (base := base) Z H__law_begun O__law_goes
  have O__law_consonances := ok__law_consonances (P := P) (w := w) (base := base) Z H__law_consonances 
  have O_law := ok_law (P := P) (w := w) (base := base) Z H_law O__law_row O__law_book O__law_consonances O__law_begun O__law_like O_least_against O__law_is_line O_count_against
  exact O_law
end K53
open PySem PySem.W PyProof.Rows in
set_option maxRecDepth 100000 in
set_option maxHeartbeats 0 in
theorem PySem.Challenge.cw_soundsalike_k53_count_against_holds : PySem.Challenge.rw_soundsalike_k53_count_against.Holds := by
  w_on; o_law; k_head; (case hw => w_witness2)
  k_fill
  refine PD.walkD (l := PySem.Challenge.rw_soundsalike_k53_count_against) (k := 9) (g := K53.gd_law) (st := K53.s_law) rfl rfl ⟨rfl, by decide, by decide⟩ rfl (fun w h Y => PySem.W.kIn_of Y) ?F ?hb K53.law_true
  case F =>
    intro w mg h KX G
    refine' K53.all_mk KX G ?e_follows ?l_follows ?c_follows ?k_follows ?e_member_behind ?l_member_behind ?c_member_behind ?k_member_behind ?e_lines_against ?l_lines_against ?c_lines_against ?k_lines_against ?e_count_against ?l_count_against ?c_count_against ?k_count_against ?e_least_against ?l_least_against ?c_least_against ?k_least_against ?e__law_mixed ?l__law_mixed ?c__law_mixed ?k__law_mixed ?e__law_row ?l__law_row ?c__law_row ?k__law_row ?e__law_is_int ?l__law_is_int ?c__law_is_int ?k__law_is_int ?e__law_like ?l__law_like ?c__law_like ?k__law_like ?e__law_book ?l__law_book ?c__law_book ?k__law_book ?e__law_goes ?l__law_goes ?c__law_goes ?k__law_goes ?e__law_is_line ?l__law_is_line ?c__law_is_line ?k__law_is_line ?e__law_begun ?l__law_begun ?c__law_begun ?k__law_begun ?e__law_consonances ?l__law_consonances ?c__law_consonances ?k__law_consonances ?e_law ?l_law ?c_law ?k_law ?z_abs ?z_len ?z_any ?z_MOST_STEPS ?z_range ?z_min ?z_sum ?z_int ?z_isinstance ?z_bool ?z_tuple ?z_all ?z_str ?z_sorted ?z_max
    (case e_follows => k_is)
    (case l_follows => k_is)
    (case c_follows => k_is)
    (case k_follows => k_is)
    (case e_member_behind => k_is)
    (case l_member_behind => k_is)
    (case c_member_behind => k_is)
    (case k_member_behind => k_is)
    (case e_lines_against => k_is)
    (case l_lines_against => k_is)
    (case c_lines_against => k_is)
    (case k_lines_against => k_is)
    (case e_count_against => k_is)
    (case l_count_against => k_is)
    (case c_count_against => k_is)
    (case k_count_against => k_is)
    (case e_least_against => k_is)
    (case l_least_against => k_is)
    (case c_least_against => k_is)
    (case k_least_against => k_is)
    (case e__law_mixed => k_is)
    (case l__law_mixed => k_is)
    (case c__law_mixed => k_is)
    (case k__law_mixed => k_is)
    (case e__law_row => k_is)
    (case l__law_row => k_is)
    (case c__law_row => k_is)
    (case k__law_row => k_is)
    (case e__law_is_int => k_is)
    (case l__law_is_int => k_is)
    (case c__law_is_int => k_is)
    (case k__law_is_int => k_is)
    (case e__law_like => k_is)
    (case l__law_like => k_is)
    (case c__law_like => k_is)
    (case k__law_like => k_is)
    (case e__law_book => k_is)
    (case l__law_book => k_is)
    (case c__law_book => k_is)
    (case k__law_book => k_is)
    (case e__law_goes => k_is)
    (case l__law_goes => k_is)
    (case c__law_goes => k_is)
    (case k__law_goes => k_is)
    (case e__law_is_line => k_is)
    (case l__law_is_line => k_is)
    (case c__law_is_line => k_is)
    (case k__law_is_line => k_is)
    (case e__law_begun => k_is)
    (case l__law_begun => k_is)
    (case c__law_begun => k_is)
    (case k__law_begun => k_is)
    (case e__law_consonances => k_is)
    (case l__law_consonances => k_is)
    (case c__law_consonances => k_is)
    (case k__law_consonances => k_is)
    (case e_law => k_is)
    (case l_law => k_is)
    (case c_law => k_is)
    (case k_law => k_is)
    (case z_abs => k_is)
    (case z_len => k_is)
    (case z_any => k_is)
    (case z_MOST_STEPS => k_is)
    (case z_range => k_is)
    (case z_min => k_is)
    (case z_sum => k_is)
    (case z_int => k_is)
    (case z_isinstance => k_is)
    (case z_bool => k_is)
    (case z_tuple => k_is)
    (case z_all => k_is)
    (case z_str => k_is)
    (case z_sorted => k_is)
    (case z_max => k_is)
  case hb =>
    intro fd kk a F s u
    obtain ⟨_, _, _, _, _, _, _, _, _, rfl, _, _⟩ := F.ex
    exact .of_eq rfl
